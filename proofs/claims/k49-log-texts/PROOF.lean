import PyProof.Rows.All
import Wide.All
import OpenK.AllK
import Wide.FinOn
import HandS.ForMost
import HandS.Exc
import HandS.TryMany
import HandS.ExcInit
import HandS.WordsExc
import HandS.Defaults
import HandS.HeadHook2
import HandS.TupAny
import HandS.TupLe
import HandS.Deep
import HandS.Codes
import HandS.Wide
import HandS.Style
import HandS.IsInst
import HandS.Conv
import HandS.SortInts
import HandS.RaiseMore
import HandS.StrMore
import HandS.Rev
import HandS.RevRange
import HandS.FStr
import HandS.Small
import HandS.ExcField
import KE.KExcIs
import HandS.ExcIs
import HandS.Nested
import HandS.Replace
import HandS.BoundList
import KE.GoesMore
import HandS.HeadHook4
import HandS.HotCalls
import HandS.Head2
import HandS.EndTab
import HandS.HeadWalk
import PySem.Challenge.RW_trunkcall_k49_log_texts
set_option Elab.async false
set_option linter.all false
set_option maxRecDepth 100000
set_option maxHeartbeats 0
/-! DL: a layer of plain data over HandS -/
namespace DL
open PySem PySem.Spec PyProof.Rows L2

/-! ### heaps -/
theorem same_sqT {K : PySem.W.Frag} {H H' : Hp} {a : Addr} {xs : List V} (e : Same H H') (h : SqT K H a xs) : SqT K H' a xs := by
  rcases h with (h | ⟨o, h⟩) | h
  · exact .inl (.inl (e _ _ h))
  · exact .inl (.inr ⟨o, e _ _ h⟩)
  · exact .inr h
mutual
theorem dp_mono {K : PySem.W.Frag} {H H' : Hp} (e : Same H H') : ∀ (d : PyData) (v : V), Dp K H v d → Dp K H' v d
  | .none, _, h => by cases h; exact .non
  | .bool b, _, h => by cases h; exact .bl b
  | .int i, _, h => by cases h; exact .int i
  | .str x, _, h => by cases h; exact .str x
  | .list ds, _, h => by
    cases h with
    | lst hs ha => exact .lst (e.seq hs) (dpA_mono e ds _ ha)
  | .tuple ds, _, h => by
    cases h with
    | tup hs ha => exact .tup (same_sqT e hs) (dpA_mono e ds _ ha)
  | .dict _, _, h => by cases h
theorem dpA_mono {K : PySem.W.Frag} {H H' : Hp} (e : Same H H') : ∀ (ds : List PyData) (vs : List V), DpAll K H vs ds → DpAll K H' vs ds
  | [], _, h => by cases h; exact .nil
  | d :: ds, _, h => by
    cases h with
    | cons h1 h2 => exact .cons (dp_mono e d _ h1) (dpA_mono e ds _ h2)
end
mutual
def nolist : PyData → Bool
  | .list _ => false
  | .dict _ => false
  | .tuple xs => nolistA xs
  | _ => true
def nolistA : List PyData → Bool
  | [] => true
  | x :: xs => nolist x && nolistA xs
end
mutual
theorem dp_nolist {K : PySem.W.Frag} {H H' : Hp} (e : ∀ a xs, SqT K H a xs → SqT K H' a xs) : ∀ (d : PyData) (v : V), nolist d = true → Dp K H v d → Dp K H' v d
  | .none, _, _, h => by cases h; exact .non
  | .bool b, _, _, h => by cases h; exact .bl b
  | .int i, _, _, h => by cases h; exact .int i
  | .str x, _, _, h => by cases h; exact .str x
  | .list ds, _, n, h => by simp [nolist] at n
  | .tuple ds, _, n, h => by
    cases h with
    | tup hs ha => exact .tup (e _ _ hs) (dpA_nolist e ds _ (by simpa [nolist] using n) ha)
  | .dict _, _, _, h => by cases h
theorem dpA_nolist {K : PySem.W.Frag} {H H' : Hp} (e : ∀ a xs, SqT K H a xs → SqT K H' a xs) : ∀ (ds : List PyData) (vs : List V), nolistA ds = true → DpAll K H vs ds → DpAll K H' vs ds
  | [], _, _, h => by cases h; exact .nil
  | d :: ds, _, n, h => by
    cases h with
    | cons h1 h2 =>
      simp only [nolistA, Bool.and_eq_true] at n
      exact .cons (dp_nolist e d _ n.1 h1) (dpA_nolist e ds _ n.2 h2)
end
theorem dpA_len {K : PySem.W.Frag} {H : Hp} : ∀ {vs : List V} {ds : List PyData}, DpAll K H vs ds → vs.length = ds.length
  | _, [], h => by cases h; rfl
  | _, d :: ds, h => by
    cases h with
    | cons h1 h2 => simp [dpA_len h2]
theorem dpA_get {K : PySem.W.Frag} {H : Hp} : ∀ {vs : List V} {ds : List PyData} {i : Nat} {v : V}, DpAll K H vs ds → vs[i]? = some v → ∃ d, ds[i]? = some d ∧ Dp K H v d
  | _, [], _, _, h, e => by cases h; simp at e
  | _, d :: ds, i, v, h, e => by
    cases h with
    | cons h1 h2 =>
      cases i with
      | zero => simp at e; subst e; exact ⟨d, rfl, h1⟩
      | succ i => exact dpA_get (i := i) h2 (by simpa using e)
theorem dpA_get' {K : PySem.W.Frag} {H : Hp} {vs : List V} {ds : List PyData} {i : Nat} {d : PyData} (h : DpAll K H vs ds) (e : ds[i]? = some d) : ∃ v, vs[i]? = some v ∧ Dp K H v d := by
  have hl := dpA_len h
  have hi : i < vs.length := by rw [hl]; exact (List.getElem?_eq_some_iff.mp e).1
  obtain ⟨d', h1, h2⟩ := dpA_get (i := i) (v := vs[i]) h (List.getElem?_eq_getElem hi)
  rw [e] at h1; cases h1
  exact ⟨_, List.getElem?_eq_getElem hi, h2⟩
theorem dpA_app {K : PySem.W.Frag} {H : Hp} : ∀ {vs : List V} {ds : List PyData} {ws : List V} {es : List PyData}, DpAll K H vs ds → DpAll K H ws es → DpAll K H (vs ++ ws) (ds ++ es)
  | _, [], _, _, h, h' => by cases h; exact h'
  | _, d :: ds, _, _, h, h' => by
    cases h with
    | cons h1 h2 => exact .cons h1 (dpA_app h2 h')
theorem dpA_set {K : PySem.W.Frag} {H : Hp} {v : V} {d : PyData} (r : Dp K H v d) : ∀ {vs : List V} {ds : List PyData} (i : Nat), DpAll K H vs ds → DpAll K H (vs.set i v) (ds.set i d)
  | _, [], _, h => by cases h; exact .nil
  | _, e :: ds, i, h => by
    cases h with
    | cons h1 h2 =>
      cases i with
      | zero => exact .cons r h2
      | succ i => exact .cons h1 (dpA_set r i h2)
theorem dpA_take {K : PySem.W.Frag} {H : Hp} : ∀ {vs : List V} {ds : List PyData} (i : Nat), DpAll K H vs ds → DpAll K H (vs.take i) (ds.take i)
  | _, [], _, h => by cases h; simp; exact .nil
  | _, e :: ds, i, h => by
    cases h with
    | cons h1 h2 =>
      cases i with
      | zero => exact .nil
      | succ i => exact .cons h1 (dpA_take i h2)
theorem dpA_drop {K : PySem.W.Frag} {H : Hp} : ∀ {vs : List V} {ds : List PyData} (i : Nat), DpAll K H vs ds → DpAll K H (vs.drop i) (ds.drop i)
  | _, [], _, h => by cases h; simp; exact .nil
  | _, e :: ds, i, h => by
    cases h with
    | cons h1 h2 =>
      cases i with
      | zero => exact .cons h1 h2
      | succ i => exact dpA_drop i h2

/-! ### worlds: L the loose objects, N the others, F those that no slot owns -/
abbrev Ls := Addr → Bool
def tblB : HO → Bool
  | .tbl _ => true
  | _ => false
/-- without the loose ones and the tables of code objects -/
def hid (L : Ls) (H : Hp) : Hp := fun a => if L a = true then none else match H a with
  | some o => if tblB o = true then none else some o
  | none => none
def mutB : HO → Bool
  | .lst _ => true
  | .dK _ => true
  | .dT _ => true
  | .set _ _ => true
  | .ins _ _ _ => true
  | _ => false
/-- n: what stood at the frame's entry; k: what must stay -/
structure Gd where
  n : Hp
  k : Hp
/-- without what is mutable and known to G -/
def nw (G : Gd) (F : Hp) : Hp := fun a => match F a with
  | some o => if (mutB o && (G.n a).isSome) = true then none else some o
  | none => none
def Step (L : Ls) (H : Hp) (L' : Ls) (H' : Hp) : Prop := Same (hid L H) (hid L' H') ∧ ∀ a, L a = true → L' a = true
theorem Step.refl (L : Ls) (H : Hp) : Step L H L H := ⟨Same.refl _, fun _ h => h⟩
theorem Step.trans {L L1 L2 : Ls} {H H1 H2 : Hp} (a : Step L H L1 H1) (b : Step L1 H1 L2 H2) : Step L H L2 H2 := ⟨a.1.trans b.1, fun c h => b.2 c (a.2 c h)⟩
theorem hid_le (L : Ls) (H : Hp) : Same (hid L H) H := fun a o h => by
  unfold hid at h
  split at h
  · cases h
  · split at h
    · split at h
      · cases h
      · rename_i e _; rw [e]; exact h
    · cases h
theorem hid_of {L : Ls} {H : Hp} {a : Addr} {o : HO} (l : L a = false) (h : H a = some o) (n : tblB o = false) : hid L H a = some o := by
  unfold hid; rw [if_neg (by rw [l]; decide), h]; simp [n]
theorem hid_nl {L : Ls} {H : Hp} {a : Addr} {o : HO} (h : hid L H a = some o) : L a = false := by
  cases z : L a with
  | false => rfl
  | true => unfold hid at h; rw [if_pos z] at h; cases h
theorem hid_nt {L : Ls} {H : Hp} {a : Addr} {o : HO} (h : hid L H a = some o) : tblB o = false := by
  have e := hid_le L H a o h
  have l := hid_nl h
  unfold hid at h
  rw [if_neg (by rw [l]; decide), e] at h
  cases z : tblB o with
  | false => rfl
  | true => simp [z] at h
/-- what loose things are; what else stays true of the heap -/
structure Lk where
  ok : HO → Prop
  amb : Hp → Prop
  mono : ∀ H H' : Hp, (∀ b o, H b = some o → mutB o = false → H' b = some o) → amb H → amb H'
def LkOk (LK : Lk) (L : Ls) (H : Hp) : Prop := (∀ a, L a = true → ∃ o, H a = some o ∧ LK.ok o) ∧ LK.amb H
theorem nw_le (G : Gd) (F : Hp) : Same (nw G F) F := fun a o h => by
  unfold nw at h
  split at h
  · split at h
    · cases h
    · rename_i o' e _
      rw [e]; exact h
  · cases h
theorem nw_mono {G : Gd} {F F' : Hp} (e : Same F F') : Same (nw G F) (nw G F') := fun a o h => by
  have h1 : F a = some o := nw_le G F a o h
  have h2 := e _ _ h1
  unfold nw at h ⊢
  rw [h1] at h; rw [h2]; exact h
theorem nw_imm {G : Gd} {F : Hp} {a : Addr} {o : HO} (h : F a = some o) (m : mutB o = false) : nw G F a = some o := by
  unfold nw; rw [h]; simp [m]
theorem nw_new {G : Gd} {F : Hp} {a : Addr} {o : HO} (h : F a = some o) (m : G.n a = none) : nw G F a = some o := by
  unfold nw; rw [h]; simp [m]
theorem nw_anti {G G' : Gd} {F : Hp} (e : ∀ a, G'.n a = none → G.n a = none) : Same (nw G' F) (nw G F) := fun a o h => by
  have h1 : F a = some o := nw_le G' F a o h
  unfold nw at h ⊢
  rw [h1] at h ⊢
  simp only at h ⊢
  cases m : mutB o with
  | false => simp
  | true =>
    cases q : G'.n a with
    | none => simp [e a q]
    | some z => simp [m, q] at h
structure Exn where
  cls : Str
  fs : List (Str × PyData)
/-- values as they stand in a slot, or come from an expression; fn: a function, with what stands for it; xn: a caught exception -/
inductive SV where
  | d (x : PyData) | own (xs : List PyData) | oK (kvs : List (Key × PyData)) | oT (kvs : List (List Key × PyData)) | rK (kvs : List (Key × PyData)) | rT (kvs : List (List Key × PyData)) | tok
  | tk (b : Addr) (xs : List PyData) | fn (kf : Hp) (f : Addr) | xn (a : Addr) (c : Value) (d : Option Addr) (x : Exn)
abbrev DS := List (Option SV)
def isOwn : SV → Bool
  | .own _ => true
  | .oK _ => true
  | .oT _ => true
  | .tk _ _ => true
  | _ => false
def KD {κ : Type} (K : PySem.W.Frag) (M : Hp) (vs : List (κ × V)) (ds : List (κ × PyData)) : Prop := Paired (fun (p : κ × V) (q : κ × PyData) => p.1 = q.1 ∧ Dp K M p.2 q.2) vs ds
theorem paired_imp {α β : Type} {F G : α → β → Prop} (f : ∀ a b, F a b → G a b) : ∀ {xs : List α} {ys : List β}, Paired F xs ys → Paired G xs ys
  | _, _, .nil => .nil
  | _, _, .cons r t => .cons (f _ _ r) (paired_imp f t)
theorem kd_mono {κ : Type} {K : PySem.W.Frag} {M M' : Hp} (e : Same M M') {vs : List (κ × V)} {ds : List (κ × PyData)} (h : KD K M vs ds) : KD K M' vs ds := paired_imp (fun _ _ z => ⟨z.1, dp_mono e _ _ z.2⟩) h
def ExOk (K : PySem.W.Frag) (M : Hp) (x : Exn) (c : Value) (d : Option Addr) : Prop :=
  c = .ref (He.ga K x.cls) ∧ ((d = none ∧ x.fs = []) ∨ ∃ dd fs, d = some dd ∧ M dd = some (.xd fs) ∧ ∀ p ∈ x.fs, ∃ v, fs.lookup p.1 = some v ∧ Dp K M v p.2)
theorem exOk_mono {K : PySem.W.Frag} {M M' : Hp} {x : Exn} {c : Value} {d : Option Addr} (e : Same M M') (h : ExOk K M x c d) : ExOk K M' x c d :=
  ⟨h.1, h.2.imp_right fun ⟨dd, fs, h1, h2, h3⟩ => ⟨dd, fs, h1, e _ _ h2, fun p hp => let ⟨v, a, b⟩ := h3 p hp; ⟨v, a, dp_mono e _ _ b⟩⟩⟩
/-- a value read in M -/
def SvOk (K : PySem.W.Frag) (M : Hp) (L : Ls) (v : V) : SV → Prop
  | .d x => Dp K M v x
  | .own xs => ∃ a vs, v = .ref a ∧ M a = some (.lst vs) ∧ DpAll K M vs xs
  | .oK kvs => ∃ a vs, v = .ref a ∧ M a = some (.dK vs) ∧ KD K M vs kvs
  | .oT kvs => ∃ a vs, v = .ref a ∧ M a = some (.dT vs) ∧ KD K M vs kvs
  | .rK kvs => ∃ a vs, v = .ref a ∧ M a = some (.dK vs) ∧ KD K M vs kvs
  | .rT kvs => ∃ a vs, v = .ref a ∧ M a = some (.dT vs) ∧ KD K M vs kvs
  | .tok => ∃ a, v = .ref a ∧ L a = true
  | .tk b xs => ∃ vs, v = .ref b ∧ M b = some (.lst vs) ∧ DpAll K M vs xs
  | .fn kf f => v = .ref f ∧ Same kf M
  | .xn a c d x => v = .ref a ∧ ExOk K M x c d
theorem svOk_mono {K : PySem.W.Frag} {M M' : Hp} {L L' : Ls} (e : Same M M') (l : ∀ a, L a = true → L' a = true) : ∀ {v : V} {sv : SV}, SvOk K M L v sv → SvOk K M' L' v sv
  | _, .d x, h => dp_mono e _ _ h
  | _, .own xs, ⟨a, vs, h1, h2, h3⟩ => ⟨a, vs, h1, e _ _ h2, dpA_mono e _ _ h3⟩
  | _, .oK xs, ⟨a, vs, h1, h2, h3⟩ => ⟨a, vs, h1, e _ _ h2, kd_mono e h3⟩
  | _, .oT xs, ⟨a, vs, h1, h2, h3⟩ => ⟨a, vs, h1, e _ _ h2, kd_mono e h3⟩
  | _, .rK xs, ⟨a, vs, h1, h2, h3⟩ => ⟨a, vs, h1, e _ _ h2, kd_mono e h3⟩
  | _, .rT xs, ⟨a, vs, h1, h2, h3⟩ => ⟨a, vs, h1, e _ _ h2, kd_mono e h3⟩
  | _, .tok, ⟨a, h1, h2⟩ => ⟨a, h1, l _ h2⟩
  | _, .tk b xs, ⟨vs, h1, h2, h3⟩ => ⟨vs, h1, e _ _ h2, dpA_mono e _ _ h3⟩
  | _, .fn kf f, ⟨h1, h2⟩ => ⟨h1, h2.trans e⟩
  | _, .xn _ _ _ _, ⟨h1, h2⟩ => ⟨h1, exOk_mono e h2⟩
/-- a value as a slot holds it: what a slot owns stands in N, all else in F -/
def SlotOk (K : PySem.W.Frag) (G : Gd) (F N : Hp) (L : Ls) (v : V) : SV → Prop
  | .own xs => ∃ a vs, v = .ref a ∧ N a = some (.lst vs) ∧ DpAll K (nw G F) vs xs
  | .oK kvs => ∃ a vs, v = .ref a ∧ N a = some (.dK vs) ∧ KD K (nw G F) vs kvs
  | .oT kvs => ∃ a vs, v = .ref a ∧ N a = some (.dT vs) ∧ KD K (nw G F) vs kvs
  | .tk b xs => ∃ vs, v = .ref b ∧ N b = some (.lst vs) ∧ DpAll K (nw G F) vs xs
  | sv => SvOk K F L v sv
def OwnA (δ : DS) (σ : L2.St) (a : Addr) : Prop := ∃ (i : Nat) (sv : SV), δ[i]? = some (some sv) ∧ isOwn sv = true ∧ σ[i]? = some (some (.ref a))
open Classical in
noncomputable def fz (L : Ls) (δ : DS) (σ : L2.St) (H : Hp) : Hp := fun a => if OwnA δ σ a then none else hid L H a
theorem fz_le (L : Ls) (δ : DS) (σ : L2.St) (H : Hp) : Same (fz L δ σ H) (hid L H) := fun a o h => by
  unfold fz at h
  split at h
  · cases h
  · exact h
theorem fz_of {L : Ls} {δ : DS} {σ : L2.St} {H : Hp} {a : Addr} {o : HO} (h : hid L H a = some o) (n : ¬ OwnA δ σ a) : fz L δ σ H a = some o := by
  unfold fz; rw [if_neg n]; exact h
theorem fz_own {L : Ls} {δ : DS} {σ : L2.St} {H : Hp} {a : Addr} (n : OwnA δ σ a) : fz L δ σ H a = none := by
  unfold fz; rw [if_pos n]
theorem fz_not {L : Ls} {δ : DS} {σ : L2.St} {H : Hp} {a : Addr} {o : HO} (h : fz L δ σ H a = some o) : ¬ OwnA δ σ a := fun n => by
  rw [fz_own n] at h; cases h
structure Rel (K : PySem.W.Frag) (LK : Lk) (G : Gd) (L : Ls) (δ : DS) (σ : L2.St) (H : Hp) : Prop where
  gn : Same G.n G.k
  g : Same G.k (fz L δ σ H)
  lk : LkOk LK L H
  sl : ∀ (i : Nat) (sv : SV), δ[i]? = some (some sv) → ∃ v, σ[i]? = some (some v) ∧ SlotOk K G (fz L δ σ H) (hid L H) L v sv
  ow : ∀ (i j : Nat) (a : Addr) (si sj : SV), i ≠ j → δ[i]? = some (some si) → δ[j]? = some (some sj) → isOwn si = true → isOwn sj = true → σ[i]? = some (some (.ref a)) → σ[j]? = some (some (.ref a)) → False
  ln : δ.length = σ.length
section
variable {K : PySem.W.Frag} {LK : Lk} {G : Gd} {L L' L0 : Ls} {δ : DS} {σ : L2.St} {H H' H0 : Hp}
theorem slotOk_mono {F F' N N' : Hp} (eF : Same F F') (eN : Same N N') (l : ∀ a, L a = true → L' a = true) : ∀ {v : V} {sv : SV}, SlotOk K G F N L v sv → SlotOk K G F' N' L' v sv
  | _, .own xs, ⟨a, vs, h1, h2, h3⟩ => ⟨a, vs, h1, eN _ _ h2, dpA_mono (nw_mono eF) _ _ h3⟩
  | _, .oK xs, ⟨a, vs, h1, h2, h3⟩ => ⟨a, vs, h1, eN _ _ h2, kd_mono (nw_mono eF) h3⟩
  | _, .oT xs, ⟨a, vs, h1, h2, h3⟩ => ⟨a, vs, h1, eN _ _ h2, kd_mono (nw_mono eF) h3⟩
  | _, .tk b xs, ⟨vs, h1, h2, h3⟩ => ⟨vs, h1, eN _ _ h2, dpA_mono (nw_mono eF) _ _ h3⟩
  | _, .d x, h => svOk_mono (sv := .d x) eF l h
  | _, .rK x, h => svOk_mono (sv := .rK x) eF l h
  | _, .rT x, h => svOk_mono (sv := .rT x) eF l h
  | _, .tok, h => svOk_mono (K := K) (sv := .tok) eF l h
  | _, .fn kf f, h => svOk_mono (K := K) (sv := .fn kf f) eF l h
  | _, .xn a c d x, h => svOk_mono (K := K) (sv := .xn a c d x) eF l h
theorem Rel.ownN (R : Rel K LK G L δ σ H) {a : Addr} (o : OwnA δ σ a) : ∃ u, hid L H a = some u ∧ mutB u = true := by
  obtain ⟨i, sv, h1, h2, h3⟩ := o
  obtain ⟨v, hv, s⟩ := R.sl i sv h1
  rw [h3] at hv
  have ev : V.ref a = v := Option.some.inj (Option.some.inj hv)
  subst ev
  cases sv with
  | own xs => obtain ⟨b, vs, e, n, _⟩ := s; cases e; exact ⟨_, n, rfl⟩
  | oK xs => obtain ⟨b, vs, e, n, _⟩ := s; cases e; exact ⟨_, n, rfl⟩
  | oT xs => obtain ⟨b, vs, e, n, _⟩ := s; cases e; exact ⟨_, n, rfl⟩
  | tk b xs => obtain ⟨vs, e, n, _⟩ := s; cases e; exact ⟨_, n, rfl⟩
  | _ => simp [isOwn] at h2
theorem fz_step (st : Step L H L' H') : Same (fz L δ σ H) (fz L' δ σ H') := fun a o h =>
  fz_of (st.1 _ _ (fz_le _ _ _ _ _ _ h)) (fz_not h)
theorem Rel.step (R : Rel K LK G L δ σ H) (st : Step L H L' H') (lk : LkOk LK L' H') : Rel K LK G L' δ σ H' :=
  ⟨R.gn, R.g.trans (fz_step st), lk, fun i sv h => by
    obtain ⟨v, h1, h2⟩ := R.sl i sv h
    exact ⟨v, h1, slotOk_mono (fz_step st) st.1 st.2 h2⟩, R.ow, R.ln⟩
theorem Rel.loose (R : Rel K LK G L δ σ H) {p : Addr} (h : H p = none) : L p = false := by
  cases q : L p with
  | false => rfl
  | true => obtain ⟨o, e, _⟩ := R.lk.1 p q; rw [h] at e; cases e
theorem same_upd {p : Addr} {o : HO} (h : H p = none) : Same H (upd H p o) := fun b u e => by
  rw [upd_ne (ne_of_none e h)]; exact e
theorem hid_upd {p : Addr} {o : HO} (h : L p = false) (nt : tblB o = false := by rfl) : hid L (upd H p o) = upd (hid L H) p o := by
  funext a
  unfold hid upd
  by_cases e : a = p
  · subst e; simp [h, nt]
  · simp [e]
theorem hid_none {p : Addr} (h : H p = none) : hid L H p = none := by
  unfold hid; split <;> simp [h]
theorem Rel.stepNew (R : Rel K LK G L δ σ H) {p : Addr} {o : HO} (h : H p = none) (nt : tblB o = false := by rfl) : Step L H L (upd H p o) := by
  refine ⟨?_, fun _ z => z⟩
  rw [hid_upd (R.loose h) nt]
  exact same_upd (hid_none h)
theorem LkOk.new (R : LkOk LK L H) {p : Addr} {o : HO} (h : H p = none) : LkOk LK L (upd H p o) :=
  ⟨fun a la => by
    obtain ⟨u, e, k⟩ := R.1 a la
    exact ⟨u, by rw [upd_ne (ne_of_none e h)]; exact e, k⟩, LK.mono _ _ (fun b o e _ => same_upd h _ _ e) R.2⟩
theorem Rel.new (R : Rel K LK G L δ σ H) {p : Addr} {o : HO} (h : H p = none) (nt : tblB o = false := by rfl) : Rel K LK G L δ σ (upd H p o) :=
  R.step (R.stepNew h nt) (R.lk.new h)
theorem rd_sqT {K : PySem.W.Frag} {M M' : Hp} {a : Addr} {xs : List V} (e : ∀ b u, mutB u = false → M b = some u → M' b = some u) (h : SqT K M a xs) : SqT K M' a xs := by
  rcases h with (h | ⟨o, h⟩) | h
  · exact .inl (.inl (e _ _ rfl h))
  · exact .inl (.inr ⟨o, e _ _ rfl h⟩)
  · exact .inr h
theorem Rel.immF (R : Rel K LK G L δ σ H) {b : Addr} {u : HO} (m : mutB u = false) (h : hid L H b = some u) : fz L δ σ H b = some u :=
  fz_of h fun o => by
    obtain ⟨z, e, k⟩ := R.ownN o
    rw [h] at e; cases e; rw [m] at k; cases k
theorem Rel.tupF (R : Rel K LK G L δ σ H) {a : Addr} {xs : List V} (h : SqT K (hid L H) a xs) : SqT K (fz L δ σ H) a xs := rd_sqT (fun _ _ m e => R.immF m e) h
theorem Rel.gF (R : Rel K LK G L δ σ H) : Same G.n (fz L δ σ H) := R.gn.trans R.g
theorem tup_nw {F : Hp} {a : Addr} {xs : List V} (h : SqT K F a xs) : SqT K (nw G F) a xs := rd_sqT (fun _ _ m e => nw_imm e m) h
/-- data without lists may be stored wherever it was read -/
theorem Rel.keep (R : Rel K LK G L δ σ H) {v : V} {x : PyData} (n : nolist x = true) (h : Dp K (hid L H) v x) : Dp K (nw G (fz L δ σ H)) v x :=
  dp_nolist (fun _ _ q => tup_nw (R.tupF q)) _ _ n h
theorem Rel.keepA (R : Rel K LK G L δ σ H) {v : List V} {x : List PyData} (n : nolistA x = true) (h : DpAll K (hid L H) v x) : DpAll K (nw G (fz L δ σ H)) v x :=
  dpA_nolist (fun _ _ q => tup_nw (R.tupF q)) _ _ n h
/-- a slot is filled; a list that it is to own must be new -/
theorem Rel.put (R : Rel K LK G L0 δ σ H0) (st : Step L0 H0 L H) (lk : LkOk LK L H) {i : Nat} {v : V} {sv : SV}
    (nu : isOwn sv = true → ∀ a, v = .ref a → hid L0 H0 a = none)
    (ok : SlotOk K G (fz L (δ.set i (some sv)) (σ.set i (some v)) H) (hid L H) L v sv) : Rel K LK G L (δ.set i (some sv)) (σ.set i (some v)) H := by
  have old : ∀ j s, δ[j]? = some (some s) → isOwn s = true → ∀ b, σ[j]? = some (some (V.ref b)) → hid L0 H0 b ≠ none := fun j s h1 h2 b h3 z => by
    obtain ⟨u, e, _⟩ := R.ownN ⟨j, s, h1, h2, h3⟩
    rw [z] at e; cases e
  have sub : Same (fz L0 δ σ H0) (fz L (δ.set i (some sv)) (σ.set i (some v)) H) := fun b o h => by
    have n0 := fz_not h
    have hN0 := fz_le _ _ _ _ _ _ h
    refine fz_of (st.1 _ _ hN0) ?_
    rintro ⟨j, s, h1, h2, h3⟩
    by_cases hj : j = i
    · subst hj
      have hl : j < δ.length := by
        have := (List.getElem?_eq_some_iff.mp h1).1
        simpa using this
      have hl' : j < σ.length := R.ln ▸ hl
      rw [List.getElem?_set_self hl] at h1
      rw [List.getElem?_set_self hl'] at h3
      cases h1; cases h3
      have := nu h2 b rfl
      rw [this] at hN0; cases hN0
    · rw [List.getElem?_set_ne (Ne.symm hj)] at h1 h3
      exact n0 ⟨j, s, h1, h2, h3⟩
  refine ⟨R.gn, R.g.trans sub, lk, fun j s h => ?_, fun j k b sj sk hjk h1 h2 o1 o2 e1 e2 => ?_, by simp [R.ln]⟩
  · by_cases hj : j = i
    · subst hj
      have hl : j < δ.length := by
        have := (List.getElem?_eq_some_iff.mp h).1
        simpa using this
      have hl' : j < σ.length := R.ln ▸ hl
      rw [List.getElem?_set_self hl] at h
      cases h
      exact ⟨v, List.getElem?_set_self hl', ok⟩
    · rw [List.getElem?_set_ne (Ne.symm hj)] at h ⊢
      obtain ⟨u, h1, h2⟩ := R.sl j s h
      exact ⟨u, h1, slotOk_mono sub st.1 st.2 h2⟩
  · by_cases hj : j = i
    · subst hj
      have hl : j < δ.length := by
        have := (List.getElem?_eq_some_iff.mp h1).1
        simpa using this
      have hl' : j < σ.length := R.ln ▸ hl
      rw [List.getElem?_set_self hl] at h1
      rw [List.getElem?_set_self hl'] at e1
      rw [List.getElem?_set_ne hjk] at h2 e2
      cases h1; cases e1
      exact old k sk h2 o2 b e2 (nu o1 b rfl)
    · rw [List.getElem?_set_ne (Ne.symm hj)] at h1 e1
      by_cases hk : k = i
      · subst hk
        have hl : k < δ.length := by
          have := (List.getElem?_eq_some_iff.mp h2).1
          simpa using this
        have hl' : k < σ.length := R.ln ▸ hl
        rw [List.getElem?_set_self hl] at h2
        rw [List.getElem?_set_self hl'] at e2
        cases h2; cases e2
        exact old j sj h1 o1 b e1 (nu o2 b rfl)
      · rw [List.getElem?_set_ne (Ne.symm hk)] at h2 e2
        exact R.ow j k b sj sk hjk h1 h2 o1 o2 e1 e2
end
end DL

namespace DL
open PySem PySem.Spec PyProof.Rows L2

/-! ### exceptions -/
abbrev TDe := DS → (SV → Prop) → (Exn → Prop) → Prop
abbrev TDt := DS → (Bool → Prop) → (Exn → Prop) → Prop
abbrev TDa := DS → (List SV → Prop) → (Exn → Prop) → Prop
structure Fl where
  o : Bool
  g : Bool
  f : Bool
abbrev fb : Fl := ⟨false, false, false⟩
abbrev fr : Fl := ⟨false, true, false⟩
abbrev fs : Fl := ⟨true, false, false⟩
abbrev fn : Fl := ⟨true, true, false⟩
abbrev ff : Fl := ⟨true, true, true⟩
def pk (fl : Fl) (G : Gd) (F N : Hp) : Hp := match fl.o, fl.g with
  | false, false => N
  | true, false => F
  | false, true => nw G N
  | true, true => nw G F
theorem pk_mono {fl : Fl} {G : Gd} {F N F' N' : Hp} (eF : Same F F') (eN : Same N N') : Same (pk fl G F N) (pk fl G F' N') := by
  unfold pk
  split
  · exact eN
  · exact eF
  · exact nw_mono eN
  · exact nw_mono eF
theorem pk_leN {fl : Fl} {G : Gd} {F N : Hp} (e : Same F N) : Same (pk fl G F N) N := by
  unfold pk
  split
  · exact Same.refl _
  · exact e
  · exact nw_le _ _
  · exact (nw_le _ _).trans e
theorem pk_n {fl : Fl} {G : Gd} {F N : Hp} (e : Same F N) : Same (nw G F) (pk fl G F N) := by
  unfold pk
  split
  · exact (nw_le _ _).trans e
  · exact nw_le _ _
  · exact nw_mono e
  · exact Same.refl _
/-- what comes out: N the others ahead, then F', N', L' -/
def Res (K : PySem.W.Frag) (G : Gd) (fl : Fl) (N F' N' : Hp) (L' : Ls) (v : V) (sv : SV) : Prop :=
  SvOk K (pk fl G F' N') L' v sv ∧ (fl.f = true → isOwn sv = true → ∀ a, v = .ref a → N a = none)
def ResA (K : PySem.W.Frag) (G : Gd) (fl : Fl) (N F' N' : Hp) (L' : Ls) (vs : List V) (svs : List SV) : Prop := Paired (fun v sv => Res K G fl N F' N' L' v sv) vs svs
def lift (K : PySem.W.Frag) (LK : Lk) (W : WX) (fl : Fl) (te : TDe) : TE := fun σ H Q =>
  ∃ (G : Gd) (L : Ls) (δ : DS) (R : SV → Prop) (RX : Exn → Prop), Rel K LK G L δ σ H ∧ te δ R RX ∧
    (∀ sv v L' H', R sv → Step L H L' H' → Rel K LK G L' δ σ H' → Res K G fl (hid L H) (fz L' δ σ H') (hid L' H') L' v sv → Q v H') ∧
    (∀ x c d L' H', RX x → Step L H L' H' → LkOk LK L' H' → ExOk K (nw G (hid L' H')) x c d → W c d σ H')
def liftT (K : PySem.W.Frag) (LK : Lk) (W : WX) (tt : TDt) : TT := fun σ H Q =>
  ∃ (G : Gd) (L : Ls) (δ : DS) (R : Bool → Prop) (RX : Exn → Prop), Rel K LK G L δ σ H ∧ tt δ R RX ∧
    (∀ b L' H', R b → Step L H L' H' → Rel K LK G L' δ σ H' → Q b H') ∧
    (∀ x c d L' H', RX x → Step L H L' H' → LkOk LK L' H' → ExOk K (nw G (hid L' H')) x c d → W c d σ H')
def liftA (K : PySem.W.Frag) (LK : Lk) (W : WX) (fl : Fl) (ta : TDa) : TA := fun σ H Q =>
  ∃ (G : Gd) (L : Ls) (δ : DS) (R : List SV → Prop) (RX : Exn → Prop), Rel K LK G L δ σ H ∧ ta δ R RX ∧
    (∀ svs vs L' H', R svs → Step L H L' H' → Rel K LK G L' δ σ H' → ResA K G fl (hid L H) (fz L' δ σ H') (hid L' H') L' vs svs → Q vs H') ∧
    (∀ x c d L' H', RX x → Step L H L' H' → LkOk LK L' H' → ExOk K (nw G (hid L' H')) x c d → W c d σ H')
def DX (X : Cx) (LK : Lk) (W : WX) (fl : Fl) (e : Expr) (te : TDe) : Prop := PE X e (lift X.K LK W fl te)
def DT (X : Cx) (LK : Lk) (W : WX) (e : Expr) (tt : TDt) : Prop := PT X e (liftT X.K LK W tt)
def DW (X : Cx) (LK : Lk) (W : WX) (e : Expr) (tt : TDt) : Prop := PW X e (liftT X.K LK W tt)
def DA (X : Cx) (LK : Lk) (W : WX) (fl : Fl) (es : List Expr) (ta : TDa) : Prop := PA X es (liftA X.K LK W fl ta)
structure EndsD where
  nx : DS → Prop
  rt : DS → SV → Prop
  xc : DS → Exn → Prop
  bk : DS → Prop := fun _ => False
  ct : DS → Prop := fun _ => False
abbrev TDs := DS → EndsD → Prop
structure EndsOk (K : PySem.W.Frag) (LK : Lk) (W : WX) (G : Gd) (L : Ls) (E : EndsD) (D : Ends) : Prop where
  nx : ∀ δ' L' σ' H', E.nx δ' → (∀ a, L a = true → L' a = true) → Rel K LK G L' δ' σ' H' → D.nx σ' H'
  bk : ∀ δ' L' σ' H', E.bk δ' → (∀ a, L a = true → L' a = true) → Rel K LK G L' δ' σ' H' → D.bk σ' H'
  ct : ∀ δ' L' σ' H', E.ct δ' → (∀ a, L a = true → L' a = true) → Rel K LK G L' δ' σ' H' → D.ct σ' H'
  rt : ∀ sv v δ' L' σ' H' gk, E.rt δ' sv → (∀ a, L a = true → L' a = true) → Rel K LK ⟨G.n, gk⟩ L' δ' σ' H' → SvOk K (nw G (hid L' H')) L' v sv → D.rt v H'
  xc : ∀ x c d δ' L' σ' H', E.xc δ' x → (∀ a, L a = true → L' a = true) → Rel K LK G L' δ' σ' H' → ExOk K (nw G (hid L' H')) x c d → W c d σ' H'
theorem EndsOk.mono {K : PySem.W.Frag} {LK : Lk} {W : WX} {G : Gd} {L L1 : Ls} {E : EndsD} {D : Ends} (h : EndsOk K LK W G L E D) (l : ∀ a, L a = true → L1 a = true) : EndsOk K LK W G L1 E D :=
  ⟨fun a b c d e f g => h.nx a b c d e (fun z y => f z (l z y)) g, fun a b c d e f g => h.bk a b c d e (fun z y => f z (l z y)) g, fun a b c d e f g => h.ct a b c d e (fun z y => f z (l z y)) g,
   fun a b c d e f g k r s t => h.rt a b c d e f g k (fun z y => r z (l z y)) s t, fun a b c d e f g k r s t => h.xc a b c d e f g k (fun z y => r z (l z y)) s t⟩
def liftS (K : PySem.W.Frag) (LK : Lk) (W : WX) (ts : TDs) : TS := fun D σ H =>
  ∃ (G : Gd) (L : Ls) (δ : DS) (E : EndsD), Rel K LK G L δ σ H ∧ ts δ E ∧ EndsOk K LK W G L E D
def D1 (X : Cx) (LK : Lk) (W : WX) (st : Stmt) (ts : TDs) : Prop := PS X st (liftS X.K LK W ts)
def Ds (X : Cx) (LK : Lk) (W : WX) (st : List Stmt) (ts : TDs) : Prop := PSs X st (liftS X.K LK W ts)

/-! ### weakening -/
theorem pe_imp {X : Cx} {e : Expr} {t t' : TE} (h : PE X e t) (i : ∀ σ H Q, t' σ H Q → t σ H Q) : PE X e t' := ⟨fun pins s σ H Q I q => h.run pins s σ H Q I (i σ H Q q)⟩
theorem pt_imp {X : Cx} {e : Expr} {t t' : TT} (h : PT X e t) (i : ∀ σ H Q, t' σ H Q → t σ H Q) : PT X e t' := ⟨fun pins s σ H Q I q => h.run pins s σ H Q I (i σ H Q q)⟩
theorem pw_imp {X : Cx} {e : Expr} {t t' : TT} (h : PW X e t) (i : ∀ σ H Q, t' σ H Q → t σ H Q) : PW X e t' := ⟨fun wh pins s σ H Q I q => h.run wh pins s σ H Q I (i σ H Q q)⟩
theorem pa_imp {X : Cx} {e : List Expr} {t t' : TA} (h : PA X e t) (i : ∀ σ H Q, t' σ H Q → t σ H Q) : PA X e t' := ⟨fun p pins s σ H Q I q => h.run p pins s σ H Q I (i σ H Q q)⟩
theorem ps_imp {X : Cx} {e : Stmt} {t t' : TS} (h : PS X e t) (i : ∀ D σ H, t' D σ H → t D σ H) : PS X e t' := ⟨fun pins s σ H Q I q => h.run pins s σ H Q I (i Q σ H q)⟩
theorem pss_imp {X : Cx} {e : List Stmt} {t t' : TS} (h : PSs X e t) (i : ∀ D σ H, t' D σ H → t D σ H) : PSs X e t' := ⟨fun pins s σ H Q I q => h.run pins s σ H Q I (i Q σ H q)⟩

section
variable {K : PySem.W.Frag} {LK : Lk} {W : WX} {G : Gd} {L L' L1 Lb : Ls} {δ : DS} {σ : L2.St} {H H' H1 H2 : Hp} {fl : Fl} {v : V} {sv : SV} {N : Hp}
theorem Res.step (r : Res K G fl N (fz L1 δ σ H1) (hid L1 H1) L1 v sv) (st : Step L1 H1 Lb H2) : Res K G fl N (fz Lb δ σ H2) (hid Lb H2) Lb v sv :=
  ⟨svOk_mono (pk_mono (fz_step st) st.1) st.2 r.1, r.2⟩
theorem ResA.step {vs : List V} {svs : List SV} (r : ResA K G fl N (fz L1 δ σ H1) (hid L1 H1) L1 vs svs) (st : Step L1 H1 Lb H2) : ResA K G fl N (fz Lb δ σ H2) (hid Lb H2) Lb vs svs :=
  paired_imp (fun _ _ z => z.step st) r
theorem Res.back (r : Res K G fl (hid L1 H1) (fz Lb δ σ H2) (hid Lb H2) Lb v sv) (st : Step L H L1 H1) : Res K G fl (hid L H) (fz Lb δ σ H2) (hid Lb H2) Lb v sv :=
  ⟨r.1, fun a b c d => st.1.free (r.2 a b c d)⟩
theorem ResA.back {vs : List V} {svs : List SV} (r : ResA K G fl (hid L1 H1) (fz Lb δ σ H2) (hid Lb H2) Lb vs svs) (st : Step L H L1 H1) : ResA K G fl (hid L H) (fz Lb δ σ H2) (hid Lb H2) Lb vs svs :=
  paired_imp (fun _ _ z => z.back st) r
/-- as read in all the others -/
theorem Res.b {F : Hp} {NN : Hp} (r : Res K G fl N F NN L' v sv) (e : Same F NN) : SvOk K NN L' v sv := svOk_mono (pk_leN e) (fun _ z => z) r.1
theorem Rel.lkOk (R : Rel K LK G L δ σ H) : LkOk LK L H := R.lk
end

/-! ### the value as data -/
def asD : SV → Option PyData
  | .d x => some x
  | .own xs => some (.list xs)
  | .tk _ xs => some (.list xs)
  | _ => none
theorem asD_ok {K : PySem.W.Frag} {M : Hp} {L : Ls} {v : V} {x : PyData} : ∀ {sv : SV}, asD sv = some x → SvOk K M L v sv → Dp K M v x
  | .d y, e, h => by simp [asD] at e; subst e; exact h
  | .own xs, e, h => by
    simp [asD] at e; subst e
    obtain ⟨a, vs, rfl, h1, h2⟩ := h
    exact .lst (SqL.of h1) h2
  | .oK _, e, _ => by simp [asD] at e
  | .oT _, e, _ => by simp [asD] at e
  | .rK _, e, _ => by simp [asD] at e
  | .rT _, e, _ => by simp [asD] at e
  | .tok, e, _ => by simp [asD] at e
  | .tk b xs, e, h => by
    simp [asD] at e; subst e
    obtain ⟨vs, rfl, h1, h2⟩ := h
    exact .lst (SqL.of h1) h2
  | .fn _ _, e, _ => by simp [asD] at e
  | .xn _ _ _ _, e, _ => by simp [asD] at e
def wD (sv : SV) (R : PyData → Prop) : Prop := match asD sv with
  | some x => R x
  | none => False
theorem wD_out {sv : SV} {R : PyData → Prop} (h : wD sv R) : ∃ x, asD sv = some x ∧ R x := by
  unfold wD at h
  split at h
  · rename_i x e; exact ⟨x, e, h⟩
  · exact h.elim
@[simp] theorem wD_d (x : PyData) (R : PyData → Prop) : wD (.d x) R = R x := rfl
@[simp] theorem wD_tk (b : Addr) (x : List PyData) (R : PyData → Prop) : wD (.tk b x) R = R (.list x) := rfl
@[simp] theorem wD_own (x : List PyData) (R : PyData → Prop) : wD (.own x) R = R (.list x) := rfl
@[simp] theorem wD_tok (R : PyData → Prop) : wD .tok R = False := rfl

/-! ### expressions -/
section
variable {X : Cx} {LK : Lk} {W : WX} {fl fa fb' : Fl} {e a b c : Expr} {pos : Pos} {ta tb tc : TDe}
/-- a value that needs nothing of the heap -/
theorem dx_pure {t : TE} {sv : SV} {v : V} (h : PE X e t) (ht : ∀ σ H Q, Q v H → t σ H Q) (hv : ∀ M L, SvOk X.K M L v sv) (ho : isOwn sv = false) : DX X LK W ff e (fun _ R _ => R sv) :=
  pe_imp h fun σ H Q ⟨G, L, δ, R, RX, rel, r, q, _⟩ => ht σ H Q (q sv v L H r (Step.refl _ _) rel ⟨hv _ _, fun _ z => by rw [ho] at z; cases z⟩)
@[simp] def eC (d : PyData) : TDe := fun _ R _ => R (.d d)
theorem dx_int {i j} : DX X LK W ff (.Constant (.int i) j pos) (eC (.int i)) := dx_pure pe_int (fun _ _ _ h => h) (fun _ _ => Dp.int i) rfl
theorem dx_bool {i j} : DX X LK W ff (.Constant (.bool i) j pos) (eC (.bool i)) := dx_pure pe_bl (fun _ _ _ h => h) (fun _ _ => Dp.bl i) rfl
theorem dx_none {j} : DX X LK W ff (.Constant .none j pos) (eC .none) := dx_pure pe_non (fun _ _ _ h => h) (fun _ _ => Dp.non) rfl
theorem dx_str {i j} : DX X LK W ff (.Constant (.str i) j pos) (eC (.str i)) := dx_pure pe_str (fun _ _ _ h => h) (fun _ _ => Dp.str i) rfl
/-- a constant of the module: an int, a text -/
theorem dx_glob {x : Str} {v : V} {u : Value} {d : PyData} (hg : Gl X x) (hm : X.mg x = some u) (r : RelV v u) (hv : ∀ M, Dp X.K M v d) (hd : (x == ("__debug__" : Str)) = false := by decide) : DX X LK W ff (.Name x pos) (eC d) :=
  dx_pure (pe_glob hg hm r hd) (fun _ _ _ h => h) (fun M _ => hv M) rfl
def svAt (δ : DS) (i : Nat) (R : SV → Prop) : Prop := match δ[i]? with
  | some (some sv) => R sv
  | _ => False
theorem svAt_out {δ : DS} {i : Nat} {R : SV → Prop} (h : svAt δ i R) : ∃ sv, δ[i]? = some (some sv) ∧ R sv := by
  unfold svAt at h
  split at h
  · rename_i sv e; exact ⟨sv, e, h⟩
  · exact h.elim
theorem slot_b {K : PySem.W.Frag} {G : Gd} {F N : Hp} {L : Ls} {v : V} (e : Same F N) : ∀ {sv : SV}, SlotOk K G F N L v sv → SvOk K N L v sv
  | .own _, ⟨a, vs, h1, h2, h3⟩ => ⟨a, vs, h1, h2, dpA_mono ((nw_le _ _).trans e) _ _ h3⟩
  | .oK _, ⟨a, vs, h1, h2, h3⟩ => ⟨a, vs, h1, h2, kd_mono ((nw_le _ _).trans e) h3⟩
  | .oT _, ⟨a, vs, h1, h2, h3⟩ => ⟨a, vs, h1, h2, kd_mono ((nw_le _ _).trans e) h3⟩
  | .tk _ _, ⟨vs, h1, h2, h3⟩ => ⟨vs, h1, h2, dpA_mono ((nw_le _ _).trans e) _ _ h3⟩
  | .d x, h => svOk_mono (sv := .d x) e (fun _ z => z) h
  | .rK x, h => svOk_mono (sv := .rK x) e (fun _ z => z) h
  | .rT x, h => svOk_mono (sv := .rT x) e (fun _ z => z) h
  | .tok, h => h
  | .fn kf f, h => svOk_mono (sv := .fn kf f) e (fun _ z => z) h
  | .xn a c d x, h => svOk_mono (sv := .xn a c d x) e (fun _ z => z) h
@[simp] def eV (i : Nat) : TDe := fun δ R _ => svAt δ i R
/-- a local name, read -/
theorem dx_var (i : Nat) {x : Str} (hN : X.N[i]? = some x := by rfl) (hv : Vis X.env.scope x := by first | exact Or.inl rfl | exact Or.inr (Or.inl rfl) | exact Or.inr (Or.inr rfl)) (hd : (x == ("__debug__" : Str)) = false := by decide) (hcd : (x == ("__classdict__" : Str)) = false := by decide) :
    DX X LK W fb (.Name x pos) (eV i) :=
  pe_imp (pe_var hN hv hd hcd) fun σ H Q ⟨G, L, δ, R, RX, rel, r, q, _⟩ => by
    obtain ⟨sv, h1, r⟩ := svAt_out r
    obtain ⟨v, h2, h3⟩ := rel.sl i sv h1
    exact ⟨v, h2, q sv v L H r (Step.refl _ _) rel ⟨slot_b (fz_le _ _ _ _) h3, fun z => nomatch z⟩⟩
/-- .. that holds data: it may be handed on -/
def isData : SV → Bool
  | .d _ => true
  | .rK _ => true
  | .rT _ => true
  | .tok => true
  | .fn _ _ => true
  | .xn _ _ _ _ => true
  | _ => false
@[simp] def eVD (i : Nat) : TDe := fun δ R _ => svAt δ i fun sv => isData sv = true ∧ R sv
theorem dx_varD (i : Nat) {x : Str} (hN : X.N[i]? = some x := by rfl) (hv : Vis X.env.scope x := by first | exact Or.inl rfl | exact Or.inr (Or.inl rfl) | exact Or.inr (Or.inr rfl)) (hd : (x == ("__debug__" : Str)) = false := by decide) (hcd : (x == ("__classdict__" : Str)) = false := by decide) :
    DX X LK W fs (.Name x pos) (eVD i) :=
  pe_imp (pe_var hN hv hd hcd) fun σ H Q ⟨G, L, δ, R, RX, rel, r, q, _⟩ => by
    obtain ⟨sv, h1, hd, r⟩ := svAt_out r
    obtain ⟨v, h2, h3⟩ := rel.sl i sv h1
    refine ⟨v, h2, q sv v L H r (Step.refl _ _) rel ⟨?_, fun z => nomatch z⟩⟩
    cases sv with
    | own _ => simp [isData] at hd
    | oK _ => simp [isData] at hd
    | oT _ => simp [isData] at hd
    | tk _ _ => simp [isData] at hd
    | d _ => exact h3
    | rK _ => exact h3
    | rT _ => exact h3
    | tok => exact h3
    | fn _ _ => exact h3
    | xn _ _ _ _ => exact h3
@[simp] def eVO (i : Nat) : TDe := fun δ R _ => svAt δ i fun sv => isOwn sv = true ∧ R sv
/-- .. that owns a list or a dict: it may be returned -/
theorem dx_varO (i : Nat) {x : Str} (hN : X.N[i]? = some x := by rfl) (hv : Vis X.env.scope x := by first | exact Or.inl rfl | exact Or.inr (Or.inl rfl) | exact Or.inr (Or.inr rfl)) (hd : (x == ("__debug__" : Str)) = false := by decide) (hcd : (x == ("__classdict__" : Str)) = false := by decide) :
    DX X LK W fr (.Name x pos) (eVO i) :=
  pe_imp (pe_var hN hv hd hcd) fun σ H Q ⟨G, L, δ, R, RX, rel, r, q, _⟩ => by
    obtain ⟨sv, h1, hd, r⟩ := svAt_out r
    obtain ⟨v, h2, h3⟩ := rel.sl i sv h1
    refine ⟨v, h2, q sv v L H r (Step.refl _ _) rel ⟨?_, fun z => nomatch z⟩⟩
    have gn : ∀ {a : Addr}, v = .ref a → G.n a = none := fun {a} ea => by
      subst ea
      cases q : G.n a with
      | none => rfl
      | some o => exact absurd ⟨i, sv, h1, hd, h2⟩ (fz_not (rel.gF _ _ q))
    cases sv with
    | own _ =>
      obtain ⟨a, vs, rfl, e2, e3⟩ := h3
      exact ⟨a, vs, rfl, nw_new e2 (gn rfl), dpA_mono (nw_mono (fz_le _ _ _ _)) _ _ e3⟩
    | oK _ =>
      obtain ⟨a, vs, rfl, e2, e3⟩ := h3
      exact ⟨a, vs, rfl, nw_new e2 (gn rfl), kd_mono (nw_mono (fz_le _ _ _ _)) e3⟩
    | oT _ =>
      obtain ⟨a, vs, rfl, e2, e3⟩ := h3
      exact ⟨a, vs, rfl, nw_new e2 (gn rfl), kd_mono (nw_mono (fz_le _ _ _ _)) e3⟩
    | tk _ _ =>
      obtain ⟨vs, rfl, e2, e3⟩ := h3
      exact ⟨vs, rfl, nw_new e2 (gn rfl), dpA_mono (nw_mono (fz_le _ _ _ _)) _ _ e3⟩
    | d _ => simp [isOwn] at hd
    | rK _ => simp [isOwn] at hd
    | rT _ => simp [isOwn] at hd
    | tok => simp [isOwn] at hd
    | fn _ _ => simp [isOwn] at hd
    | xn _ _ _ _ => simp [isOwn] at hd
/-- data without lists may be stored -/
def nolS : SV → Prop
  | .d x => nolist x = true
  | .tok => True
  | _ => False
@[simp] def eN (ta : TDe) : TDe := fun δ R RX => ta δ (fun sv => nolS sv ∧ R sv) RX
theorem dx_n (h : DX X LK W fl e ta) : DX X LK W ff e (eN ta) :=
  pe_imp h fun σ H Q ⟨G, L, δ, R, RX, rel, r, q, qx⟩ => ⟨G, L, δ, (fun sv => nolS sv ∧ R sv), RX, rel, r, fun sv v L' H' ⟨n, r⟩ st rel' res => by
    refine q sv v L' H' r st rel' ⟨?_, fun _ z => ?_⟩
    · cases sv with
      | d x => exact rel'.keep n (res.b (fz_le _ _ _ _))
      | tok => exact res.1
      | _ => exact n.elim
    · cases sv with
      | d x => cases z
      | tok => cases z
      | _ => exact n.elim, qx⟩
theorem res_weak {K : PySem.W.Frag} {G : Gd} {F N NN : Hp} {L : Ls} {v : V} {sv : SV} {fl fl' : Fl} (e : Same F N) (h1 : fl'.o = true → fl.o = true) (h2 : fl'.g = true → fl.g = true) (h3 : fl'.f = true → fl.f = true)
    (r : Res K G fl NN F N L v sv) : Res K G fl' NN F N L v sv := by
  refine ⟨svOk_mono ?_ (fun _ z => z) r.1, fun z => r.2 (h3 z)⟩
  obtain ⟨o, g, f⟩ := fl
  obtain ⟨o', g', f'⟩ := fl'
  unfold pk
  cases o' <;> cases g' <;> cases o <;> cases g <;> simp at h1 h2 <;> simp only <;>
    first | exact Same.refl _ | exact e | exact nw_le _ _ | exact (nw_le _ _).trans e | exact nw_mono e
theorem dx_w (fl' : Fl) (h : DX X LK W fl e ta) (h1 : fl'.o = true → fl.o = true := by decide) (h2 : fl'.g = true → fl.g = true := by decide) (h3 : fl'.f = true → fl.f = true := by decide) : DX X LK W fl' e ta :=
  pe_imp h fun σ H Q ⟨G, L, δ, R, RX, rel, r, q, qx⟩ => ⟨G, L, δ, R, RX, rel, r, fun sv v L' H' r st rel' res => q sv v L' H' r st rel' (res_weak (fz_le _ _ _ _) h1 h2 h3 res), qx⟩
/-- an operation on two values, in readings -/
def Adeq (X : Cx) (LK : Lk) (r : R2) (op : SV → SV → (SV → Prop) → Prop) : Prop := ∀ (G : Gd) (L : Ls) (δ : DS) (σ : L2.St) (H : Hp) (x y : V) (sx sy : SV) (R : SV → Prop) (Q : VK),
  Rel X.K LK G L δ σ H → SvOk X.K (hid L H) L x sx → SvOk X.K (hid L H) L y sy → op sx sy R →
  (∀ sv v H', R sv → Step L H L H' → Rel X.K LK G L δ σ H' → Res X.K G ff (hid L H) (fz L δ σ H') (hid L H') L v sv → Q v H') → r x y H Q
theorem tOp_dx {r : R2} {op : SV → SV → (SV → Prop) → Prop} (ad : Adeq X LK r op) {σ : L2.St} {H : Hp} {Q : VK} (h : lift X.K LK W ff (fun δ R RX => ta δ (fun x => tb δ (fun y => op x y R) RX) RX) σ H Q) : tOp r (lift X.K LK W fa ta) (lift X.K LK W fb' tb) σ H Q := by
  obtain ⟨G, L, δ, R, RX, rel, r, q, qx⟩ := h
  refine ⟨G, L, δ, _, RX, rel, r, fun sx x L1 H1 hx st1 rel1 res1 => ⟨G, L1, δ, _, RX, rel1, hx, fun sy y Lb H2 hy st2 rel2 res2 => ?_, fun x c d Lb H2 h st2 lk ex => qx x c d Lb H2 h (st1.trans st2) lk ex⟩, qx⟩
  exact ad G Lb δ σ H2 x y sx sy R Q rel2 ((res1.step st2).b (fz_le _ _ _ _)) (res2.b (fz_le _ _ _ _)) hy fun sv v H' h st3 rel3 res3 => q sv v Lb H' h (st1.trans (st2.trans st3)) rel3 (res3.back (st1.trans st2))
@[simp] def eB (op : SV → SV → (SV → Prop) → Prop) (ta tb : TDe) : TDe := fun δ R RX => ta δ (fun x => tb δ (fun y => op x y R) RX) RX
theorem dx_op {op : Operator} {r : R2} {ops : SV → SV → (SV → Prop) → Prop} (ho : OpR X (binaryOp op) r) (ad : Adeq X LK r ops) (ha : DX X LK W fa a ta) (hb : DX X LK W fb' b tb) :
    DX X LK W ff (.BinOp a op b pos) (eB ops ta tb) :=
  pe_imp (pe_op ho ha hb) fun _ _ _ h => tOp_dx ad h
theorem dx_cmp {op : CmpOp} {r : R2} {ops : SV → SV → (SV → Prop) → Prop} (ho : OpR X (compareOp op) r) (ad : Adeq X LK r ops) (ha : DX X LK W fa a ta) (hb : DX X LK W fb' b tb) (hm : behindInMarks op b = false) :
    DX X LK W ff (.Compare a [op] [b] pos) (eB ops ta tb) :=
  pe_imp (pe_cmpR ho ha hb hm) fun _ _ _ h => tOp_dx ad h
end
end DL

namespace DL
open PySem PySem.Spec PyProof.Rows L2

section
variable {X : Cx} {LK : Lk} {W : WX} {fl fa fb' : Fl} {e a b c : Expr} {pos : Pos} {ta tb tc : TDe}
/-! ### what operators do -/
abbrev BinD := PyData → PyData → (SV → Prop) → Prop
def opD (g : BinD) : SV → SV → (SV → Prop) → Prop := fun a b R => wD a fun x => wD b fun y => g x y R
theorem Adeq.or {r r' : R2} {g : SV → SV → (SV → Prop) → Prop} {h : SV → SV → (SV → Prop) → Prop} (a1 : Adeq X LK r g) (a2 : Adeq X LK r' h) :
    Adeq X LK (fun x y H Q => r x y H Q ∨ r' x y H Q) (fun a b R => g a b R ∨ h a b R) := fun G L δ σ H x y sx sy R Q rel hx hy h q => by
  rcases h with h | h
  · exact .inl (a1 G L δ σ H x y sx sy R Q rel hx hy h q)
  · exact .inr (a2 G L δ σ H x y sx sy R Q rel hx hy h q)
theorem Adeq.imp {r : R2} {g h : SV → SV → (SV → Prop) → Prop} (a1 : Adeq X LK r g) (i : ∀ a b R, h a b R → g a b R) : Adeq X LK r h := fun G L δ σ H x y sx sy R Q rel hx hy hh q => a1 G L δ σ H x y sx sy R Q rel hx hy (i _ _ _ hh) q
theorem res_sc {K : PySem.W.Frag} {G : Gd} {N F NN : Hp} {L : Ls} {fl : Fl} {v : V} {x : PyData} (h : ∀ M, Dp K M v x) : Res K G fl N F NN L v (.d x) := ⟨h _, fun _ z => nomatch z⟩
/-- ints to an int or a truth value -/
theorem adeq_int {C : Int → Int → Prop} {g : Int → Int → V} {gd : Int → Int → PyData} (hg : ∀ i j M, Dp X.K M (g i j) (gd i j)) :
    Adeq X LK (rI C g) (opD fun x y R => match x, y with | .int i, .int j => C i j ∧ R (.d (gd i j)) | _, _ => False) := fun G L δ σ H x y sx sy R Q rel hx hy h q => by
  obtain ⟨dx, ex, k⟩ := wD_out h
  clear h
  obtain ⟨dy, ey, h⟩ := wD_out k
  clear k
  have h1 := asD_ok ex hx
  have h2 := asD_ok ey hy
  cases h1 <;> cases h2 <;> first | exact h.elim | skip
  rename_i i j
  obtain ⟨hc, hr⟩ := h
  exact ⟨i, j, rfl, rfl, hc, q _ _ H hr (Step.refl _ _) rel (res_sc (hg i j))⟩
theorem rI0_of {g : Int → Int → V} {x y : V} {H : Hp} {Q : VK} (h : rI (fun _ _ => True) g x y H Q) : rI0 g x y H Q := by
  obtain ⟨i, j, e1, e2, _, q⟩ := h
  exact ⟨i, j, e1, e2, q⟩
theorem adeq_int0 {g : Int → Int → V} {gd : Int → Int → PyData} (hg : ∀ i j M, Dp X.K M (g i j) (gd i j)) :
    Adeq X LK (rI0 g) (opD fun x y R => match x, y with | .int i, .int j => R (.d (gd i j)) | _, _ => False) := fun G L δ σ H x y sx sy R Q rel hx hy h q => by
  obtain ⟨dx, ex, k⟩ := wD_out h
  clear h
  obtain ⟨dy, ey, h⟩ := wD_out k
  clear k
  have h1 := asD_ok ex hx
  have h2 := asD_ok ey hy
  cases h1 <;> cases h2 <;> first | exact h.elim | skip
  rename_i i j
  exact ⟨i, j, rfl, rfl, q _ _ H h (Step.refl _ _) rel (res_sc (hg i j))⟩
/-- texts -/
theorem adeq_addS : Adeq X LK (fun x y H Q => ∃ i j, x = .str i ∧ y = .str j ∧ i.length + j.length ≤ sizeLine ∧ Q (.str (i ++ j)) H)
    (opD fun x y R => match x, y with | .str i, .str j => i.length + j.length ≤ sizeLine ∧ R (.d (.str (i ++ j))) | _, _ => False) := fun G L δ σ H x y sx sy R Q rel hx hy h q => by
  obtain ⟨dx, ex, k⟩ := wD_out h
  clear h
  obtain ⟨dy, ey, h⟩ := wD_out k
  clear k
  have h1 := asD_ok ex hx
  have h2 := asD_ok ey hy
  cases h1 <;> cases h2 <;> first | exact h.elim | skip
  rename_i i j
  exact ⟨i, j, rfl, rfl, h.1, q _ _ H h.2 (Step.refl _ _) rel (res_sc fun _ => Dp.str _)⟩
/-- a new tracked thing that is data -/
theorem res_new {G : Gd} {L : Ls} {δ : DS} {σ : L2.St} {H : Hp} {p : Addr} {o : HO} {sv : SV} (rel : Rel X.K LK G L δ σ H) (hp : H p = none)
    (ok : SvOk X.K (nw G (fz L δ σ (upd H p o))) L (.ref p) sv) : Res X.K G ff (hid L H) (fz L δ σ (upd H p o)) (hid L (upd H p o)) L (.ref p) sv :=
  ⟨ok, fun _ _ a e => by cases e; exact hid_none hp⟩
theorem new_at {G : Gd} {L : Ls} {δ : DS} {σ : L2.St} {H : Hp} {p : Addr} {o : HO} (rel : Rel X.K LK G L δ σ H) (hp : H p = none) (nt : tblB o = false := by rfl) : nw G (fz L δ σ (upd H p o)) p = some o := by
  have hn : hid L (upd H p o) p = some o := by rw [hid_upd (rel.loose hp) nt]; exact upd_same
  have no : ¬ OwnA δ σ p := fun z => by
    obtain ⟨u, e, _⟩ := rel.ownN z
    rw [hid_none hp] at e; cases e
  refine nw_new (fz_of hn no) ?_
  cases q : G.n p with
  | none => rfl
  | some u =>
    have := fz_le _ _ _ _ _ _ (rel.gF _ _ q)
    rw [hid_none hp] at this; cases this
theorem new_mono {G : Gd} {L : Ls} {δ : DS} {σ : L2.St} {H : Hp} {p : Addr} {o : HO} (rel : Rel X.K LK G L δ σ H) (hp : H p = none) (nt : tblB o = false := by rfl) : Same (nw G (fz L δ σ H)) (nw G (fz L δ σ (upd H p o))) :=
  nw_mono (fz_step (rel.stepNew hp nt))
theorem dp_list {K : PySem.W.Frag} {H : Hp} {a : Addr} {ds : List PyData} (h : Dp K H (.ref a) (.list ds)) : ∃ xs, SqL K H a xs ∧ DpAll K H xs ds := by
  cases h with | lst h1 h2 => exact ⟨_, h1, h2⟩
theorem dp_tup {K : PySem.W.Frag} {H : Hp} {v : V} {ds : List PyData} (h : Dp K H v (.tuple ds)) : ∃ a xs, v = .ref a ∧ SqT K H a xs ∧ DpAll K H xs ds := by
  cases h with | tup h1 h2 => exact ⟨_, _, rfl, h1, h2⟩
theorem hid_sqT {L : Ls} {H : Hp} {K : PySem.W.Frag} {a : Addr} {xs : List V} (h : SqT K (hid L H) a xs) : SqT K H a xs := same_sqT (hid_le L H) h
theorem hid_sqL {L : Ls} {H : Hp} {K : PySem.W.Frag} {a : Addr} {xs : List V} (h : SqL K (hid L H) a xs) : SqL K H a xs := (hid_le L H).seq h
theorem hid_dp {L : Ls} {H : Hp} {K : PySem.W.Frag} {v : V} {x : PyData} (h : Dp K (hid L H) v x) : Dp K H v x := dp_mono (hid_le L H) _ _ h
/-- tuples -/
theorem adeq_addT : Adeq X LK (rCatA X.K) (opD fun x y R => match x, y with | .tuple i, .tuple j => nolistA i = true ∧ nolistA j = true ∧ i.length + j.length ≤ sizeLine ∧ R (.d (.tuple (i ++ j))) | _, _ => False) := fun G L δ σ H x y sx sy R Q rel hx hy h q => by
  obtain ⟨dx, ex, k⟩ := wD_out h
  clear h
  obtain ⟨dy, ey, h⟩ := wD_out k
  clear k
  have h1 := asD_ok ex hx
  have h2 := asD_ok ey hy
  cases dx <;> first | exact h.elim | skip
  cases dy <;> first | exact h.elim | skip
  rename_i i j
  obtain ⟨n1, n2, hl, hr⟩ := h
  obtain ⟨a, xs, rfl, s1, d1⟩ := dp_tup h1
  obtain ⟨b, ys, rfl, s2, d2⟩ := dp_tup h2
  refine ⟨a, b, xs, ys, rfl, rfl, hid_sqT s1, hid_sqT s2, by rw [dpA_len d1, dpA_len d2]; exact hl, fun e => ?_, fun _ e => ?_, fun _ _ p hp => ?_⟩
  · subst e
    cases i with
    | nil => exact q _ _ H hr (Step.refl _ _) rel ⟨rel.keep (by simpa [nolist] using n2) h2, fun _ z => nomatch z⟩
    | cons => cases d1
  · subst e
    cases j with
    | nil => exact q _ _ H hr (Step.refl _ _) rel ⟨by rw [List.append_nil]; exact rel.keep (by simpa [nolist] using n1) h1, fun _ z => nomatch z⟩
    | cons => cases d2
  · refine q _ _ _ hr (rel.stepNew hp) (rel.new hp) (res_new rel hp ?_)
    exact Dp.tup (SqT.of (new_at rel hp)) (dpA_app (dpA_mono (new_mono rel hp) _ _ (rel.keepA n1 d1)) (dpA_mono (new_mono rel hp) _ _ (rel.keepA n2 d2)))
/-- lists that the frame made -/
theorem adeq_addL : Adeq X LK rCat (fun a b R => match a, b with | .own i, .own j => nolistA i = true ∧ nolistA j = true ∧ i.length + j.length ≤ sizeLine ∧ R (.own (i ++ j)) | _, _ => False) := fun G L δ σ H x y sx sy R Q rel hx hy h q => by
  cases sx <;> first | exact h.elim | skip
  cases sy <;> first | exact h.elim | skip
  rename_i i j
  obtain ⟨n1, n2, hl, hr⟩ := h
  obtain ⟨a, xs, rfl, s1, d1⟩ := hx
  obtain ⟨b, ys, rfl, s2, d2⟩ := hy
  refine ⟨a, b, xs, ys, rfl, rfl, hid_le _ _ _ _ s1, hid_le _ _ _ _ s2, by rw [dpA_len d1, dpA_len d2]; exact hl, fun p hp => ?_⟩
  refine q _ _ _ hr (rel.stepNew hp) (rel.new hp) (res_new rel hp ⟨p, _, rfl, new_at rel hp, ?_⟩)
  exact dpA_app (dpA_mono (new_mono rel hp) _ _ (rel.keepA n1 d1)) (dpA_mono (new_mono rel hp) _ _ (rel.keepA n2 d2))
def addV (a b : SV) (R : SV → Prop) : Prop := match a, b with
  | .own i, .own j => nolistA i = true ∧ nolistA j = true ∧ i.length + j.length ≤ sizeLine ∧ R (.own (i ++ j))
  | .d (.int i), .d (.int j) => R (.d (.int (i + j)))
  | .d (.str i), .d (.str j) => i.length + j.length ≤ sizeLine ∧ R (.d (.str (i ++ j)))
  | .d (.tuple i), .d (.tuple j) => nolistA i = true ∧ nolistA j = true ∧ i.length + j.length ≤ sizeLine ∧ R (.d (.tuple (i ++ j)))
  | _, _ => False
@[simp] theorem addV_int (i j : Int) (R : SV → Prop) : addV (.d (.int i)) (.d (.int j)) R = R (.d (.int (i + j))) := rfl
@[simp] theorem addV_str (i j : Str) (R : SV → Prop) : addV (.d (.str i)) (.d (.str j)) R = (i.length + j.length ≤ sizeLine ∧ R (.d (.str (i ++ j)))) := rfl
@[simp] theorem addV_tup (i j : List PyData) (R : SV → Prop) : addV (.d (.tuple i)) (.d (.tuple j)) R = (nolistA i = true ∧ nolistA j = true ∧ i.length + j.length ≤ sizeLine ∧ R (.d (.tuple (i ++ j)))) := rfl
@[simp] theorem addV_own (i j : List PyData) (R : SV → Prop) : addV (.own i) (.own j) R = (nolistA i = true ∧ nolistA j = true ∧ i.length + j.length ≤ sizeLine ∧ R (.own (i ++ j))) := rfl
abbrev addR (K : PySem.W.Frag) : R2 := fun x y H Q => rI0 (fun i j => .int (i + j)) x y H Q ∨ ((∃ i j, x = .str i ∧ y = .str j ∧ i.length + j.length ≤ sizeLine ∧ Q (.str (i ++ j)) H) ∨ (rCatA K x y H Q ∨ rCat x y H Q))
theorem adeq_add : Adeq X LK (addR X.K) addV :=
  ((adeq_int0 (g := fun i j => .int (i + j)) (gd := fun i j => .int (i + j)) (fun _ _ _ => Dp.int _)).or (adeq_addS.or (adeq_addT.or adeq_addL))).imp fun a b R h => by
    unfold addV at h
    split at h
    · exact .inr (.inr (.inr h))
    · exact .inl h
    · exact .inr (.inl h)
    · exact .inr (.inr (.inl h))
    · exact h.elim
theorem dx_add (ha : DX X LK W fa a ta) (hb : DX X LK W fb' b tb) : DX X LK W ff (.BinOp a .Add b pos) (eB addV ta tb) :=
  dx_op (op_add.or (op_add_str.or (op_catA.or op_cat))) adeq_add ha hb
def subD : BinD := fun x y R => match x, y with | .int i, .int j => R (.d (.int (i - j))) | _, _ => False
theorem dx_sub (ha : DX X LK W fa a ta) (hb : DX X LK W fb' b tb) : DX X LK W ff (.BinOp a .Sub b pos) (eB (opD subD) ta tb) :=
  dx_op op_sub (adeq_int0 fun _ _ _ => Dp.int _) ha hb
def mulD : BinD := fun x y R => match x, y with | .int i, .int j => CMul i j ∧ R (.d (.int (i * j))) | _, _ => False
theorem dx_mul (ha : DX X LK W fa a ta) (hb : DX X LK W fb' b tb) : DX X LK W ff (.BinOp a .Mult b pos) (eB (opD mulD) ta tb) :=
  dx_op op_mul (adeq_int fun _ _ _ => Dp.int _) ha hb
def fdivD : BinD := fun x y R => match x, y with | .int i, .int j => CDiv i j ∧ R (.d (.int (i / j))) | _, _ => False
theorem dx_fdiv (ha : DX X LK W fa a ta) (hb : DX X LK W fb' b tb) : DX X LK W ff (.BinOp a .FloorDiv b pos) (eB (opD fdivD) ta tb) :=
  dx_op op_fdiv (adeq_int fun _ _ _ => Dp.int _) ha hb
def modD : BinD := fun x y R => match x, y with | .int i, .int j => 0 < j ∧ R (.d (.int (i % j))) | _, _ => False
theorem dx_mod (ha : DX X LK W fa a ta) (hb : DX X LK W fb' b tb) : DX X LK W ff (.BinOp a .Mod b pos) (eB (opD modD) ta tb) :=
  dx_op op_mod (adeq_int fun _ _ _ => Dp.int _) ha hb
@[simp] theorem opD_dd (g : BinD) (x y : PyData) (R : SV → Prop) : opD g (.d x) (.d y) R = g x y R := rfl
@[simp] theorem opD_od (g : BinD) (x : List PyData) (y : PyData) (R : SV → Prop) : opD g (.own x) (.d y) R = g (.list x) y R := rfl
@[simp] theorem opD_do (g : BinD) (x : PyData) (y : List PyData) (R : SV → Prop) : opD g (.d x) (.own y) R = g x (.list y) R := rfl
@[simp] theorem opD_oo (g : BinD) (x y : List PyData) (R : SV → Prop) : opD g (.own x) (.own y) R = g (.list x) (.list y) R := rfl
@[simp] theorem subD_int (i j : Int) (R : SV → Prop) : subD (.int i) (.int j) R = R (.d (.int (i - j))) := rfl
@[simp] theorem mulD_int (i j : Int) (R : SV → Prop) : mulD (.int i) (.int j) R = (CMul i j ∧ R (.d (.int (i * j)))) := rfl
@[simp] theorem fdivD_int (i j : Int) (R : SV → Prop) : fdivD (.int i) (.int j) R = (CDiv i j ∧ R (.d (.int (i / j)))) := rfl
@[simp] theorem modD_int (i j : Int) (R : SV → Prop) : modD (.int i) (.int j) R = (0 < j ∧ R (.d (.int (i % j)))) := rfl
/-! ### comparisons -/
def cmpI (p : Int → Int → Bool) : BinD := fun x y R => match x, y with | .int i, .int j => R (.d (.bool (p i j))) | _, _ => False
@[simp] theorem cmpI_int (p : Int → Int → Bool) (i j : Int) (R : SV → Prop) : cmpI p (.int i) (.int j) R = R (.d (.bool (p i j))) := rfl
theorem dx_lt (ha : DX X LK W fa a ta) (hb : DX X LK W fb' b tb) : DX X LK W ff (.Compare a [.Lt] [b] pos) (eB (opD (cmpI fun i j => decide (i < j))) ta tb) :=
  dx_cmp op_lt (adeq_int0 fun _ _ _ => Dp.bl _) ha hb (nomark _)
theorem dx_le (ha : DX X LK W fa a ta) (hb : DX X LK W fb' b tb) : DX X LK W ff (.Compare a [.LtE] [b] pos) (eB (opD (cmpI fun i j => decide (i ≤ j))) ta tb) :=
  dx_cmp op_le (adeq_int0 fun _ _ _ => Dp.bl _) ha hb (nomark _)
theorem dx_gt (ha : DX X LK W fa a ta) (hb : DX X LK W fb' b tb) : DX X LK W ff (.Compare a [.Gt] [b] pos) (eB (opD (cmpI fun i j => decide (j < i))) ta tb) :=
  dx_cmp op_gt (adeq_int0 fun _ _ _ => Dp.bl _) ha hb (nomark _)
theorem dx_ge (ha : DX X LK W fa a ta) (hb : DX X LK W fb' b tb) : DX X LK W ff (.Compare a [.GtE] [b] pos) (eB (opD (cmpI fun i j => decide (j ≤ i))) ta tb) :=
  dx_cmp op_ge (adeq_int0 fun _ _ _ => Dp.bl _) ha hb (nomark _)
/-- == : scalars of one kind at once, anything else where its form is told -/
def scalD : PyData → PyData → Bool
  | .none, .none => true | .none, .int _ => true | .int _, .none => true | .none, .bool _ => true | .bool _, .none => true | .none, .str _ => true | .str _, .none => true
  | .int _, .int _ => true | .bool _, .bool _ => true | .str _, .str _ => true
  | .int _, .str _ => true | .str _, .int _ => true | .bool _, .str _ => true | .str _, .bool _ => true
  | _, _ => false
def eqOk (x y : PyData) : Prop := scalD x y = true ∨ (SeqAt.shaped x = true ∧ SeqAt.shaped y = true)
def eqD : BinD := fun x y R => eqOk x y ∧ R (.d (.bool (PyData.eqv x y)))
def neD : BinD := fun x y R => eqOk x y ∧ R (.d (.bool (!PyData.eqv x y)))
theorem scal_of {K : PySem.W.Frag} {M M' : Hp} {v u : V} {x y : PyData} (h1 : Dp K M v x) (h2 : Dp K M' u y) (s : scalD x y = true) : scal v u = true ∧ decide (v = u) = PyData.eqv x y := by
  cases h1 <;> cases h2 <;> simp [scalD] at s <;> simp [scal, PyData.eqv] <;> rfl
theorem adeq_eq : Adeq X LK (fun x y H Q => rEq x y H Q ∨ rEqD X.K x y H Q) (opD eqD) := fun G L δ σ H x y sx sy R Q rel hx hy h q => by
  obtain ⟨dx, ex, k⟩ := wD_out h
  clear h
  obtain ⟨dy, ey, h⟩ := wD_out k
  clear k
  have h1 := asD_ok ex hx
  have h2 := asD_ok ey hy
  obtain ⟨o, r⟩ := h
  have fin := q _ (.bl (PyData.eqv dx dy)) H r (Step.refl _ _) rel (res_sc fun _ => Dp.bl _)
  rcases o with o | o
  · obtain ⟨s1, s2⟩ := scal_of h1 h2 o
    exact .inl ⟨s1, by rw [s2]; exact fin⟩
  · exact .inr ⟨dx, dy, hid_dp h1, hid_dp h2, o.1, o.2, fin⟩
theorem adeq_ne : Adeq X LK (fun x y H Q => rNe x y H Q ∨ rNeD X.K x y H Q) (opD neD) := fun G L δ σ H x y sx sy R Q rel hx hy h q => by
  obtain ⟨dx, ex, k⟩ := wD_out h
  clear h
  obtain ⟨dy, ey, h⟩ := wD_out k
  clear k
  have h1 := asD_ok ex hx
  have h2 := asD_ok ey hy
  obtain ⟨o, r⟩ := h
  have fin := q _ (.bl (!PyData.eqv dx dy)) H r (Step.refl _ _) rel (res_sc fun _ => Dp.bl _)
  rcases o with o | o
  · obtain ⟨s1, s2⟩ := scal_of h1 h2 o
    exact .inl ⟨s1, by rw [s2]; exact fin⟩
  · exact .inr ⟨dx, dy, hid_dp h1, hid_dp h2, o.1, o.2, fin⟩
theorem dx_eq (hu : X.A.units + 64 < cLine) (ha : DX X LK W fa a ta) (hb : DX X LK W fb' b tb) : DX X LK W ff (.Compare a [.Eq] [b] pos) (eB (opD eqD) ta tb) :=
  dx_cmp (op_eq.or (op_eqD hu)) adeq_eq ha hb (nomark _)
theorem dx_ne (hu : X.A.units + 64 < cLine) (ha : DX X LK W fa a ta) (hb : DX X LK W fb' b tb) : DX X LK W ff (.Compare a [.NotEq] [b] pos) (eB (opD neD) ta tb) :=
  dx_cmp (op_ne.or (op_neD hu)) adeq_ne ha hb (nomark _)
/-- is None, is True, is False; is not -/
def isNoneV (sv : SV) : Bool := match sv with | .d .none => true | _ => false
theorem isNone_of {K : PySem.W.Frag} {M : Hp} {L : Ls} {v : V} : ∀ {sv : SV}, SvOk K M L v sv → decide (v = .non) = isNoneV sv
  | .d x, h => by cases h <;> simp [isNoneV]
  | .own _, ⟨a, vs, e, _⟩ => by subst e; simp [isNoneV]
  | .oK _, ⟨a, vs, e, _⟩ => by subst e; simp [isNoneV]
  | .oT _, ⟨a, vs, e, _⟩ => by subst e; simp [isNoneV]
  | .rK _, ⟨a, vs, e, _⟩ => by subst e; simp [isNoneV]
  | .rT _, ⟨a, vs, e, _⟩ => by subst e; simp [isNoneV]
  | .tok, ⟨a, e, _⟩ => by subst e; simp [isNoneV]
  | .fn _ _, ⟨e, _⟩ => by subst e; simp [isNoneV]
  | .tk _ _, ⟨_, e, _⟩ => by subst e; simp [isNoneV]
  | .xn _ _ _ _, ⟨e, _⟩ => by subst e; simp [isNoneV]
@[simp] theorem isNoneV_none : isNoneV (.d .none) = true := rfl
@[simp] theorem isNoneV_int (i : Int) : isNoneV (.d (.int i)) = false := rfl
@[simp] theorem isNoneV_bool (i : Bool) : isNoneV (.d (.bool i)) = false := rfl
@[simp] theorem isNoneV_str (i : Str) : isNoneV (.d (.str i)) = false := rfl
@[simp] theorem isNoneV_tup (i : List PyData) : isNoneV (.d (.tuple i)) = false := rfl
@[simp] theorem isNoneV_own (i : List PyData) : isNoneV (.own i) = false := rfl
@[simp] def eIsN (ta : TDe) : TDe := fun δ R RX => ta δ (fun x => R (.d (.bool (isNoneV x)))) RX
theorem dx_isNone {j p2} (ha : DX X LK W fa a ta) : DX X LK W ff (.Compare a [.Is] [.Constant .none j p2] pos) (eIsN ta) :=
  pe_imp (pe_cmpR op_isN ha pe_non (nomark _)) fun σ H Q ⟨G, L, δ, R, RX, rel, r, q, qx⟩ =>
    ⟨G, L, δ, _, RX, rel, r, fun sv v L' H' h st rel' res => ⟨rfl, by rw [isNone_of res.1]; exact q _ _ L' H' h st rel' (res_sc fun _ => Dp.bl _)⟩, qx⟩
@[simp] def eNotN (ta : TDe) : TDe := fun δ R RX => ta δ (fun x => R (.d (.bool (!isNoneV x)))) RX
theorem dx_notNone {j p2} (ha : DX X LK W fa a ta) : DX X LK W ff (.Compare a [.IsNot] [.Constant .none j p2] pos) (eNotN ta) :=
  pe_imp (pe_cmpR op_notN ha pe_non (nomark _)) fun σ H Q ⟨G, L, δ, R, RX, rel, r, q, qx⟩ =>
    ⟨G, L, δ, _, RX, rel, r, fun sv v L' H' h st rel' res => ⟨rfl, by rw [isNone_of res.1]; exact q _ _ L' H' h st rel' (res_sc fun _ => Dp.bl _)⟩, qx⟩
def isBoolD (neg : Bool) : BinD := fun x y R => match x, y with | .bool i, .bool j => R (.d (.bool (if neg then !decide (i = j) else decide (i = j)))) | _, _ => False
@[simp] theorem isBoolD_f (i j : Bool) (R : SV → Prop) : isBoolD false (.bool i) (.bool j) R = R (.d (.bool (decide (i = j)))) := rfl
@[simp] theorem isBoolD_t (i j : Bool) (R : SV → Prop) : isBoolD true (.bool i) (.bool j) R = R (.d (.bool (!decide (i = j)))) := rfl
theorem dx_isBool (ha : DX X LK W fa a ta) (hb : DX X LK W fb' b tb) : DX X LK W ff (.Compare a [.Is] [b] pos) (eB (opD (isBoolD false)) ta tb) :=
  dx_cmp op_isBl (fun G L δ σ H x y sx sy R Q rel hx hy h q => by
    obtain ⟨dx, ex, k⟩ := wD_out h
    clear h
    obtain ⟨dy, ey, h⟩ := wD_out k
    clear k
    have h1 := asD_ok ex hx
    have h2 := asD_ok ey hy
    cases h1 <;> cases h2 <;> first | exact h.elim | skip
    exact ⟨_, _, rfl, rfl, q _ _ H h (Step.refl _ _) rel (res_sc fun _ => Dp.bl _)⟩) ha hb (nomark _)
theorem dx_notBool (ha : DX X LK W fa a ta) (hb : DX X LK W fb' b tb) : DX X LK W ff (.Compare a [.IsNot] [b] pos) (eB (opD (isBoolD true)) ta tb) :=
  dx_cmp op_notBl (fun G L δ σ H x y sx sy R Q rel hx hy h q => by
    obtain ⟨dx, ex, k⟩ := wD_out h
    clear h
    obtain ⟨dy, ey, h⟩ := wD_out k
    clear k
    have h1 := asD_ok ex hx
    have h2 := asD_ok ey hy
    cases h1 <;> cases h2 <;> first | exact h.elim | skip
    exact ⟨_, _, rfl, rfl, q _ _ H h (Step.refl _ _) rel (res_sc fun _ => Dp.bl _)⟩) ha hb (nomark _)
/-! ### in, not in -/
def flatD : PyData → Bool
  | .none => true | .bool _ => true | .int _ => true | .str _ => true | _ => false
def inOk (x : PyData) (ds : List PyData) : Prop := flatD x = true ∧ ds.all flatD = true
def inOkD (x : PyData) (ds : List PyData) : Prop := SeqAt.shaped x = true ∧ SeqAt.shaped (.list ds) = true
def anyEq (x : PyData) (ds : List PyData) : Bool := ds.any fun z => PyData.eqv z x
def inD (neg : Bool) : BinD := fun x y R => match x, y with
  | .str s, .str t => ∃ c : Nat, s = ⟨#[c]⟩ ∧ R (.d (.bool (if neg then !decide (c ∈ t.cps.toList) else decide (c ∈ t.cps.toList))))
  | x, .tuple ds => inOk x ds ∧ R (.d (.bool (if neg then !anyEq x ds else anyEq x ds)))
  | x, .list ds => (inOk x ds ∨ inOkD x ds) ∧ R (.d (.bool (if neg then !anyEq x ds else anyEq x ds)))
  | _, _ => False
theorem flat_of {K : PySem.W.Frag} {M : Hp} {v : V} {x : PyData} (h : Dp K M v x) (f : flatD x = true) : flatV v = true := by
  cases h <;> simp [flatD] at f <;> rfl
theorem flatA_of {K : PySem.W.Frag} {M : Hp} : ∀ {vs : List V} {ds : List PyData}, DpAll K M vs ds → ds.all flatD = true → vs.all flatV = true
  | _, [], h, _ => by cases h; rfl
  | _, d :: ds, h, f => by
    cases h with
    | cons h1 h2 =>
      rw [List.all_cons, Bool.and_eq_true] at f ⊢
      exact ⟨flat_of h1 f.1, flatA_of h2 f.2⟩
theorem eqV_of {K : PySem.W.Frag} {M M' : Hp} {v u : V} {x y : PyData} (h1 : Dp K M v x) (h2 : Dp K M' u y) (f1 : flatD x = true) (f2 : flatD y = true) : eqV v u = PyData.eqv x y := by
  cases h1 <;> cases h2 <;> simp [flatD] at f1 f2 <;> rfl
theorem inV_of {K : PySem.W.Frag} {M M' : Hp} {v : V} {x : PyData} (h : Dp K M v x) (f : flatD x = true) : ∀ {vs : List V} {ds : List PyData}, DpAll K M' vs ds → ds.all flatD = true → inV v vs = anyEq x ds
  | _, [], h', _ => by cases h'; rfl
  | _, d :: ds, h', f' => by
    cases h' with
    | cons h1 h2 =>
      rw [List.all_cons, Bool.and_eq_true] at f'
      have := inV_of h f h2 f'.2
      unfold inV anyEq at this ⊢
      rw [List.any_cons, List.any_cons, this, eqV_of h1 h f'.1 f]
theorem adeq_in (neg : Bool) (rD : R2) (rs : R2)
    (hs : ∀ (c : Nat) (z : Str) H Q, Q (.bl (if neg then !decide (c ∈ z.cps.toList) else decide (c ∈ z.cps.toList))) H → rs (.str ⟨#[c]⟩) (.str z) H Q)
    (hD : ∀ x y d ds H Q, Dp X.K H x d → Dp X.K H y (.list ds) → SeqAt.shaped d = true → SeqAt.shaped (.list ds) = true → Q (.bl (if neg then !anyEq d ds else anyEq d ds)) H → rD x y H Q) :
    Adeq X LK (fun x y H Q => rs x y H Q ∨ (rIn X.K neg x y H Q ∨ rD x y H Q)) (opD (inD neg)) := fun G L δ σ H x y sx sy R Q rel hx hy h q => by
  obtain ⟨dx, ex, k⟩ := wD_out h
  clear h
  obtain ⟨dy, ey, h⟩ := wD_out k
  clear k
  have h1 := asD_ok ex hx
  have h2 := asD_ok ey hy
  have tupC : ∀ ds, dy = .tuple ds → (inOk dx ds ∧ R (.d (.bool (if neg then !anyEq dx ds else anyEq dx ds)))) → rIn X.K neg x y H Q := fun ds e hh => by
    subst e
    obtain ⟨p, xs, rfl, s, da⟩ := dp_tup h2
    refine ⟨p, xs, rfl, .inr (hid_sqT s), flat_of h1 hh.1.1, flatA_of da hh.1.2, ?_⟩
    rw [inV_of h1 hh.1.1 da hh.1.2]
    exact q _ _ H hh.2 (Step.refl _ _) rel (res_sc fun _ => Dp.bl _)
  have lstC : ∀ ds, dy = .list ds → ((inOk dx ds ∨ inOkD dx ds) ∧ R (.d (.bool (if neg then !anyEq dx ds else anyEq dx ds)))) → (rIn X.K neg x y H Q ∨ rD x y H Q) := fun ds e hh => by
    subst e
    rcases hh.1 with o | o
    · cases h2 with
      | lst s da =>
        refine .inl ⟨_, _, rfl, .inl (hid_sqL s), flat_of h1 o.1, flatA_of da o.2, ?_⟩
        rw [inV_of h1 o.1 da o.2]
        exact q _ _ H hh.2 (Step.refl _ _) rel (res_sc fun _ => Dp.bl _)
    · exact .inr (hD x y dx ds H Q (hid_dp h1) (hid_dp h2) o.1 o.2 (q _ _ H hh.2 (Step.refl _ _) rel (res_sc fun _ => Dp.bl _)))
  unfold inD at h
  split at h
  · obtain ⟨c, rfl, h⟩ := h
    cases h1
    cases h2
    exact .inl (hs c _ H Q (q _ _ H h (Step.refl _ _) rel (res_sc fun _ => Dp.bl _)))
  · exact .inr (.inl (tupC _ rfl h))
  · exact .inr (lstC _ rfl h)
  · exact h.elim
theorem dx_in (hu : X.A.units + 65 < cLine) (ha : DX X LK W fa a ta) (hb : DX X LK W fb' b tb) (hm : behindInMarks .In b = false := by with_unfolding_all rfl) :
    DX X LK W ff (.Compare a [.In] [b] pos) (eB (opD (inD false)) ta tb) :=
  dx_cmp (op_in_sign.or (op_in_seq.or (op_inD hu))) (adeq_in false _ _ (fun c z H Q h => ⟨c, z, rfl, rfl, h⟩) (fun x y d ds H Q h1 h2 s1 s2 h => ⟨d, ds, h1, h2, s1, s2, h⟩)) ha hb hm
theorem dx_notIn (hu : X.A.units + 65 < cLine) (ha : DX X LK W fa a ta) (hb : DX X LK W fb' b tb) (hm : behindInMarks .NotIn b = false := by with_unfolding_all rfl) :
    DX X LK W ff (.Compare a [.NotIn] [b] pos) (eB (opD (inD true)) ta tb) :=
  dx_cmp (op_notIn_sign.or (op_notIn_seq.or (op_notInD hu))) (adeq_in true _ _ (fun c z H Q h => ⟨c, z, rfl, rfl, h⟩) (fun x y d ds H Q h1 h2 s1 s2 h => ⟨d, ds, h1, h2, s1, s2, h⟩)) ha hb hm
end
end DL

namespace DL
open PySem PySem.Spec PyProof.Rows L2

section
variable {X : Cx} {LK : Lk} {W : WX} {fl fa fb' : Fl} {e a b c : Expr} {es : List Expr} {pos : Pos} {ta tb tc : TDe} {tt tu : TDt} {ts : TDa}
/-! ### truth, not, and, or, if -/
def wB (sv : SV) (R : Bool → Prop) : Prop := match sv with
  | .d (.bool b) => R b
  | _ => False
@[simp] theorem wB_b (b : Bool) (R : Bool → Prop) : wB (.d (.bool b)) R = R b := rfl
theorem wB_out {K : PySem.W.Frag} {M : Hp} {L : Ls} {v : V} {sv : SV} {R : Bool → Prop} (h : wB sv R) (o : SvOk K M L v sv) : ∃ b, v = .bl b ∧ sv = .d (.bool b) ∧ R b := by
  unfold wB at h
  split at h
  · cases o; exact ⟨_, rfl, rfl, h⟩
  · exact h.elim
def wTru (sv : SV) (R : Bool → Prop) : Prop := match sv with
  | .d (.bool b) => R b
  | .d .none => R false
  | .d (.int i) => R (i != 0)
  | .d (.str s) => s.length ≤ sizeLine ∧ R ((s.length : Int) != 0)
  | .d (.tuple xs) => R (!xs.isEmpty)
  | .d (.list xs) => R (!xs.isEmpty)
  | .own xs => R (!xs.isEmpty)
  | _ => False
@[simp] theorem wTru_b (b : Bool) (R : Bool → Prop) : wTru (.d (.bool b)) R = R b := rfl
theorem emp_of {K : PySem.W.Frag} {M : Hp} {vs : List V} {ds : List PyData} (h : DpAll K M vs ds) : vs.isEmpty = ds.isEmpty := by cases h <;> rfl
theorem tru_of {L : Ls} {H : Hp} {v : V} {R : Bool → Prop} {Q : Bool → Hp → Prop} : ∀ {sv : SV}, wTru sv R → SvOk X.K (hid L H) L v sv → (∀ b, R b → Q b H) → ∃ k, TruV X.K v H k ∧ Q k H
  | .d (.bool b), h, o, q => by cases o; exact ⟨b, rfl, q _ h⟩
  | .d .none, h, o, q => by cases o; exact ⟨false, rfl, q _ h⟩
  | .d (.int i), h, o, q => by cases o; exact ⟨_, rfl, q _ h⟩
  | .d (.str s), h, o, q => by cases o; exact ⟨_, ⟨h.1, rfl⟩, q _ h.2⟩
  | .d (.tuple xs), h, o, q => by
    obtain ⟨a, vs, rfl, s, d⟩ := dp_tup o
    exact ⟨_, .inr (.inl ⟨vs, hid_sqT s, rfl⟩), by rw [emp_of d]; exact q _ h⟩
  | .d (.list xs), h, o, q => by
    cases o with | lst s d => exact ⟨_, .inl ⟨_, hid_sqL s, rfl⟩, by rw [emp_of d]; exact q _ h⟩
  | .own xs, h, ⟨a, vs, e, s, d⟩, q => by
    subst e
    exact ⟨_, .inl ⟨vs, hid_sqL (SqL.of s), rfl⟩, by rw [emp_of d]; exact q _ h⟩
  | .d (.dict _), h, _, _ => h.elim
  | .oK _, h, _, _ => h.elim
  | .oT _, h, _, _ => h.elim
  | .rK _, h, _, _ => h.elim
  | .rT _, h, _, _ => h.elim
  | .tok, h, _, _ => h.elim
  | .fn _ _, h, _, _ => h.elim
  | .tk _ _, h, _, _ => h.elim
  | .xn _ _ _ _, h, _, _ => h.elim
@[simp] def tOf (ta : TDe) : TDt := fun δ R RX => ta δ (fun sv => wTru sv R) RX
/-- a value's truth as a test -/
theorem dt_of (ha : DX X LK W fa a ta) (he : ∀ whole, isTrue a X.env whole = (do let v ← whole; standAt a.pos; holding [v] (truthy v)) := by intro _; rfl) : DT X LK W a (tOf ta) :=
  pt_imp (pt_truth ha he) fun σ H Q ⟨G, L, δ, R, RX, rel, r, q, qx⟩ =>
    ⟨G, L, δ, _, RX, rel, r, fun sv v L' H' h st rel' res => tru_of h (res.b (fz_le _ _ _ _)) fun b hb => q b L' H' hb st rel', qx⟩
/-- a comparison as a test -/
theorem tTest_dx {t : TE} {σ : L2.St} {H : Hp} {Q : Bool → Hp → Prop} (ht : ∀ σ H Q, lift X.K LK W ff ta σ H Q → t σ H Q) (h : liftT X.K LK W (fun δ R RX => ta δ (fun sv => wB sv R) RX) σ H Q) : tTest t σ H Q := by
  obtain ⟨G, L, δ, R, RX, rel, r, q, qx⟩ := h
  refine ht _ _ _ ⟨G, L, δ, _, RX, rel, r, fun sv v L' H' h st rel' res => ?_, qx⟩
  obtain ⟨b, rfl, rfl, hb⟩ := wB_out h res.1
  exact ⟨b, rfl, q b L' H' hb st rel'⟩
@[simp] def tNotD (tt : TDt) : TDt := fun δ R RX => tt δ (fun b => R (!b)) RX
theorem dt_not (h : DT X LK W a tt) : DT X LK W (.UnaryOp .Not a pos) (tNotD tt) :=
  pt_imp (pt_not h) fun σ H Q ⟨G, L, δ, R, RX, rel, r, q, qx⟩ => ⟨G, L, δ, _, RX, rel, r, fun b L' H' h st rel' => q _ L' H' h st rel', qx⟩
theorem dw_and1 (h : DT X LK W a tt) : DW X LK W (.BoolOp .And [a] pos) tt := pw_and1 h
theorem dw_or1 (h : DT X LK W a tt) : DW X LK W (.BoolOp .Or [a] pos) tt := pw_or1 h
@[simp] def tAndD (tt tu : TDt) : TDt := fun δ R RX => tt δ (fun x => if x = true then tu δ R RX else R false) RX
theorem dw_and (h : DT X LK W a tt) (h2 : DW X LK W (.BoolOp .And (b :: es) pos) tu) : DW X LK W (.BoolOp .And (a :: b :: es) pos) (tAndD tt tu) :=
  pw_imp (pw_and h h2) fun σ H Q ⟨G, L, δ, R, RX, rel, r, q, qx⟩ => ⟨G, L, δ, _, RX, rel, r, fun x L' H' hx st rel' => by
    cases x with
    | true =>
      rw [if_pos rfl] at hx ⊢
      exact ⟨G, L', δ, R, RX, rel', hx, fun y L2' H2 hy st2 rel2 => q y L2' H2 hy (st.trans st2) rel2, fun x c d L2' H2 h st2 lk ex => qx x c d L2' H2 h (st.trans st2) lk ex⟩
    | false =>
      rw [if_neg Bool.false_ne_true] at hx ⊢
      exact q false L' H' hx st rel', qx⟩
@[simp] def tOrD (tt tu : TDt) : TDt := fun δ R RX => tt δ (fun x => if x = true then R true else tu δ R RX) RX
theorem dw_or (h : DT X LK W a tt) (h2 : DW X LK W (.BoolOp .Or (b :: es) pos) tu) : DW X LK W (.BoolOp .Or (a :: b :: es) pos) (tOrD tt tu) :=
  pw_imp (pw_or h h2) fun σ H Q ⟨G, L, δ, R, RX, rel, r, q, qx⟩ => ⟨G, L, δ, _, RX, rel, r, fun x L' H' hx st rel' => by
    cases x with
    | true =>
      rw [if_pos rfl] at hx ⊢
      exact q true L' H' hx st rel'
    | false =>
      rw [if_neg Bool.false_ne_true] at hx ⊢
      exact ⟨G, L', δ, R, RX, rel', hx, fun y L2' H2 hy st2 rel2 => q y L2' H2 hy (st.trans st2) rel2, fun x c d L2' H2 h st2 lk ex => qx x c d L2' H2 h (st.trans st2) lk ex⟩, qx⟩
theorem dt_w (h : DW X LK W a tt) : DT X LK W a tt := h.pt
/-- and, or, not as values -/
theorem dx_one {op} (h : DX X LK W fl a ta) : DX X LK W fl (.BoolOp op [a] pos) ta := pe_one h
@[simp] def eAnd (ta tb : TDe) : TDe := fun δ R RX => ta δ (fun x => wB x fun c => if c = true then tb δ R RX else R (.d (.bool false))) RX
theorem dx_and (h : DX X LK W fa a ta) (h2 : DX X LK W ff (.BoolOp .And (b :: es) pos) tb) : DX X LK W ff (.BoolOp .And (a :: b :: es) pos) (eAnd ta tb) :=
  pe_imp (pe_and h h2) fun σ H Q ⟨G, L, δ, R, RX, rel, r, q, qx⟩ => ⟨G, L, δ, _, RX, rel, r, fun sv v L' H' hw st rel' res => by
    obtain ⟨x, rfl, rfl, hx⟩ := wB_out hw (res.b (fz_le _ _ _ _))
    refine ⟨x, rfl, ?_⟩
    cases x with
    | true =>
      rw [if_pos rfl] at hx ⊢
      exact ⟨G, L', δ, R, RX, rel', hx, fun y v2 L2' H2 hy st2 rel2 res2 => q y v2 L2' H2 hy (st.trans st2) rel2 (res2.back st), fun x c d L2' H2 h st2 lk ex => qx x c d L2' H2 h (st.trans st2) lk ex⟩
    | false =>
      rw [if_neg Bool.false_ne_true] at hx ⊢
      exact q _ _ L' H' hx st rel' (res_sc fun _ => Dp.bl _), qx⟩
@[simp] def eOr (ta tb : TDe) : TDe := fun δ R RX => ta δ (fun x => wB x fun c => if c = true then R (.d (.bool true)) else tb δ R RX) RX
theorem dx_or (h : DX X LK W fa a ta) (h2 : DX X LK W ff (.BoolOp .Or (b :: es) pos) tb) : DX X LK W ff (.BoolOp .Or (a :: b :: es) pos) (eOr ta tb) :=
  pe_imp (pe_or h h2) fun σ H Q ⟨G, L, δ, R, RX, rel, r, q, qx⟩ => ⟨G, L, δ, _, RX, rel, r, fun sv v L' H' hw st rel' res => by
    obtain ⟨x, rfl, rfl, hx⟩ := wB_out hw (res.b (fz_le _ _ _ _))
    refine ⟨x, rfl, ?_⟩
    cases x with
    | true =>
      rw [if_pos rfl] at hx ⊢
      exact q _ _ L' H' hx st rel' (res_sc fun _ => Dp.bl _)
    | false =>
      rw [if_neg Bool.false_ne_true] at hx ⊢
      exact ⟨G, L', δ, R, RX, rel', hx, fun y v2 L2' H2 hy st2 rel2 res2 => q y v2 L2' H2 hy (st.trans st2) rel2 (res2.back st), fun x c d L2' H2 h st2 lk ex => qx x c d L2' H2 h (st.trans st2) lk ex⟩, qx⟩
@[simp] def eNot (ta : TDe) : TDe := fun δ R RX => ta δ (fun x => wB x fun c => R (.d (.bool (!c)))) RX
theorem dx_not (h : DX X LK W fa a ta) : DX X LK W ff (.UnaryOp .Not a pos) (eNot ta) :=
  pe_imp (pe_not h) fun σ H Q ⟨G, L, δ, R, RX, rel, r, q, qx⟩ => ⟨G, L, δ, _, RX, rel, r, fun sv v L' H' hw st rel' res => by
    obtain ⟨x, rfl, rfl, hx⟩ := wB_out hw (res.b (fz_le _ _ _ _))
    exact ⟨x, rfl, q _ _ L' H' hx st rel' (res_sc fun _ => Dp.bl _)⟩, qx⟩
@[simp] def eNeg (ta : TDe) : TDe := fun δ R RX => ta δ (fun x => wD x fun d => match d with | .int i => R (.d (.int (-i))) | _ => False) RX
theorem dx_neg (h : DX X LK W fa a ta) : DX X LK W ff (.UnaryOp .USub a pos) (eNeg ta) :=
  pe_imp (pe_un un_neg h) fun σ H Q ⟨G, L, δ, R, RX, rel, r, q, qx⟩ => ⟨G, L, δ, _, RX, rel, r, fun sv v L' H' hw st rel' res => by
    obtain ⟨x, ex, hx⟩ := wD_out hw
    have h1 := asD_ok ex (res.b (fz_le _ _ _ _))
    cases x <;> first | exact hx.elim | skip
    cases h1
    exact ⟨_, rfl, q _ _ L' H' hx st rel' (res_sc fun _ => Dp.int _)⟩, qx⟩
@[simp] def eIf (tt : TDt) (ta tb : TDe) : TDe := fun δ R RX => tt δ (fun x => if x = true then ta δ R RX else tb δ R RX) RX
theorem dx_if (hc : DT X LK W c tt) (ha : DX X LK W fl a ta) (hb : DX X LK W fl b tb) : DX X LK W fl (.IfExp c a b pos) (eIf tt ta tb) :=
  pe_imp (pe_ifExp hc ha hb) fun σ H Q ⟨G, L, δ, R, RX, rel, r, q, qx⟩ => ⟨G, L, δ, _, RX, rel, r, fun x L' H' hx st rel' => by
    cases x with
    | true =>
      rw [if_pos rfl] at hx ⊢
      exact ⟨G, L', δ, R, RX, rel', hx, fun y v2 L2' H2 hy st2 rel2 res2 => q y v2 L2' H2 hy (st.trans st2) rel2 (res2.back st), fun x c d L2' H2 h st2 lk ex => qx x c d L2' H2 h (st.trans st2) lk ex⟩
    | false =>
      rw [if_neg Bool.false_ne_true] at hx ⊢
      exact ⟨G, L', δ, R, RX, rel', hx, fun y v2 L2' H2 hy st2 rel2 res2 => q y v2 L2' H2 hy (st.trans st2) rel2 (res2.back st), fun x c d L2' H2 h st2 lk ex => qx x c d L2' H2 h (st.trans st2) lk ex⟩, qx⟩
/-- a op b op c -/
theorem tChain_dx {r r' : R2} {g g' : SV → SV → (SV → Prop) → Prop} (ad : Adeq X LK r g) (ad' : Adeq X LK r' g') {σ : L2.St} {H : Hp} {Q : VK}
    (h : lift X.K LK W ff (fun δ R RX => ta δ (fun x => tb δ (fun y => g x y fun z => wB z fun k => if k = true then tc δ (fun u => g' y u R) RX else R (.d (.bool false))) RX) RX) σ H Q) : tChain r r' (lift X.K LK W fa ta) (lift X.K LK W fb' tb) (lift X.K LK W fl tc) σ H Q := by
  obtain ⟨G, L, δ, R, RX, rel, r, q, qx⟩ := h
  refine ⟨G, L, δ, _, RX, rel, r, fun sx x L1 H1 hx st1 rel1 res1 => ⟨G, L1, δ, _, RX, rel1, hx, fun sy y L2' H2 hy st2 rel2 res2 => ?_, fun x c d L2' H2 h st2 lk ex => qx x c d L2' H2 h (st1.trans st2) lk ex⟩, qx⟩
  refine ad G L2' δ σ H2 x y sx sy _ _ rel2 ((res1.step st2).b (fz_le _ _ _ _)) (res2.b (fz_le _ _ _ _)) hy fun sv v H3 hw st3 rel3 res3 => ?_
  obtain ⟨k, rfl, rfl, hk⟩ := wB_out hw res3.1
  refine ⟨k, rfl, ?_⟩
  cases k with
  | true =>
    rw [if_pos rfl] at hk ⊢
    refine ⟨G, L2', δ, _, RX, rel3, hk, fun sz z L4 H4 hz st4 rel4 res4 => ?_, fun x c d L4 H4 h st4 lk ex => qx x c d L4 H4 h (st1.trans (st2.trans (st3.trans st4))) lk ex⟩
    exact ad' G L4 δ σ H4 y z sy sz R Q rel4 ((res2.step (st3.trans st4)).b (fz_le _ _ _ _)) (res4.b (fz_le _ _ _ _)) hz fun sv v H5 h st5 rel5 res5 => q sv v L4 H5 h (st1.trans (st2.trans (st3.trans (st4.trans st5)))) rel5 (res5.back (st1.trans (st2.trans (st3.trans st4))))
  | false =>
    rw [if_neg Bool.false_ne_true] at hk ⊢
    exact q _ _ L2' H3 hk (st1.trans (st2.trans st3)) rel3 (res_sc fun _ => Dp.bl _)
theorem adeq_cmpI (g : Int → Int → Bool) : Adeq X LK (rI0 fun i j => .bl (g i j)) (opD (cmpI g)) := adeq_int0 (gd := fun i j => .bool (g i j)) fun _ _ _ => Dp.bl _
@[simp] def eChain (p p' : Int → Int → Bool) (ta tb tc : TDe) : TDe := fun δ R RX => ta δ (fun x => tb δ (fun y => opD (cmpI p) x y fun z => wB z fun k => if k = true then tc δ (fun u => opD (cmpI p') y u R) RX else R (.d (.bool false))) RX) RX
theorem dx_chain {op op' : CmpOp} {p p' : Int → Int → Bool} (ho : OpR X (compareOp op) (rI0 fun i j => .bl (p i j))) (ho' : OpR X (compareOp op') (rI0 fun i j => .bl (p' i j))) (ha : DX X LK W fa a ta) (hb : DX X LK W fb' b tb) (hc : DX X LK W fl c tc)
    (hm : lastMarks [op, op'] [b, c] = false := by with_unfolding_all rfl) :
    DX X LK W ff (.Compare a [op, op'] [b, c] pos) (eChain p p' ta tb tc) :=
  pe_imp (pe_chain ho ho' ha hb hc hm) fun _ _ _ h => tChain_dx (adeq_cmpI p) (adeq_cmpI p') h
@[simp] def tChainD (p p' : Int → Int → Bool) (ta tb tc : TDe) : TDt := fun δ R RX => ta δ (fun x => tb δ (fun y => opD (cmpI p) x y fun z => wB z fun k => if k = true then tc δ (fun u => opD (cmpI p') y u fun w => wB w R) RX else R false) RX) RX
theorem dt_chain {op op' : CmpOp} {p p' : Int → Int → Bool} (ho : OpR X (compareOp op) (rI0 fun i j => .bl (p i j))) (ho' : OpR X (compareOp op') (rI0 fun i j => .bl (p' i j))) (ha : DX X LK W fa a ta) (hb : DX X LK W fb' b tb) (hc : DX X LK W fl c tc)
    (hm : lastMarks [op, op'] [b, c] = false := by with_unfolding_all rfl) :
    DT X LK W (.Compare a [op, op'] [b, c] pos) (tChainD p p' ta tb tc) :=
  pt_imp (pt_chain ho ho' ha hb hc hm) fun _ _ _ h => tTest_dx (ta := fun δ R RX => ta δ (fun x => tb δ (fun y => opD (cmpI p) x y fun z => wB z fun k => if k = true then tc δ (fun u => opD (cmpI p') y u R) RX else R (.d (.bool false))) RX) RX) (fun _ _ _ h => tChain_dx (adeq_cmpI p) (adeq_cmpI p') h) h
/-! ### displays -/
@[simp] def aNil : TDa := fun _ R _ => R []
theorem da_nil : DA X LK W fl [] aNil :=
  pa_imp pa_nil fun σ H Q ⟨G, L, δ, R, RX, rel, r, q, qx⟩ => q [] [] L H r (Step.refl _ _) rel .nil
@[simp] def aCons (ta : TDe) (ts : TDa) : TDa := fun δ R RX => ta δ (fun x => ts δ (fun xs => R (x :: xs)) RX) RX
theorem da_cons (h : DX X LK W fl e ta) (h2 : DA X LK W fl es ts) (hs : starEach (e :: es) X.env = (false, eval e X.env) :: starEach es X.env := by rfl) : DA X LK W fl (e :: es) (aCons ta ts) :=
  pa_imp (pa_cons h h2 hs) fun σ H Q ⟨G, L, δ, R, RX, rel, r, q, qx⟩ => ⟨G, L, δ, _, RX, rel, r, fun sv v L' H' hx st rel' res =>
    ⟨G, L', δ, _, RX, rel', hx, fun svs vs L2' H2 hy st2 rel2 res2 => q _ _ L2' H2 hy (st.trans st2) rel2 (.cons (res.step st2) (res2.back st)), fun x c d L2' H2 h st2 lk ex => qx x c d L2' H2 h (st.trans st2) lk ex⟩, qx⟩
def asDs : List SV → Option (List PyData)
  | [] => some []
  | x :: xs => match asD x, asDs xs with
    | some d, some ds => some (d :: ds)
    | _, _ => none
def wDs (svs : List SV) (R : List PyData → Prop) : Prop := match asDs svs with
  | some ds => ds.length ≤ 64 ∧ R ds
  | none => False
theorem asDs_ok {K : PySem.W.Frag} {G : Gd} {N F NN : Hp} {L : Ls} : ∀ {svs : List SV} {ds : List PyData} {vs : List V}, asDs svs = some ds → ResA K G fl N F NN L vs svs → DpAll K (pk fl G F NN) vs ds
  | [], ds, _, e, .nil => by simp [asDs] at e; subst e; exact .nil
  | x :: xs, ds, _, e, .cons r t => by
    unfold asDs at e
    split at e
    · rename_i d ds' e1 e2
      cases e
      exact .cons (asD_ok e1 r.1) (asDs_ok e2 t)
    · cases e
@[simp] def eTup (ts : TDa) : TDe := fun δ R RX => ts δ (fun svs => wDs svs fun ds => R (.d (.tuple ds))) RX
theorem dx_tup {z} (h : DA X LK W ff es ts) : DX X LK W ff (.Tuple es z pos) (eTup ts) :=
  pe_imp (pe_tup h) fun σ H Q ⟨G, L, δ, R, RX, rel, r, q, qx⟩ => ⟨G, L, δ, _, RX, rel, r, fun svs vs L' H' hx st rel' res => by
    unfold wDs at hx
    split at hx
    · rename_i ds e
      have d := asDs_ok e res
      refine ⟨by rw [dpA_len d]; exact Nat.le_trans hx.1 (by decide), fun p hp => ?_⟩
      refine q _ _ L' _ hx.2 (st.trans (rel'.stepNew hp)) (rel'.new hp) (Res.back (res_new rel' hp ?_) st)
      exact Dp.tup (SqT.of (new_at rel' hp)) (dpA_mono (new_mono rel' hp) _ _ d)
    · exact hx.elim, qx⟩
@[simp] def eLst (ts : TDa) : TDe := fun δ R RX => ts δ (fun svs => wDs svs fun ds => R (.own ds)) RX
theorem dx_lst (h : DA X LK W ff es ts) : DX X LK W ff (.List es pos) (eLst ts) :=
  pe_imp (pe_lst h) fun σ H Q ⟨G, L, δ, R, RX, rel, r, q, qx⟩ => ⟨G, L, δ, _, RX, rel, r, fun svs vs L' H' hx st rel' res => by
    unfold wDs at hx
    split at hx
    · rename_i ds e
      have d := asDs_ok e res
      refine ⟨by rw [dpA_len d]; exact Nat.le_trans hx.1 (by decide), fun p hp => ?_⟩
      refine q _ _ L' _ hx.2 (st.trans (rel'.stepNew hp)) (rel'.new hp) (Res.back (res_new rel' hp ?_) st)
      exact ⟨p, _, rfl, new_at rel' hp, dpA_mono (new_mono rel' hp) _ _ d⟩
    · exact hx.elim, qx⟩
/-! ### subscripts -/
def ixV (x y : SV) (R : SV → Prop) : Prop := wD x fun d => wD y fun i => match d, i with
  | .list ds, .int i => (match atI ds i with | some z => R (.d z) | none => False)
  | .tuple ds, .int i => (match atI ds i with | some z => R (.d z) | none => False)
  | .str s, .int i => s.length ≤ sizeLine ∧ (match atI s.cps.toList i with | some z => R (.d (.str ⟨#[z]⟩)) | none => False)
  | _, _ => False
theorem atI_dp {K : PySem.W.Frag} {M : Hp} {vs : List V} {ds : List PyData} {i : Int} {z : PyData} (h : DpAll K M vs ds) (e : atI ds i = some z) : ∃ v, atI vs i = some v ∧ Dp K M v z := by
  unfold atI at e ⊢
  rw [dpA_len h]
  cases q : ixN ds.length i with
  | none => rw [q] at e; cases e
  | some j =>
    rw [q] at e
    exact dpA_get' h e
@[simp] def eIx (ta tb : TDe) : TDe := fun δ R RX => ta δ (fun x => tb δ (fun y => ixV x y R) RX) RX
theorem dx_ix (ha : DX X LK W fa a ta) (hb : DX X LK W fb' b tb) (hs : PlainIx b := by exact fun _ _ => rfl) : DX X LK W { fa with f := true } (.Subscript a b pos) (eIx ta tb) :=
  pe_imp (pe_ix ix_seq ha hb hs) fun σ H Q ⟨G, L, δ, R, RX, rel, r, q, qx⟩ => ⟨G, L, δ, _, RX, rel, r, fun sx x L1 H1 hx st1 rel1 res1 =>
    ⟨G, L1, δ, _, RX, rel1, hx, fun sy y L2' H2 hy st2 rel2 res2 => by
      obtain ⟨dx, ex, hy⟩ := wD_out hy
      obtain ⟨dy, ey, hz⟩ := wD_out hy
      have r1 := res1.step st2
      have h1 := asD_ok ex r1.1
      have h2 := asD_ok ey res2.1
      have le : Same (pk fa G (fz L2' δ σ H2) (hid L2' H2)) H2 := (pk_leN (fz_le _ _ _ _)).trans (hid_le _ _)
      cases dy <;> first | (cases dx <;> exact hz.elim) | skip
      cases h2
      rename_i i
      have fin : ∀ (z : PyData) (v : V), R (.d z) → Dp X.K (pk fa G (fz L2' δ σ H2) (hid L2' H2)) v z → Q v H2 := fun z v hr hd => q (.d z) v L2' H2 hr (st1.trans st2) rel2 ⟨by
        obtain ⟨o, g, f⟩ := fa
        exact hd, fun _ z => nomatch z⟩
      cases dx <;> first | exact hz.elim | skip
      · cases h1
        simp only at hz
        obtain ⟨hl, hz⟩ := hz
        split at hz
        · rename_i z ez
          exact .inr (.inr ⟨_, _, z, rfl, rfl, hl, ez, fin _ _ hz (Dp.str _)⟩)
        · exact hz.elim
      · simp only at hz
        split at hz
        · rename_i z ez
          cases h1 with
          | lst s d =>
            obtain ⟨v, ev, dv⟩ := atI_dp d ez
            exact .inl ⟨_, _, _, v, rfl, rfl, le.seq s, ev, fin _ _ hz dv⟩
        · exact hz.elim
      · simp only at hz
        split at hz
        · rename_i z ez
          obtain ⟨p, vs, rfl, s, d⟩ := dp_tup h1
          obtain ⟨v, ev, dv⟩ := atI_dp d ez
          exact .inr (.inl ⟨_, _, _, v, rfl, rfl, same_sqT le s, ev, fin _ _ hz dv⟩)
        · exact hz.elim,
     fun x c d L2' H2 h st2 lk ex => qx x c d L2' H2 h (st1.trans st2) lk ex⟩, qx⟩
end
end DL

namespace DL
open PySem PySem.Spec PyProof.Rows L2

/-! ### contracts of defs -/
abbrev Ctr := List SV → (SV → Prop) → (Exn → Prop) → Prop
def gd1 (L : Ls) (H : Hp) : Gd := ⟨hid L H, hid L H⟩
def spD (K : PySem.W.Frag) (LK : Lk) (n : Nat) (C : Ctr) : Sp := fun vs H Q E => ∃ (L : Ls) (args : List SV) (R : SV → Prop) (RX : Exn → Prop), vs.length = n ∧ LkOk LK L H ∧
  Paired (fun v sv => SvOk K (hid L H) L v sv ∧ isData sv = true) vs args ∧ C args R RX ∧
  (∀ sv v L' H', R sv → Step L H L' H' → LkOk LK L' H' → SvOk K (nw (gd1 L H) (hid L' H')) L' v sv → Q v H') ∧
  (∀ x c d L' H', RX x → Step L H L' H' → LkOk LK L' H' → ExOk K (nw (gd1 L H) (hid L' H')) x c d → E c d H')
def toArg : SV → SV
  | .own xs => .d (.list xs)
  | .oK kvs => .rK kvs
  | .oT kvs => .rT kvs
  | .tk _ xs => .d (.list xs)
  | sv => sv
@[simp] theorem toArg_d (x : PyData) : toArg (.d x) = .d x := rfl
@[simp] theorem toArg_own (x : List PyData) : toArg (.own x) = .d (.list x) := rfl
@[simp] theorem toArg_tok : toArg .tok = .tok := rfl
theorem toArg_ok {K : PySem.W.Frag} {M : Hp} {L : Ls} {v : V} : ∀ {sv : SV}, SvOk K M L v sv → SvOk K M L v (toArg sv) ∧ isData (toArg sv) = true
  | .d _, h => ⟨h, rfl⟩
  | .own _, ⟨a, vs, e, h1, h2⟩ => ⟨by subst e; exact Dp.lst (SqL.of h1) h2, rfl⟩
  | .tk _ _, ⟨vs, e, h1, h2⟩ => ⟨by subst e; exact Dp.lst (SqL.of h1) h2, rfl⟩
  | .oK _, h => ⟨h, rfl⟩
  | .oT _, h => ⟨h, rfl⟩
  | .rK _, h => ⟨h, rfl⟩
  | .rT _, h => ⟨h, rfl⟩
  | .tok, h => ⟨h, rfl⟩
  | .fn _ _, h => ⟨h, rfl⟩
  | .xn _ _ _ _, h => ⟨h, rfl⟩
theorem paired_map {α β γ : Type} {F : α → β → Prop} {G : α → γ → Prop} {g : β → γ} (f : ∀ a b, F a b → G a (g b)) : ∀ {xs : List α} {ys : List β}, Paired F xs ys → Paired G xs (ys.map g)
  | _, _, .nil => .nil
  | _, _, .cons r t => .cons (f _ _ r) (paired_map f t)
theorem paired_len {α β : Type} {F : α → β → Prop} : ∀ {xs : List α} {ys : List β}, Paired F xs ys → xs.length = ys.length
  | _, _, .nil => rfl
  | _, _, .cons r t => by simp [paired_len t]
theorem paired_get {α β : Type} {F : α → β → Prop} : ∀ {xs : List α} {ys : List β} {i : Nat} {y : β}, Paired F xs ys → ys[i]? = some y → ∃ x, xs[i]? = some x ∧ F x y
  | _, _, _, _, .nil, e => by simp at e
  | _, _, 0, _, .cons r t, e => by simp at e; subst e; exact ⟨_, rfl, r⟩
  | _, _, i + 1, _, .cons r t, e => by
    obtain ⟨x, h1, h2⟩ := paired_get (i := i) t (by simpa using e)
    exact ⟨x, by simpa using h1, h2⟩
section
variable {X : Cx} {LK : Lk} {W : WX} {fl fa fb' : Fl} {e a b c : Expr} {es : List Expr} {pos : Pos} {ta tb tc : TDe} {tt tu : TDt} {tas : TDa}
theorem new_res {K : PySem.W.Frag} {G : Gd} {L1 L2' : Ls} {δ : DS} {σ : L2.St} {H1 H2 : Hp} {v : V} {sv : SV} (rel : Rel K LK G L1 δ σ H1) (st : Step L1 H1 L2' H2) (o : SvOk K (nw (gd1 L1 H1) (hid L2' H2)) L2' v sv) :
    Res K G ff (hid L1 H1) (fz L2' δ σ H2) (hid L2' H2) L2' v sv := by
  have sub : Same (nw (gd1 L1 H1) (hid L2' H2)) (nw G (fz L2' δ σ H2)) := fun b u h => by
    have hN := nw_le _ _ _ _ h
    have new : mutB u = true → hid L1 H1 b = none := fun m => by
      unfold nw at h
      rw [hN] at h
      cases q : hid L1 H1 b with
      | none => rfl
      | some z => simp [gd1, q, m] at h
    have no : ¬ OwnA δ σ b := fun ow => by
      obtain ⟨z, e, m⟩ := rel.ownN ow
      have := st.1 _ _ e
      rw [hN] at this
      cases this
      rw [new m] at e; cases e
    have hF := fz_of hN no
    cases m : mutB u with
    | false => exact nw_imm hF m
    | true =>
      refine nw_new hF ?_
      cases q : G.n b with
      | none => rfl
      | some z =>
        have := fz_le _ _ _ _ _ _ (rel.gF _ _ q)
        rw [new m] at this; cases this
  refine ⟨svOk_mono sub (fun _ z => z) o, fun _ ow a ea => ?_⟩
  subst ea
  have nn : ∀ u, mutB u = true → nw (gd1 L1 H1) (hid L2' H2) a = some u → hid L1 H1 a = none := fun u m h => by
    have hN := nw_le _ _ _ _ h
    unfold nw at h
    rw [hN] at h
    cases q : hid L1 H1 a with
    | none => rfl
    | some z => simp [gd1, q, m] at h
  cases sv with
  | own _ => obtain ⟨_, _, e, h1, _⟩ := o; cases e; exact nn _ rfl h1
  | oK _ => obtain ⟨_, _, e, h1, _⟩ := o; cases e; exact nn _ rfl h1
  | oT _ => obtain ⟨_, _, e, h1, _⟩ := o; cases e; exact nn _ rfl h1
  | tk _ _ => obtain ⟨_, e, h1, _⟩ := o; cases e; exact nn _ rfl h1
  | _ => simp [isOwn] at ow
theorem exOk_call {K : PySem.W.Frag} {G : Gd} {L1 L2' : Ls} {δ : DS} {σ : L2.St} {H1 H2 : Hp} {x : Exn} {c : Value} {d : Option Addr} (rel : Rel K LK G L1 δ σ H1) (h : ExOk K (nw (gd1 L1 H1) (hid L2' H2)) x c d) : ExOk K (nw G (hid L2' H2)) x c d :=
  exOk_mono (nw_anti fun a q => by
    cases z : G.n a with
    | none => rfl
    | some o =>
      have := fz_le _ _ _ _ _ _ (rel.gF _ _ z)
      have q' : hid L1 H1 a = none := q
      rw [q'] at this; cases this) h
@[simp] def eCall (n : Nat) (C : Ctr) (tas : TDa) : TDe := fun δ R RX => tas δ (fun svs => svs.length = n ∧ C (svs.map toArg) R RX) RX
theorem dx_call {k : Nat} {f : Addr} {fd : FuncData} {ps : List Str} {C : Ctr} {n : Nat} {x : Str} {p : Pos} (F : FnOk X.prog X.w X.K X.mg X.base (L2.CX X.prog X.w) k f fd ps (spD X.K LK n C)) (tk : Takes X W) (hr : Room k X.A) (hg : Gl X x) (hm : X.mg x = some (.ref f))
    (hk : PySem.W.keepIn X.K (.ref f) = true) (hb : Binds X.K fd ps []) (ha : DA X LK W fb (e :: es) tas) (hdb : (x == ("__debug__" : Str)) = false := by decide) (he : starEach (e :: es) X.env = (false, eval e X.env) :: starEach es X.env := by rfl)
    (hpl : (backTo pos (starEach es X.env)).any (·.1) = false := by rfl) :
    DX X LK W ff (.Call (.Name x p) (e :: es) [] pos) (eCall n C tas) :=
  pe_imp (pe_callS F hr hg hm hk hb (fun σ => passAt tk σ) ha hdb he hpl) fun σ H Q ⟨G, L, δ, R, RX, rel, r, q, qx⟩ => ⟨G, L, δ, _, RX, rel, r, fun svs vs L1 H1 ⟨hl, hc⟩ st1 rel1 res1 =>
    ⟨L1, svs.map toArg, R, RX, (paired_len res1).trans hl, rel1.lk, paired_map (G := fun v sv => SvOk X.K (hid L1 H1) L1 v sv ∧ isData sv = true) (g := toArg) (fun v sv z => toArg_ok (z.b (fz_le _ _ _ _))) res1, hc,
      fun sv v L2' H2 hR st2 lk ok => q sv v L2' H2 hR (st1.trans st2) (rel1.step st2 lk) ((new_res rel1 st2 ok).back st1),
      fun x c d L2' H2 hx st2 lk ex => qx x c d L2' H2 hx (st1.trans st2) lk (exOk_call rel1 ex)⟩, qx⟩
/-! ### statements -/
@[simp] def sNil : TDs := fun δ E => E.nx δ
theorem ds_nil : Ds X LK W [] sNil := pss_imp pss_nil fun D σ H ⟨G, L, δ, E, rel, r, q⟩ => q.nx δ L σ H r (fun _ z => z) rel
variable {st : Stmt} {rest : List Stmt} {t u : TDs}
@[simp] def sSeq (t u : TDs) : TDs := fun δ E => t δ { E with nx := fun δ' => u δ' E }
theorem ds_cons (h1 : D1 X LK W st t) (h2 : Ds X LK W rest u) : Ds X LK W (st :: rest) (sSeq t u) :=
  pss_imp (pss_cons h1 h2) fun D σ H ⟨G, L, δ, E, rel, r, q⟩ => ⟨G, L, δ, _, rel, r,
    ⟨fun δ' L' σ' H' h l rel' => ⟨G, L', δ', E, rel', h, q.mono l⟩, q.bk, q.ct, q.rt, q.xc⟩⟩
theorem ds_one (h1 : D1 X LK W st t) : Ds X LK W [st] t := pss_one h1
theorem d_pass : D1 X LK W (.Pass pos) sNil := ps_imp ps_pass fun D σ H ⟨G, L, δ, E, rel, r, q⟩ => q.nx δ L σ H r (fun _ z => z) rel
@[simp] def sBrk : TDs := fun δ E => E.bk δ
theorem d_break : D1 X LK W (.Break pos) sBrk := ps_imp ps_break fun D σ H ⟨G, L, δ, E, rel, r, q⟩ => q.bk δ L σ H r (fun _ z => z) rel
@[simp] def sCnt : TDs := fun δ E => E.ct δ
theorem d_continue : D1 X LK W (.Continue pos) sCnt := ps_imp ps_continue fun D σ H ⟨G, L, δ, E, rel, r, q⟩ => q.ct δ L σ H r (fun _ z => z) rel
theorem xc_of {K : PySem.W.Frag} {G : Gd} {L L' : Ls} {δ : DS} {σ : L2.St} {H H' : Hp} {E : EndsD} {D : Ends} (q : EndsOk K LK W G L E D) (rel : Rel K LK G L δ σ H) (x : Exn) (c : Value) (d : Option Addr) (h : E.xc δ x) (st : Step L H L' H') (lk : LkOk LK L' H') (ex : ExOk K (nw G (hid L' H')) x c d) : W c d σ H' :=
  q.xc x c d δ L' σ H' h st.2 (rel.step st lk) ex
@[simp] def sExpr (ta : TDe) : TDs := fun δ E => ta δ (fun _ => E.nx δ) (E.xc δ)
theorem d_expr (he : DX X LK W fl e ta) (hs : swapsWith e none pos.line X.env = pure false := by rfl) : D1 X LK W (.Expr e pos) (sExpr ta) :=
  ps_imp (ps_expr he hs) fun D σ H ⟨G, L, δ, E, rel, r, q⟩ => ⟨G, L, δ, _, _, rel, r, fun sv v L' H' h st rel' _ => q.nx δ L' σ H' h st.2 rel', fun x c d L' H' h st lk ex => xc_of q rel x c d h st lk ex⟩
/-- what is returned: data without lists, or what is new -/
def retV (g : Bool) (sv : SV) (R : SV → Prop) : Prop := (g = true ∨ nolS sv) ∧ R sv
@[simp] def sRet (g : Bool) (ta : TDe) : TDs := fun δ E => ta δ (fun sv => retV g sv (E.rt δ)) (E.xc δ)
theorem d_ret (he : DX X LK W fl e ta) : D1 X LK W (.Return (some e) pos) (sRet fl.g ta) :=
  ps_imp (ps_ret he) fun D σ H ⟨G, L, δ, E, rel, r, q⟩ => ⟨G, L, δ, _, _, rel, r, fun sv v L' H' h st rel' res => by
    refine q.rt sv v δ L' σ H' G.k h.2 st.2 rel' ?_
    rcases h.1 with hg | hn
    · refine svOk_mono ?_ (fun _ z => z) res.1
      obtain ⟨o, g, f⟩ := fl
      obtain rfl : g = true := hg
      cases o
      · exact Same.refl _
      · exact nw_mono (fz_le _ _ _ _)
    · cases sv with
      | d x => exact dp_mono (nw_mono (fz_le _ _ _ _)) _ _ (rel'.keep hn (res.b (fz_le _ _ _ _)))
      | tok => exact res.1
      | _ => exact hn.elim, fun x c d L' H' h st lk ex => xc_of q rel x c d h st lk ex⟩
@[simp] def sRetN : TDs := fun δ E => E.rt δ (.d .none)
theorem d_retN : D1 X LK W (.Return none pos) sRetN :=
  ps_imp ps_retN fun D σ H ⟨G, L, δ, E, rel, r, q⟩ => q.rt _ _ δ L σ H G.k r (fun _ z => z) rel Dp.non
@[simp] def sIf (tt : TDt) (t u : TDs) : TDs := fun δ E => tt δ (fun b => if b = true then t δ E else u δ E) (E.xc δ)
theorem d_if {s1 s2 : List Stmt} (hc : DT X LK W c tt) (h1 : Ds X LK W s1 t) (h2 : Ds X LK W s2 u) : D1 X LK W (.If c s1 s2 pos) (sIf tt t u) :=
  ps_imp (ps_if hc h1 h2) fun D σ H ⟨G, L, δ, E, rel, r, q⟩ => ⟨G, L, δ, _, _, rel, r, fun b L' H' h st rel' => by
    cases b with
    | true => rw [if_pos rfl] at h ⊢; exact ⟨G, L', δ, E, rel', h, q.mono st.2⟩
    | false => rw [if_neg Bool.false_ne_true] at h ⊢; exact ⟨G, L', δ, E, rel', h, q.mono st.2⟩, fun x c d L' H' h st lk ex => xc_of q rel x c d h st lk ex⟩
/-! ### a slot is filled -/
theorem fz_set {K : PySem.W.Frag} {G : Gd} {L : Ls} {δ : DS} {σ : L2.St} {H : Hp} {i : Nat} {sv : SV} {v : V} (rel : Rel K LK G L δ σ H) (no : isOwn sv = false) : Same (fz L δ σ H) (fz L (δ.set i (some sv)) (σ.set i (some v)) H) := fun b o h => by
  refine fz_of (fz_le _ _ _ _ _ _ h) ?_
  rintro ⟨j, s, h1, h2, h3⟩
  by_cases hj : j = i
  · subst hj
    have hl : j < δ.length := by
      have := (List.getElem?_eq_some_iff.mp h1).1
      simpa using this
    rw [List.getElem?_set_self hl] at h1
    cases h1
    rw [no] at h2; cases h2
  · rw [List.getElem?_set_ne (Ne.symm hj)] at h1 h3
    exact fz_not h ⟨j, s, h1, h2, h3⟩
def nolK {κ : Type} (kvs : List (κ × PyData)) : Bool := kvs.all fun p => nolist p.2
def storeV (fl : Fl) (sv : SV) (k : SV → Prop) : Prop := match sv with
  | .d x => (fl.o = true ∨ nolist x = true) ∧ k (.d x)
  | .own xs => (fl.o = true ∧ fl.f = true) ∧ (if nolistA xs = true then k (.own xs) else k (.d (.list xs)))
  | .oK kvs => (fl.o = true ∧ fl.f = true) ∧ nolK kvs = true ∧ k (.oK kvs)
  | .oT kvs => (fl.o = true ∧ fl.f = true) ∧ nolK kvs = true ∧ k (.oT kvs)
  | .rK kvs => fl.o = true ∧ k (.rK kvs)
  | .rT kvs => fl.o = true ∧ k (.rT kvs)
  | .tok => k .tok
  | .fn kf f => fl.o = true ∧ k (.fn kf f)
  | .xn _ _ _ _ => False
  | .tk _ _ => False
@[simp] theorem storeV_ff (x : PyData) (k : SV → Prop) : storeV ff (.d x) k = k (.d x) := by simp [storeV]
@[simp] theorem storeV_fs (x : PyData) (k : SV → Prop) : storeV fs (.d x) k = k (.d x) := by simp [storeV]
@[simp] theorem storeV_own (x : List PyData) (k : SV → Prop) : storeV ff (.own x) k = (if nolistA x = true then k (.own x) else k (.d (.list x))) := by simp [storeV]
@[simp] theorem storeV_tok (fl : Fl) (k : SV → Prop) : storeV fl .tok k = k .tok := rfl
theorem pk_o {fl : Fl} {G : Gd} {F N : Hp} (h : fl.o = true) : Same (pk fl G F N) F := by
  obtain ⟨o, g, f⟩ := fl
  obtain rfl : o = true := h
  cases g
  · exact Same.refl _
  · exact nw_le _ _
theorem kd_nol {κ : Type} {K : PySem.W.Frag} {H H' : Hp} (e : ∀ a xs, SqT K H a xs → SqT K H' a xs) : ∀ {vs : List (κ × V)} {ds : List (κ × PyData)}, nolK ds = true → KD K H vs ds → KD K H' vs ds
  | _, _, _, .nil => .nil
  | _, _, n, .cons r t => by
    unfold nolK at n
    rw [List.all_cons, Bool.and_eq_true] at n
    exact .cons ⟨r.1, dp_nolist e _ _ n.1 r.2⟩ (kd_nol e n.2 t)
/-- what an expression gave is put into a slot -/
theorem put_res {K : PySem.W.Frag} {G : Gd} {L L' : Ls} {δ : DS} {σ : L2.St} {H H' : Hp} {i : Nat} {sv : SV} {v : V} {k : SV → Prop} {P : Prop} (rel : Rel K LK G L δ σ H) (st : Step L H L' H') (rel' : Rel K LK G L' δ σ H') (h : storeV fl sv k)
    (res : Res K G fl (hid L H) (fz L' δ σ H') (hid L' H') L' v sv) (fin : ∀ sv', k sv' → Rel K LK G L' (δ.set i (some sv')) (σ.set i (some v)) H' → P) : P := by
  have own : ∀ (s' : SV) (w : HO) (a : Addr), isOwn s' = true → v = .ref a → hid L' H' a = some w → mutB w = true → ∀ b xs, SqT K (fz L' δ σ H') b xs → SqT K (nw G (fz L' (δ.set i (some s')) (σ.set i (some v)) H')) b xs := fun s' w a os ea ew mw b xs q => by
    refine tup_nw (rd_sqT (fun c u m e => fz_of (fz_le _ _ _ _ _ _ e) ?_) q)
    rintro ⟨j, s, h1, h2, h3⟩
    by_cases hj : j = i
    · subst hj
      have hl : j < δ.length := by
        have := (List.getElem?_eq_some_iff.mp h1).1
        simpa using this
      have hl' : j < σ.length := rel.ln ▸ hl
      rw [List.getElem?_set_self hl'] at h3
      subst ea
      cases h3
      have := fz_le _ _ _ _ _ _ e
      rw [ew] at this; cases this; rw [mw] at m; cases m
    · rw [List.getElem?_set_ne (Ne.symm hj)] at h1 h3
      exact fz_not e ⟨j, s, h1, h2, h3⟩
  have data : ∀ s', isOwn s' = false → SvOk K (fz L' δ σ H') L' v s' → k s' → P := fun s' ns ok hk => by
    refine fin s' hk (rel'.put (Step.refl _ _) rel'.lk (fun z => by rw [ns] at z; cases z) ?_)
    have := svOk_mono (fz_set (i := i) (v := v) rel' ns) (fun _ z => z) ok
    cases s' <;> first | (simp [isOwn] at ns; done) | exact this
  cases sv with
  | d x =>
    obtain ⟨o, hk⟩ := h
    refine data (.d x) rfl ?_ hk
    rcases o with o | o
    · exact svOk_mono (pk_o o) (fun _ z => z) res.1
    · exact dp_mono (nw_le _ _) _ _ (rel'.keep o (res.b (fz_le _ _ _ _)))
  | rK x => exact data _ rfl (svOk_mono (pk_o h.1) (fun _ z => z) res.1) h.2
  | rT x => exact data _ rfl (svOk_mono (pk_o h.1) (fun _ z => z) res.1) h.2
  | tok => exact data .tok rfl (show SvOk K (fz L' δ σ H') L' v .tok from res.1) h
  | fn kf f => exact data _ rfl (svOk_mono (pk_o h.1) (fun _ z => z) res.1) h.2
  | xn _ _ _ _ => exact h.elim
  | tk _ _ => exact h.elim
  | own xs =>
    obtain ⟨⟨o, f⟩, hk⟩ := h
    have r1 := svOk_mono (pk_o o) (fun _ z => z) res.1
    obtain ⟨a, vs, ea, e1, e2⟩ := r1
    by_cases hn : nolistA xs = true
    · rw [if_pos hn] at hk
      refine fin _ hk (rel.put st rel'.lk (fun z b eb => res.2 f z b eb) ?_)
      exact ⟨a, vs, ea, fz_le _ _ _ _ _ _ e1, dpA_nolist (own (.own xs) _ a rfl ea (fz_le _ _ _ _ _ _ e1) rfl) _ _ hn e2⟩
    · rw [if_neg hn] at hk
      exact data (.d (.list xs)) rfl (by subst ea; exact Dp.lst (SqL.of e1) e2) hk
  | oK xs =>
    obtain ⟨⟨o, f⟩, hn, hk⟩ := h
    obtain ⟨a, vs, ea, e1, e2⟩ := svOk_mono (pk_o o) (fun _ z => z) res.1
    refine fin _ hk (rel.put st rel'.lk (fun z b eb => res.2 f z b eb) ?_)
    exact ⟨a, vs, ea, fz_le _ _ _ _ _ _ e1, kd_nol (own (.oK xs) _ a rfl ea (fz_le _ _ _ _ _ _ e1) rfl) hn e2⟩
  | oT xs =>
    obtain ⟨⟨o, f⟩, hn, hk⟩ := h
    obtain ⟨a, vs, ea, e1, e2⟩ := svOk_mono (pk_o o) (fun _ z => z) res.1
    refine fin _ hk (rel.put st rel'.lk (fun z b eb => res.2 f z b eb) ?_)
    exact ⟨a, vs, ea, fz_le _ _ _ _ _ _ e1, kd_nol (own (.oT xs) _ a rfl ea (fz_le _ _ _ _ _ _ e1) rfl) hn e2⟩
@[simp] def sSet (fl : Fl) (i : Nat) (ta : TDe) : TDs := fun δ E => ta δ (fun sv => storeV fl sv fun sv' => E.nx (δ.set i (some sv'))) (E.xc δ)
theorem d_set (i : Nat) {x : Str} {pos' : Pos} (hN : X.N.Nodup) (he : DX X LK W fl e ta) (hi : X.N[i]? = some x := by rfl) (hx : Loc X.env.scope x := by first | exact Or.inl rfl | exact Or.inr rfl) (hs : swapsWith e (some (.Name x pos')) pos.line X.env = pure false := by rfl)
    (hf : X.fn x = true ∨ X.env.scope.names.lookup x = some .local := by first | exact .inl rfl | exact .inr rfl) :
    D1 X LK W (.Assign [.Name x pos'] e pos) (sSet fl i ta) :=
  ps_imp (ps_set hN hi hx he hs hf) fun D σ H ⟨G, L, δ, E, rel, r, q⟩ => ⟨G, L, δ, _, _, rel, r, fun sv v L' H' h st rel' res =>
    put_res rel st rel' h res fun sv' hk rel2 => q.nx _ L' _ H' hk st.2 rel2, fun x c d L' H' h st lk ex => xc_of q rel x c d h st lk ex⟩
end
end DL

namespace DL
open PySem PySem.Spec PyProof.Rows L2

/-! ### a def keeps its contract -/
def startD (N : List Str) (args : List SV) : DS := args.map some ++ List.replicate (N.length - args.length) none
abbrev WD (E : XK) : WX := fun cls d _ H => E cls d H
abbrev cx (P : Program) (w : World) (K : PySem.W.Frag) (mg : Str → Option Value) (base : Heap) (N : List Str) (qual : Str) (scope : Scope) (f : Addr) (cd : Value) (A : Around) (outer : List Env) (s : Shared) (H : Hp) (E : XK) : Cx :=
  cxOf (L2.CX P w) P w K mg base N qual scope f cd A outer s H E
theorem startD_get {N : List Str} {args : List SV} {i : Nat} {sv : SV} (h : (startD N args)[i]? = some (some sv)) : args[i]? = some sv := by
  unfold startD at h
  by_cases hi : i < args.length
  · rw [List.getElem?_append_left (by simpa using hi), List.getElem?_map] at h
    cases q : args[i]? with
    | none => rw [q] at h; cases h
    | some y => rw [q] at h; cases h; rfl
  · rw [List.getElem?_append_right (by simpa using hi), List.getElem?_replicate] at h
    split at h <;> cases h
theorem start_get {N : List Str} {vs : List V} {i : Nat} {v : V} (h : vs[i]? = some v) : (L2.start N vs)[i]? = some (some v) := by
  unfold L2.start
  have hi := (List.getElem?_eq_some_iff.mp h).1
  rw [List.getElem?_append_left (by simpa using hi), List.getElem?_map, h]
  rfl
section
variable {P : Program} {w : World} {K : PySem.W.Frag} {mg : Str → Option Value} {base : Heap} {LK : Lk}
theorem rel_start {L : Ls} {N : List Str} {args : List SV} {vs : List V} {H : Hp} (lk : LkOk LK L H) (pa : Paired (fun v sv => SvOk K (hid L H) L v sv ∧ isData sv = true) vs args) : Rel K LK (gd1 L H) L (startD N args) (L2.start N vs) H := by
  have none_own : ∀ a, ¬ OwnA (startD N args) (L2.start N vs) a := by
    rintro a ⟨i, sv, h1, h2, _⟩
    obtain ⟨v, _, _, hd⟩ := paired_get pa (startD_get h1)
    cases sv <;> simp [isOwn] at h2 <;> simp [isData] at hd
  have same : Same (hid L H) (fz L (startD N args) (L2.start N vs) H) := fun a o h => fz_of h (none_own a)
  refine ⟨Same.refl _, same, lk, fun i sv h => ?_, fun i j a si sj _ h1 h2 o1 _ _ _ => ?_, ?_⟩
  · obtain ⟨v, hv, ok, hd⟩ := paired_get pa (startD_get h)
    refine ⟨v, start_get hv, ?_⟩
    have := svOk_mono same (fun _ z => z) ok
    cases sv <;> first | (simp [isData] at hd; done) | exact this
  · obtain ⟨v, _, _, hd⟩ := paired_get pa (startD_get h1)
    cases si <;> simp [isOwn] at o1 <;> simp [isData] at hd
  · unfold startD L2.start
    have := paired_len pa
    simp [this]
theorem fn_ok {x qual : Str} {params : Arguments} {body : List Stmt} {scope : Scope} {dvs : List V} {kws : List (Str × V)} {f : Addr} {fd : FuncData} {N ps : List Str} {k : Nat} {C : Ctr} {ts : TDs} (F : FunD K x qual params body scope dvs kws f fd) (S : FnScope N ps scope)
    (hb : ∀ (cdv : Value) (A : Around) (outer : List Env) (s : Shared) (H : Hp) (E : XK), Room k (A.deeper (envOfC qual scope s.heap.objs.size f cdv)) → Ds (cx P w K mg base N qual scope f cdv A outer s H E) LK (WD E) body ts)
    (hc : ∀ args R RX, args.length = ps.length → C args R RX → ts (startD N args) { nx := fun _ => R (.d .none), rt := fun _ => R, xc := fun _ => RX }) : FnOk P w K mg base (L2.CX P w) (k + 1) f fd ps (spD K LK ps.length C) := by
  refine F.ok S (fun vs H Q E ⟨_, _, _, _, h, _⟩ => h) fun cdv A outer s H vs Q E hr h => ⟨_, hb cdv A outer s H E hr, ?_⟩
  obtain ⟨L, args, R, RX, hl, lk, pa, hC, q, qx⟩ := h
  refine ⟨gd1 L H, L, startD N args, _, rel_start lk pa, hc args R RX ((paired_len pa).symm.trans hl) hC, ⟨fun δ' L' σ' H' h l rel => ?_, fun _ _ _ _ h => h.elim, fun _ _ _ _ h => h.elim, fun sv v δ' L' σ' H' gk h l rel ok => ?_, fun x c d δ' L' σ' H' h l rel ex => ?_⟩⟩
  · exact q _ _ L' H' h ⟨rel.gF.trans (fz_le _ _ _ _), l⟩ rel.lk Dp.non
  · exact q _ _ L' H' h ⟨rel.gF.trans (fz_le _ _ _ _), l⟩ rel.lk ok
  · exact qx x c d L' H' h ⟨rel.gF.trans (fz_le _ _ _ _), l⟩ rel.lk ex
theorem takes_cx {N : List Str} {qual : Str} {scope : Scope} {f : Addr} {cd : Value} {A : Around} {outer : List Env} {s : Shared} {H : Hp} {E : XK} : Takes (cx P w K mg base N qual scope f cd A outer s H E) (WD E) := takes_of rfl rfl rfl rfl
end
section
variable {X : Cx} {LK : Lk} {W : WX} {fl fa fb' : Fl} {e a b c : Expr} {es : List Expr} {pos : Pos} {ta tb tc : TDe} {tt tu : TDt} {tas : TDa} {st : Stmt} {rest body : List Stmt} {t u : TDs}
/-! ### while -/
def whileD (tt : TDt) (tb : TDs) : TDs := fun δ E => ∃ I : Nat → DS → Prop, (∃ n, I n δ) ∧ ∀ n δ, I n δ → tt δ (fun b => if b = true then tb δ { E with nx := fun δ' => ∃ m, m < n ∧ I m δ', ct := fun δ' => ∃ m, m < n ∧ I m δ', bk := E.nx } else E.nx δ) (E.xc δ)
theorem d_while (hp : PassesOwn (model X.prog X.w) X.A X.env X.xe) (hc : DT X LK W c tt) (hb : Ds X LK W body t) : D1 X LK W (.While c body [] pos) (whileD tt t) :=
  ps_imp (ps_while hp hc hb) fun D σ H ⟨G, L, δ, E, rel, ⟨I, ⟨n0, i0⟩, step⟩, q⟩ => by
    refine ⟨fun n σ H => ∃ L' δ', (∀ a, L a = true → L' a = true) ∧ Rel X.K LK G L' δ' σ H ∧ I n δ', ⟨n0, L, δ, fun _ z => z, rel, i0⟩, ?_⟩
    rintro n σ1 H1 ⟨L1, δ1, l1, rel1, i1⟩
    have q1 := q.mono l1
    refine ⟨G, L1, δ1, _, _, rel1, step n δ1 i1, fun b L' H' h st rel' => ?_, fun x c d L' H' h st lk ex => xc_of q1 rel1 x c d h st lk ex⟩
    cases b with
    | false => rw [if_neg Bool.false_ne_true] at h ⊢; exact q1.nx δ1 L' σ1 H' h st.2 rel'
    | true =>
      rw [if_pos rfl] at h ⊢
      have back : ∀ σ' H', (∃ L2' δ2, (∀ a, L' a = true → L2' a = true) ∧ Rel X.K LK G L2' δ2 σ' H' ∧ ∃ m, m < n ∧ I m δ2) → ∃ m', m' < n ∧ ∃ L2' δ2, (∀ a, L a = true → L2' a = true) ∧ Rel X.K LK G L2' δ2 σ' H' ∧ I m' δ2 := by
        rintro σ' H' ⟨L2', δ2, l2, rel2, m, hm, im⟩
        exact ⟨m, hm, L2', δ2, fun a z => l2 a (st.2 a (l1 a z)), rel2, im⟩
      have q2 := q1.mono st.2
      exact ⟨fun σ' H' => ∃ L2' δ2, (∀ a, L' a = true → L2' a = true) ∧ Rel X.K LK G L2' δ2 σ' H' ∧ ∃ m, m < n ∧ I m δ2, back, G, L', δ1, _, rel', h,
        ⟨fun δ' L2' σ' H' h l rel2 => ⟨L2', δ', l, rel2, h⟩, fun δ' L2' σ' H' h l rel2 => q2.nx δ' L2' σ' H' h l rel2, fun δ' L2' σ' H' h l rel2 => ⟨L2', δ', l, rel2, h⟩, q2.rt, q2.xc⟩⟩
/-! ### targets -/
theorem wipe_set {σ : L2.St} {v : Option V} {i : Nat} : ∀ {vs : List Nat}, i ∈ vs → wipe (σ.set i v) vs = wipe σ vs
  | [], h => by simp at h
  | j :: vs, h => by
    unfold L2.wipe
    by_cases hj : i ∈ vs
    · rw [wipe_set hj]
    · have e : i = j := by simpa [hj] using h
      subst e
      have hw : ∀ (ws : List Nat) (τ : L2.St), i ∉ ws → wipe (τ.set i v) ws = (wipe τ ws).set i v := fun ws => by
        induction ws with
        | nil => intro τ _; rfl
        | cons k ws ih =>
          intro τ hk
          simp only [List.mem_cons, not_or] at hk
          unfold L2.wipe
          rw [ih τ hk.2, List.set_comm _ _ (by exact hk.1)]
      rw [hw vs σ hj, List.set_set]
/-- the slots at tv alone are written -/
def OnlyAt (tv : List Nat) (σ σ' : L2.St) : Prop := ∀ vs : List Nat, (∀ i ∈ tv, i ∈ vs) → wipe σ' vs = wipe σ vs
abbrev TDg := PyData → DS → (DS → Prop) → Prop
abbrev TDgs := List PyData → DS → (DS → Prop) → Prop
def liftG (K : PySem.W.Frag) (LK : Lk) (tv : List Nat) (g : TDg) : TG := fun v σ H Q => ∃ (G : Gd) (L : Ls) (δ : DS) (d : PyData) (R : DS → Prop), Rel K LK G L δ σ H ∧ Dp K (fz L δ σ H) v d ∧ g d δ R ∧ ∀ δ' σ', R δ' → OnlyAt tv σ σ' → Rel K LK G L δ' σ' H → Q σ' H
def liftGs (K : PySem.W.Frag) (LK : Lk) (tv : List Nat) (g : TDgs) : TGs := fun vs σ H Q => ∃ (G : Gd) (L : Ls) (δ : DS) (ds : List PyData) (R : DS → Prop), Rel K LK G L δ σ H ∧ DpAll K (fz L δ σ H) vs ds ∧ g ds δ R ∧ ∀ δ' σ', R δ' → OnlyAt tv σ σ' → Rel K LK G L δ' σ' H → Q σ' H
def DG (X : Cx) (LK : Lk) (tv : List Nat) (tg : Expr) (g : TDg) : Prop := PG X tg (liftG X.K LK tv g)
def DGs (X : Cx) (LK : Lk) (tv : List Nat) (tg : List Expr) (g : TDgs) : Prop := PGs X tg (liftGs X.K LK tv g)
theorem pg_imp {X : Cx} {e : Expr} {t t' : TG} (h : PG X e t) (i : ∀ v σ H Q, t' v σ H Q → t v σ H Q) : PG X e t' := by
  obtain ⟨run⟩ := h
  constructor
  intros
  apply run <;> first | assumption | (apply i; assumption)
theorem pgs_imp {X : Cx} {e : List Expr} {t t' : TGs} (h : PGs X e t) (i : ∀ v σ H Q, t' v σ H Q → t v σ H Q) : PGs X e t' := by
  obtain ⟨run⟩ := h
  constructor
  intros
  apply run <;> first | assumption | (apply i; assumption)
def gN (i : Nat) : TDg := fun d δ R => R (δ.set i (some (.d d)))
theorem put_data {K : PySem.W.Frag} {G : Gd} {L : Ls} {δ : DS} {σ : L2.St} {H : Hp} {v : V} {d : PyData} (rel : Rel K LK G L δ σ H) (i : Nat) (h : Dp K (fz L δ σ H) v d) : Rel K LK G L (δ.set i (some (.d d))) (σ.set i (some v)) H :=
  rel.put (Step.refl _ _) rel.lk (fun z => nomatch z) (dp_mono (fz_set rel rfl) _ _ h)
theorem dg_name (i : Nat) {x : Str} (hN : X.N.Nodup) (hi : X.N[i]? = some x := by rfl) (hx : Loc X.env.scope x := by first | exact Or.inl rfl | exact Or.inr rfl) (hf : X.fn x = true ∨ X.env.scope.names.lookup x = some .local := by first | exact .inl rfl | exact .inr rfl) : DG X LK [i] (.Name x pos) (gN i) :=
  pg_imp (pg_name hN hi hx hf) fun v σ H Q ⟨G, L, δ, d, R, rel, hd, g, q⟩ => q _ _ g (fun vs h => wipe_set (h i (by simp))) (put_data rel i hd)
def gsNil : TDgs := fun ds δ R => ds = [] ∧ R δ
def gsCons (g : TDg) (gs : TDgs) : TDgs := fun ds δ R => match ds with
  | d :: r => g d δ fun δ' => gs r δ' R
  | [] => False
theorem dgs_nil : DGs X LK [] [] gsNil := pgs_imp pgs_nil fun vs σ H Q ⟨G, L, δ, ds, R, rel, hd, g, q⟩ => by
  obtain ⟨rfl, g⟩ := g
  cases hd
  exact ⟨rfl, q _ _ g (fun _ _ => rfl) rel⟩
/-- one name, then the others -/
theorem dgs_name (i : Nat) {tv : List Nat} {x : Str} {gs : TDgs} (hN : X.N.Nodup) (h2 : DGs X LK tv es gs) (hi : X.N[i]? = some x := by rfl) (hx : Loc X.env.scope x := by first | exact Or.inl rfl | exact Or.inr rfl) (hf : X.fn x = true ∨ X.env.scope.names.lookup x = some .local := by first | exact .inl rfl | exact .inr rfl) :
    DGs X LK (i :: tv) (.Name x pos :: es) (gsCons (gN i) gs) :=
  pgs_imp (pgs_cons (pg_name hN hi hx hf) h2) fun vs σ H Q ⟨G, L, δ, ds, R, rel, hd, g, q⟩ => by
    cases ds with
    | nil => exact g.elim
    | cons d r =>
      cases hd with
      | cons h1 h2 => exact ⟨_, _, rfl, G, L, _, r, R, put_data rel i h1, dpA_mono (fz_set rel rfl) _ _ h2, g, fun δ' σ' h oa r2 => q δ' σ' h (fun vs hv => (oa vs fun j hj => hv j (List.mem_cons_of_mem _ hj)).trans (wipe_set (hv i (by simp)))) r2⟩
def gT (n : Nat) (gs : TDgs) : TDg := fun d δ R => match d with
  | .tuple ds => ds.length = n ∧ gs ds δ R
  | _ => False
theorem dg_tup {tv : List Nat} {k : Nat} {n : Nat} {gs : TDgs} (hc : X.calm = true) (h : DGs X LK tv es gs) (hn : (assignEach es X.env).length = n := by rfl) (hst : (assignEach es X.env).findIdx? (·.1) = none := by rfl) : DG X LK tv (.Tuple es k pos) (gT n gs) := by
  refine pg_imp (pg_tup (n := n) hc h hn hst) fun v σ H Q ⟨G, L, δ, d, R, rel, hd, g, q⟩ => ?_
  unfold gT at g
  split at g
  · obtain ⟨a, vs, rfl, s, da⟩ := dp_tup hd
    exact ⟨a, vs, rfl, same_sqT ((fz_le _ _ _ _).trans (hid_le _ _)) s, by rw [dpA_len da]; exact g.1, G, L, δ, _, R, rel, da, g.2, q⟩
  · exact g.elim
@[simp] def sUnp (fl : Fl) (ta : TDe) (g : TDg) : TDs := fun δ E => ta δ (fun sv => wD sv fun d => (fl.o = true ∨ nolist d = true) ∧ g d δ E.nx) (E.xc δ)
theorem d_unpack {tv : List Nat} {tg : Expr} {g : TDg} (he : DX X LK W fl e ta) (hg : DG X LK tv tg g) (hs : swapsWithSole [tg] e pos.line X.env = pure false := by rfl) (hw : swappedStores [tg] e X.env = pure none := by rfl) (h1 : (assignEach [tg] X.env).map (·.2) = [assign tg X.env] := by rfl) :
    D1 X LK W (.Assign [tg] e pos) (sUnp fl ta g) :=
  ps_imp (ps_asg he hg hs hw h1) fun D σ H ⟨G, L, δ, E, rel, r, q⟩ => ⟨G, L, δ, _, _, rel, r, fun sv v L' H' h st rel' res => by
    obtain ⟨d, ed, o, hg⟩ := wD_out h
    refine ⟨G, L', δ, d, _, rel', ?_, hg, fun δ' σ' h _ rel2 => q.nx δ' L' σ' H' h st.2 rel2⟩
    rcases o with o | o
    · exact dp_mono (pk_o o) _ _ (asD_ok ed res.1)
    · exact dp_mono (nw_le _ _) _ _ (rel'.keep o (asD_ok ed (res.b (fz_le _ _ _ _)))), fun x c d L' H' h st lk ex => xc_of q rel x c d h st lk ex⟩
/-! ### what a for walks -/
abbrev TDi := DS → (List PyData → Prop) → (Exn → Prop) → Prop
def ItOk (K : PySem.W.Frag) (items : List PyData) (J : It) (MS MI : Hp) : Prop :=
  (∀ i H, Same MS H → i < items.length → J.go i H) ∧ (∀ i H, Same MS H → i = items.length → J.stop i H) ∧
  (∀ i H x H', Same MS H → i < items.length → J.yld i H x H' → ∃ d, items[i]? = some d ∧ ((H' = H ∧ Dp K MI x d) ∨ ∃ p xs ds, H p = none ∧ H' = upd H p (.tup xs) ∧ x = .ref p ∧ d = .tuple ds ∧ DpAll K MI xs ds))
def liftI (K : PySem.W.Frag) (LK : Lk) (W : WX) (o : Bool) (ti : TDi) : TI := fun σ H Q =>
  ∃ (G : Gd) (L : Ls) (δ : DS) (R : List PyData → Prop) (RX : Exn → Prop), Rel K LK G L δ σ H ∧ ti δ R RX ∧
    (∀ items J L' H', R items → Step L H L' H' → Rel K LK G L' δ σ H' → ItOk K items J (if o = true then fz L' δ σ H' else hid L' H') (fz L' δ σ H') → Q J H') ∧
    (∀ x c d L' H', RX x → Step L H L' H' → LkOk LK L' H' → ExOk K (nw G (hid L' H')) x c d → W c d σ H')
def DI (X : Cx) (LK : Lk) (W : WX) (o : Bool) (tg e : Expr) (ti : TDi) : Prop := PI X tg e (liftI X.K LK W o ti)
theorem pi_imp {tg : Expr} {t t' : TI} (h : PI X tg e t) (i : ∀ σ H Q, t' σ H Q → t σ H Q) : PI X tg e t' := ⟨fun pins s σ H Q I q => h.run pins s σ H Q I (i σ H Q q)⟩
def forL (g : TDg) (tb : TDs) : List PyData → TDs
  | [], δ, E => E.nx δ
  | d :: r, δ, E => g d δ fun δ1 => tb δ1 { nx := fun δ2 => forL g tb r δ2 E, rt := E.rt, xc := E.xc, bk := E.nx, ct := fun δ2 => forL g tb r δ2 E }
theorem Rel.rek {K : PySem.W.Frag} {G : Gd} {L : Ls} {δ : DS} {σ : L2.St} {H : Hp} (rel : Rel K LK G L δ σ H) (k : Hp) (h : Same G.n k) (h2 : Same k (fz L δ σ H)) : Rel K LK ⟨G.n, k⟩ L δ σ H := ⟨h, h2, rel.lk, rel.sl, rel.ow, rel.ln⟩
@[simp] def sFor (ti : TDi) (g : TDg) (t : TDs) : TDs := fun δ E => ti δ (fun items => forL g t items δ E) (E.xc δ)
theorem d_for {tv : List Nat} {tg iter : Expr} {ti : TDi} {g : TDg} (hp : PassesOwn (model X.prog X.w) X.A X.env X.xe) (hc : X.calm = true) (hi : DI X LK W true tg iter ti) (hg : DG X LK tv tg g) (hb : Ds X LK W body t) (hs : ∀ x, foldedSetIterable iter X.env x = pure x := by intro _; rfl) :
    D1 X LK W (.For tg iter body [] pos) (sFor ti g t) :=
  ps_imp (ps_for hp hc hi hg hb hs) fun D σ H ⟨G, L, δ, E, rel, r, q⟩ => ⟨G, L, δ, _, _, rel, r, fun items J L1 H1 h st rel1 ok => by
    rw [if_pos rfl] at ok
    obtain ⟨og, os, oy⟩ := ok
    have q1 := q.mono st.2
    -- through the loop all that no slot owned at its start stays
    refine ⟨fun i m σ' H' => m = items.length - i ∧ i ≤ items.length ∧ ∃ L' δ', (∀ a, L1 a = true → L' a = true) ∧ Rel X.K LK ⟨G.n, fz L1 δ σ H1⟩ L' δ' σ' H' ∧ forL g t (items.drop i) δ' E,
      ⟨items.length, by simp, Nat.zero_le _, L1, δ, fun _ z => z, rel1.rek _ rel1.gF (Same.refl _), by simpa using h⟩, ?_⟩
    rintro i m σ' H' ⟨rfl, hi', L', δ', l, rel', hf⟩
    have sm : Same (fz L1 δ σ H1) H' := rel'.g.trans ((fz_le _ _ _ _).trans (hid_le _ _))
    have un : ∀ {δ2 : DS} {L2' : Ls} {σ2 : L2.St} {H2 : Hp}, Rel X.K LK ⟨G.n, fz L1 δ σ H1⟩ L2' δ2 σ2 H2 → Rel X.K LK G L2' δ2 σ2 H2 := fun r2 => ⟨rel1.gn, rel1.g.trans r2.g, r2.lk, r2.sl, r2.ow, r2.ln⟩
    have q2 := q1.mono l
    by_cases hlt : i < items.length
    · refine .inr ⟨og i H' sm hlt, fun σ2 H2 => ∃ L2' δ2, (∀ a, L1 a = true → L2' a = true) ∧ Rel X.K LK ⟨G.n, fz L1 δ σ H1⟩ L2' δ2 σ2 H2 ∧ forL g t (items.drop (i + 1)) δ2 E, fun σ2 H2 ⟨L2', δ2, l2, r2, f2⟩ => ⟨_, by omega, rfl, hlt, L2', δ2, l2, r2, f2⟩, fun x H2 hy => ?_⟩
      obtain ⟨d, hd, hx⟩ := oy i H' x H2 sm hlt hy
      have ed : items.drop i = d :: items.drop (i + 1) := by
        rw [List.drop_eq_getElem_cons hlt]
        rw [List.getElem?_eq_getElem hlt] at hd
        cases hd; rfl
      rw [ed] at hf
      have body : ∀ {H2 : Hp}, Rel X.K LK ⟨G.n, fz L1 δ σ H1⟩ L' δ' σ' H2 → Dp X.K (fz L' δ' σ' H2) x d → liftG X.K LK tv g x σ' H2 fun σ2 H3 => liftS X.K LK W t { D with nx := fun σ2 H2 => ∃ L2' δ2, (∀ a, L1 a = true → L2' a = true) ∧ Rel X.K LK ⟨G.n, fz L1 δ σ H1⟩ L2' δ2 σ2 H2 ∧ forL g t (items.drop (i + 1)) δ2 E, ct := fun σ2 H2 => ∃ L2' δ2, (∀ a, L1 a = true → L2' a = true) ∧ Rel X.K LK ⟨G.n, fz L1 δ σ H1⟩ L2' δ2 σ2 H2 ∧ forL g t (items.drop (i + 1)) δ2 E, bk := D.nx } σ2 H3 := fun {H2} r2 dx =>
        ⟨_, L', δ', d, _, r2, dx, hf, fun δ3 σ3 h3 _ r3 => ⟨_, L', δ3, _, r3, h3,
          ⟨fun δ4 L4 σ4 H4 h4 l4 r4 => ⟨L4, δ4, fun a z => l4 a (l a z), r4, h4⟩, fun δ4 L4 σ4 H4 h4 l4 r4 => q2.nx δ4 L4 σ4 H4 h4 l4 (un r4), fun δ4 L4 σ4 H4 h4 l4 r4 => ⟨L4, δ4, fun a z => l4 a (l a z), r4, h4⟩,
            fun sv v δ4 L4 σ4 H4 gk h4 l4 r4 ok => q2.rt sv v δ4 L4 σ4 H4 gk h4 l4 r4 ok, fun x c d δ4 L4 σ4 H4 h4 l4 r4 ex => q2.xc x c d δ4 L4 σ4 H4 h4 l4 (un r4) ex⟩⟩⟩
      rcases hx with ⟨rfl, dx⟩ | ⟨p, xs, ds, hp, rfl, rfl, rfl, da⟩
      · exact body rel' (dp_mono rel'.g _ _ dx)
      · have np := new_at rel' hp (o := .tup xs)
        exact body (rel'.new hp) (Dp.tup (SqT.of (nw_le _ _ _ _ np)) (dpA_mono (rel'.g.trans (fz_step (rel'.stepNew hp))) _ _ da))
    · have e : i = items.length := by omega
      subst e
      rw [List.drop_length] at hf
      exact .inl ⟨os _ H' sm rfl, q2.nx δ' L' σ' H' hf (fun _ z => z) (un rel')⟩,
    fun x c d L' H' h st lk ex => xc_of q rel x c d h st lk ex⟩
end
end DL

namespace DL
open PySem PySem.Spec PyProof.Rows L2

section
variable {X : Cx} {LK : Lk} {W : WX} {fl fa fb' : Fl} {e a b c : Expr} {es : List Expr} {pos p : Pos} {ta tb tc : TDe} {tt tu : TDt} {tas : TDa} {st : Stmt} {rest body : List Stmt} {t u : TDs}
/-! ### built-in functions of one and two arguments -/
abbrev Post (X : Cx) (LK : Lk) (G : Gd) (L : Ls) (δ : DS) (σ : L2.St) (H : Hp) (R : SV → Prop) (Q : VK) : Prop :=
  ∀ sv v H', R sv → Step L H L H' → Rel X.K LK G L δ σ H' → Res X.K G ff (hid L H) (fz L δ σ H') (hid L H') L v sv → Q v H'
def Adq1 (X : Cx) (LK : Lk) (r : V → Hp → VK → Prop) (g : SV → (SV → Prop) → Prop) : Prop := ∀ (G : Gd) (L : Ls) (δ : DS) (σ : L2.St) (H : Hp) (x : V) (sx : SV) (R : SV → Prop) (Q : VK),
  Rel X.K LK G L δ σ H → SvOk X.K (hid L H) L x sx → g sx R → Post X LK G L δ σ H R Q → r x H Q
theorem call1_dx {r : List V → Hp → VK → Prop} {g : SV → (SV → Prop) → Prop} (ad : Adq1 X LK (fun x => r [x]) g) {σ : L2.St} {H : Hp} {Q : VK} (h : lift X.K LK W ff (fun δ R RX => ta δ (fun x => g x R) RX) σ H Q) : tCB r (tCons (lift X.K LK W fa ta) tNil) σ H Q := by
  obtain ⟨G, L, δ, R, RX, rel, r, q, qx⟩ := h
  exact ⟨G, L, δ, _, RX, rel, r, fun sx x L1 H1 hx st1 rel1 res1 => ad G L1 δ σ H1 x sx R Q rel1 (res1.b (fz_le _ _ _ _)) hx fun sv v H' h st2 rel2 res2 => q sv v L1 H' h (st1.trans st2) rel2 (res2.back st1), qx⟩
@[simp] def e1 (g : SV → (SV → Prop) → Prop) (ta : TDe) : TDe := fun δ R RX => ta δ (fun x => g x R) RX
theorem dx_call1 {id : String} {x : Str} {r : List V → Hp → VK → Prop} {g : SV → (SV → Prop) → Prop} (hc : CallR X (.builtin id) r) (ad : Adq1 X LK (fun x => r [x]) g) (hg : Gl X x) (hm : X.mg x = none) (hv : bootBuiltins x = some (.builtin id)) (ha : DX X LK W fa a ta)
    (hn : x ≠ "__name__" := by decide) (hdb : (x == ("__debug__" : Str)) = false := by decide) (hs : starEach [a] X.env = (false, eval a X.env) :: starEach [] X.env := by rfl) : DX X LK W ff (.Call (.Name x p) [a] [] pos) (e1 g ta) :=
  pe_imp (pe_callB hc hg hm hv (pa_cons ha pa_nil hs) hn hdb hs) fun _ _ _ h => call1_dx ad h
theorem dx_ty1 {id : String} {x : Str} {r : List V → Hp → VK → Prop} {g : SV → (SV → Prop) → Prop} (hc : CallR X (.type id) r) (ad : Adq1 X LK (fun x => r [x]) g) (hg : Gl X x) (hm : X.mg x = none) (hv : bootBuiltins x = some (.type id)) (ha : DX X LK W fa a ta)
    (hn : x ≠ "__name__" := by decide) (hdb : (x == ("__debug__" : Str)) = false := by decide) (hs : starEach [a] X.env = (false, eval a X.env) :: starEach [] X.env := by rfl) : DX X LK W ff (.Call (.Name x p) [a] [] pos) (e1 g ta) :=
  pe_imp (pe_callTy hc hg hm hv (pa_cons ha pa_nil hs) hn hdb hs) fun _ _ _ h => call1_dx ad h
theorem dx_call2 {id : String} {x : Str} {r : List V → Hp → VK → Prop} {g : SV → SV → (SV → Prop) → Prop} (hc : CallR X (.builtin id) r) (ad : Adeq X LK (fun x y H Q => r [x, y] H Q) g) (hg : Gl X x) (hm : X.mg x = none) (hv : bootBuiltins x = some (.builtin id)) (ha : DX X LK W fa a ta) (hb : DX X LK W fb' b tb)
    (hn : x ≠ "__name__" := by decide) (hdb : (x == ("__debug__" : Str)) = false := by decide) (hs : starEach [a, b] X.env = (false, eval a X.env) :: starEach [b] X.env := by rfl) (hs2 : starEach [b] X.env = (false, eval b X.env) :: starEach [] X.env := by rfl) (hpl : (backTo pos (starEach [b] X.env)).any (·.1) = false := by rfl) :
    DX X LK W ff (.Call (.Name x p) [a, b] [] pos) (eB g ta tb) :=
  pe_imp (pe_callB hc hg hm hv (pa_cons ha (pa_cons hb pa_nil hs2) hs) hn hdb hs hpl) fun _ _ _ h => tOp_dx (r := fun x y H Q => r [x, y] H Q) ad h
/-! len, isinstance -/
def lenV (sv : SV) (R : SV → Prop) : Prop := match sv with
  | .d (.str s) => s.length ≤ sizeLine ∧ R (.d (.int s.length))
  | .d (.tuple xs) => R (.d (.int xs.length))
  | .d (.list xs) => R (.d (.int xs.length))
  | .own xs => R (.d (.int xs.length))
  | _ => False
@[simp] theorem lenV_str (s : Str) (R : SV → Prop) : lenV (.d (.str s)) R = (s.length ≤ sizeLine ∧ R (.d (.int s.length))) := rfl
@[simp] theorem lenV_tup (s : List PyData) (R : SV → Prop) : lenV (.d (.tuple s)) R = R (.d (.int s.length)) := rfl
@[simp] theorem lenV_lst (s : List PyData) (R : SV → Prop) : lenV (.d (.list s)) R = R (.d (.int s.length)) := rfl
@[simp] theorem lenV_own (s : List PyData) (R : SV → Prop) : lenV (.own s) R = R (.d (.int s.length)) := rfl
theorem dx_len (hg : Gl X "len") (hm : X.mg "len" = none) (ha : DX X LK W fa a ta) (hs : starEach [a] X.env = (false, eval a X.env) :: starEach [] X.env := by rfl) : DX X LK W ff (.Call (.Name "len" p) [a] [] pos) (e1 lenV ta) :=
  dx_call1 call_len (fun G L δ σ H x sx R Q rel hx h q => by
    unfold lenV at h
    split at h
    · cases hx
      exact ⟨_, _, rfl, ⟨h.1, rfl⟩, q _ _ H h.2 (Step.refl _ _) rel (res_sc fun _ => Dp.int _)⟩
    · obtain ⟨p, vs, rfl, s, d⟩ := dp_tup hx
      exact ⟨_, _, rfl, .inr ⟨vs, hid_sqT s, rfl⟩, q _ _ H h (Step.refl _ _) rel (res_sc fun _ => by rw [dpA_len d]; exact Dp.int _)⟩
    · cases hx with
      | lst s d => exact ⟨_, _, rfl, .inl ⟨_, hid_sqL s, rfl⟩, q _ _ H h (Step.refl _ _) rel (res_sc fun _ => by rw [dpA_len d]; exact Dp.int _)⟩
    · obtain ⟨p, vs, rfl, s, d⟩ := hx
      exact ⟨_, _, rfl, .inl ⟨vs, hid_sqL (SqL.of s), rfl⟩, q _ _ H h (Step.refl _ _) rel (res_sc fun _ => by rw [dpA_len d]; exact Dp.int _)⟩
    · exact h.elim) hg hm PySem.boot_len ha (by decide) (by decide) hs
def tyName : SV → String
  | .d .none => "NoneType"
  | .d (.bool _) => "bool"
  | .d (.int _) => "int"
  | .d (.str _) => "str"
  | .d (.tuple _) => "tuple"
  | .d (.list _) => "list"
  | .own _ => "list"
  | _ => "dict"
def isD : SV → Bool
  | .d (.dict _) => false
  | .d _ => true
  | .own _ => true
  | _ => false
theorem ty_of {K : PySem.W.Frag} {H : Hp} {L : Ls} {v : V} {sv : SV} (h : SvOk K H L v sv) (d : isD sv = true) : TyX K H v (.type (tyName sv)) := by
  have lst : ∀ {a : Addr} {xs : List V}, SqL K H a xs → TyX K H (.ref a) (.type "list") := fun {a xs} s => by
    rcases s with (s | ⟨o, s⟩) | ⟨o, _, _, e, c, _⟩
    · exact .base (.lst s)
    · exact .base (.frz s)
    · exact .kList e c
  cases sv with
  | d x =>
    cases h with
    | non => exact .base .non
    | bl b => exact .base (.bl b)
    | int i => exact .base (.int i)
    | str x => exact .base (.str x)
    | lst s _ => exact lst s
    | tup s _ =>
      rcases s with (s | ⟨o, s⟩) | ⟨o, _, _, e, c, _⟩
      · exact .base (.tup s)
      · exact .fTuple s
      · exact .kTuple e c
  | own xs =>
    obtain ⟨a, vs, rfl, s, _⟩ := h
    exact lst (SqL.of s)
  | _ => simp [isD] at d
theorem tyx_mono {K : PySem.W.Frag} {L : Ls} {H : Hp} {v : V} {sv : SV} (h : SvOk K (hid L H) L v sv) : SvOk K H L v sv := svOk_mono (hid_le L H) (fun _ z => z) h
def isIntS : SV → Bool
  | .d (.int _) => true | .d (.bool _) => true | _ => false
def isBoolS : SV → Bool
  | .d (.bool _) => true | _ => false
def isStrS : SV → Bool
  | .d (.str _) => true | _ => false
def isTupS : SV → Bool
  | .d (.tuple _) => true | _ => false
def isLstS : SV → Bool
  | .d (.list _) => true | .own _ => true | _ => false
theorem kit_cases {T : String} {f : SV → Bool} (h : ∀ n ∈ ["NoneType", "bool", "int", "str", "tuple", "list"], ∀ sv, isD sv = true → tyName sv = n → kitB n T = some (f sv)) : ∀ sv, isD sv = true → kitB (tyName sv) T = some (f sv) := fun sv d => by
  refine h _ ?_ sv d rfl
  cases sv with
  | d x => cases x <;> simp [isD] at d <;> simp [tyName]
  | own _ => simp [tyName]
  | _ => simp [isD] at d
theorem kb : (kitB "NoneType" "int" = some false ∧ kitB "bool" "int" = some true ∧ kitB "int" "int" = some true ∧ kitB "str" "int" = some false ∧ kitB "tuple" "int" = some false ∧ kitB "list" "int" = some false) ∧
    (kitB "NoneType" "bool" = some false ∧ kitB "bool" "bool" = some true ∧ kitB "int" "bool" = some false ∧ kitB "str" "bool" = some false ∧ kitB "tuple" "bool" = some false ∧ kitB "list" "bool" = some false) ∧
    (kitB "NoneType" "str" = some false ∧ kitB "bool" "str" = some false ∧ kitB "int" "str" = some false ∧ kitB "str" "str" = some true ∧ kitB "tuple" "str" = some false ∧ kitB "list" "str" = some false) ∧
    (kitB "NoneType" "tuple" = some false ∧ kitB "bool" "tuple" = some false ∧ kitB "int" "tuple" = some false ∧ kitB "str" "tuple" = some false ∧ kitB "tuple" "tuple" = some true ∧ kitB "list" "tuple" = some false) ∧
    (kitB "NoneType" "list" = some false ∧ kitB "bool" "list" = some false ∧ kitB "int" "list" = some false ∧ kitB "str" "list" = some false ∧ kitB "tuple" "list" = some false ∧ kitB "list" "list" = some true) := by decide +kernel
theorem kit_int : ∀ sv, isD sv = true → kitB (tyName sv) "int" = some (isIntS sv) := fun sv d => by
  have k := kb.1
  cases sv with
  | d x => cases x <;> simp [isD] at d <;> simp [tyName, isIntS, k]
  | own _ => simp [tyName, isIntS, k]
  | _ => simp [isD] at d
theorem kit_bool : ∀ sv, isD sv = true → kitB (tyName sv) "bool" = some (isBoolS sv) := fun sv d => by
  have k := kb.2.1
  cases sv with
  | d x => cases x <;> simp [isD] at d <;> simp [tyName, isBoolS, k]
  | own _ => simp [tyName, isBoolS, k]
  | _ => simp [isD] at d
theorem kit_str : ∀ sv, isD sv = true → kitB (tyName sv) "str" = some (isStrS sv) := fun sv d => by
  have k := kb.2.2.1
  cases sv with
  | d x => cases x <;> simp [isD] at d <;> simp [tyName, isStrS, k]
  | own _ => simp [tyName, isStrS, k]
  | _ => simp [isD] at d
theorem kit_tup : ∀ sv, isD sv = true → kitB (tyName sv) "tuple" = some (isTupS sv) := fun sv d => by
  have k := kb.2.2.2.1
  cases sv with
  | d x => cases x <;> simp [isD] at d <;> simp [tyName, isTupS, k]
  | own _ => simp [tyName, isTupS, k]
  | _ => simp [isD] at d
theorem kit_lst : ∀ sv, isD sv = true → kitB (tyName sv) "list" = some (isLstS sv) := fun sv d => by
  have k := kb.2.2.2.2
  cases sv with
  | d x => cases x <;> simp [isD] at d <;> simp [tyName, isLstS, k]
  | own _ => simp [tyName, isLstS, k]
  | _ => simp [isD] at d
@[simp] def eIsi (f : SV → Bool) (ta : TDe) : TDe := fun δ R RX => ta δ (fun sx => isD sx = true ∧ R (.d (.bool (f sx)))) RX
theorem dx_isi {T : String} {y : Str} {f : SV → Bool} {p2 : Pos} (hk : ∀ sv, isD sv = true → kitB (tyName sv) T = some (f sv)) (hgT : Gl X y) (hmT : X.mg y = none) (hvT : bootBuiltins y = some (.type T)) (hg : Gl X "isinstance") (hm : X.mg "isinstance" = none)
    (hv : bootBuiltins "isinstance" = some (.builtin "isinstance")) (ha : DX X LK W fa a ta) (hnT : y ≠ "__name__" := by decide) (hdT : (y == ("__debug__" : Str)) = false := by decide)
    (hs : starEach [a, .Name y p2] X.env = (false, eval a X.env) :: starEach [.Name y p2] X.env := by rfl) (hs2 : starEach [.Name y p2] X.env = (false, eval (.Name y p2) X.env) :: starEach [] X.env := by rfl) (hpl : (backTo pos (starEach [.Name y p2] X.env)).any (·.1) = false := by rfl) :
    DX X LK W ff (.Call (.Name "isinstance" p) [a, .Name y p2] [] pos) (eIsi f ta) :=
  pe_imp (pe_callB call_isi hg hm hv (pa_cons ha (pa_cons (pe_bltn (v := .ty T) hgT hmT hvT rfl hnT hdT) pa_nil hs2) hs) (by decide) (by decide) hs hpl) fun σ H Q ⟨G, L, δ, R, RX, rel, r, q, qx⟩ =>
    ⟨G, L, δ, _, RX, rel, r, fun sx x L1 H1 hx st1 rel1 res1 => ⟨x, .ty T, .type (tyName sx), .type T, f sx, rfl, .ty T, ty_of (tyx_mono (res1.b (fz_le _ _ _ _))) hx.1, kit_ty (hk sx hx.1), q _ _ L1 H1 hx.2 st1 rel1 (res_sc fun _ => Dp.bl _)⟩, qx⟩
/-! min, max of two ints; abs; int, ord, str; tuple, list; sorted -/
def mmD (g : Int → Int → Int) : BinD := fun x y R => match x, y with | .int i, .int j => R (.d (.int (g i j))) | _, _ => False
@[simp] theorem mmD_int (g : Int → Int → Int) (i j : Int) (R : SV → Prop) : mmD g (.int i) (.int j) R = R (.d (.int (g i j))) := rfl
theorem adeq_mm {r : R2} {g : Int → Int → Int} (hr : ∀ i j H (Q : VK), Q (.int (g i j)) H → r (.int i) (.int j) H Q) : Adeq X LK r (opD (mmD g)) := fun G L δ σ H x y sx sy R Q rel hx hy h q => by
  obtain ⟨dx, ex, k⟩ := wD_out h
  clear h
  obtain ⟨dy, ey, h⟩ := wD_out k
  clear k
  have h1 := asD_ok ex hx
  have h2 := asD_ok ey hy
  cases h1 <;> cases h2 <;> first | exact h.elim | skip
  exact hr _ _ H Q (q _ _ H h (Step.refl _ _) rel (res_sc fun _ => Dp.int _))
theorem dx_max2 (hc : X.calm = true) (hg : Gl X "max") (hm : X.mg "max" = none) (ha : DX X LK W fa a ta) (hb : DX X LK W fb' b tb) (hs : starEach [a, b] X.env = (false, eval a X.env) :: starEach [b] X.env := by rfl) (hs2 : starEach [b] X.env = (false, eval b X.env) :: starEach [] X.env := by rfl) (hpl : (backTo pos (starEach [b] X.env)).any (·.1) = false := by rfl) :
    DX X LK W ff (.Call (.Name "max" p) [a, b] [] pos) (eB (opD (mmD fun i j => max i j)) ta tb) :=
  dx_call2 (call_max2 hc) (adeq_mm fun i j H Q h => ⟨i, j, rfl, by
    by_cases e : j > i
    · rw [if_pos e]; rwa [show max i j = j by omega] at h
    · rw [if_neg e]; rwa [show max i j = i by omega] at h⟩) hg hm (by decide +kernel) ha hb (by decide) (by decide) hs hs2 hpl
theorem dx_min2 (hc : X.calm = true) (hg : Gl X "min") (hm : X.mg "min" = none) (ha : DX X LK W fa a ta) (hb : DX X LK W fb' b tb) (hs : starEach [a, b] X.env = (false, eval a X.env) :: starEach [b] X.env := by rfl) (hs2 : starEach [b] X.env = (false, eval b X.env) :: starEach [] X.env := by rfl) (hpl : (backTo pos (starEach [b] X.env)).any (·.1) = false := by rfl) :
    DX X LK W ff (.Call (.Name "min" p) [a, b] [] pos) (eB (opD (mmD fun i j => min i j)) ta tb) :=
  dx_call2 (call_min2 hc) (adeq_mm fun i j H Q h => ⟨i, j, rfl, by
    by_cases e : j < i
    · rw [if_pos e]; rwa [show min i j = j by omega] at h
    · rw [if_neg e]; rwa [show min i j = i by omega] at h⟩) hg hm (by decide +kernel) ha hb (by decide) (by decide) hs hs2 hpl
def un1 (g : PyData → (SV → Prop) → Prop) : SV → (SV → Prop) → Prop := fun sx R => wD sx fun x => g x R
@[simp] theorem un1_d (g : PyData → (SV → Prop) → Prop) (x : PyData) (R : SV → Prop) : un1 g (.d x) R = g x R := rfl
@[simp] theorem un1_own (g : PyData → (SV → Prop) → Prop) (x : List PyData) (R : SV → Prop) : un1 g (.own x) R = g (.list x) R := rfl
def absD : PyData → (SV → Prop) → Prop := fun x R => match x with | .int i => R (.d (.int (if i < 0 then -i else i))) | _ => False
def intD : PyData → (SV → Prop) → Prop := fun x R => match x with
  | .int i => R (.d (.int i))
  | .bool b => R (.d (.int (if b then 1 else 0)))
  | .str s => (match PySem.intText? s with | some n => s.length ≤ 640 ∧ R (.d (.int n)) | none => False)
  | _ => False
def ordD : PyData → (SV → Prop) → Prop := fun x R => match x with | .str s => s.length = 1 ∧ R (.d (.int (s.cps.getD 0 0 : Nat))) | _ => False
def strD : PyData → (SV → Prop) → Prop := fun x R => match x with | .int i => i.natAbs.log2 < 1920 ∧ R (.d (.str (toString i))) | .str s => R (.d (.str s)) | _ => False
@[simp] theorem absD_int (i : Int) (R : SV → Prop) : absD (.int i) R = R (.d (.int (if i < 0 then -i else i))) := rfl
@[simp] theorem intD_int (i : Int) (R : SV → Prop) : intD (.int i) R = R (.d (.int i)) := rfl
@[simp] theorem intD_bool (i : Bool) (R : SV → Prop) : intD (.bool i) R = R (.d (.int (if i then 1 else 0))) := rfl
@[simp] theorem ordD_str (s : Str) (R : SV → Prop) : ordD (.str s) R = (s.length = 1 ∧ R (.d (.int (s.cps.getD 0 0 : Nat)))) := rfl
@[simp] theorem strD_int (i : Int) (R : SV → Prop) : strD (.int i) R = (i.natAbs.log2 < 1920 ∧ R (.d (.str (toString i)))) := rfl
theorem dx_abs (hg : Gl X "abs") (hm : X.mg "abs" = none) (ha : DX X LK W fa a ta) (hs : starEach [a] X.env = (false, eval a X.env) :: starEach [] X.env := by rfl) : DX X LK W ff (.Call (.Name "abs" p) [a] [] pos) (e1 (un1 absD) ta) :=
  dx_call1 call_abs (fun G L δ σ H x sx R Q rel hx h q => by
    obtain ⟨d, ed, h⟩ := wD_out h
    have h1 := asD_ok ed hx
    cases d <;> first | exact h.elim | skip
    cases h1
    exact ⟨_, rfl, q _ _ H h (Step.refl _ _) rel (res_sc fun _ => Dp.int _)⟩) hg hm (by decide +kernel) ha (by decide) (by decide) hs
theorem CallR.or {f : Value} {r r' : List V → Hp → VK → Prop} (h : CallR X f r) (h' : CallR X f r') : CallR X f (fun x H Q => r x H Q ∨ r' x H Q) := by
  intro pins s σ H xs us Q I rx q
  exact q.elim (fun q => h pins s σ H xs us Q I rx q) (fun q => h' pins s σ H xs us Q I rx q)
theorem dx_intc (hg : Gl X "int") (hm : X.mg "int" = none) (ha : DX X LK W fa a ta) (hs : starEach [a] X.env = (false, eval a X.env) :: starEach [] X.env := by rfl) : DX X LK W ff (.Call (.Name "int" p) [a] [] pos) (e1 (un1 intD) ta) :=
  dx_ty1 (CallR.or call_int1 call_int_str) (fun G L δ σ H x sx R Q rel hx h q => by
    obtain ⟨d, ed, h⟩ := wD_out h
    have h1 := asD_ok ed hx
    cases d <;> first | exact h.elim | skip
    · cases h1
      exact .inl (.inr ⟨_, rfl, q _ _ H h (Step.refl _ _) rel (res_sc fun _ => Dp.int _)⟩)
    · cases h1
      exact .inl (.inl ⟨_, rfl, q _ _ H h (Step.refl _ _) rel (res_sc fun _ => Dp.int _)⟩)
    · cases h1
      unfold intD at h
      simp only at h
      split at h
      · rename_i n en
        exact .inr ⟨_, n, rfl, en, h.1, q _ _ H h.2 (Step.refl _ _) rel (res_sc fun _ => Dp.int _)⟩
      · exact h.elim) hg hm (by decide +kernel) ha (by decide) (by decide) hs
theorem dx_ord (hg : Gl X "ord") (hm : X.mg "ord" = none) (ha : DX X LK W fa a ta) (hs : starEach [a] X.env = (false, eval a X.env) :: starEach [] X.env := by rfl) : DX X LK W ff (.Call (.Name "ord" p) [a] [] pos) (e1 (un1 ordD) ta) :=
  dx_call1 call_ord (fun G L δ σ H x sx R Q rel hx h q => by
    obtain ⟨d, ed, h⟩ := wD_out h
    have h1 := asD_ok ed hx
    cases d <;> first | exact h.elim | skip
    cases h1
    exact ⟨_, rfl, h.1, q _ _ H h.2 (Step.refl _ _) rel (res_sc fun _ => Dp.int _)⟩) hg hm (by decide +kernel) ha (by decide) (by decide) hs
theorem dx_strc (hg : Gl X "str") (hm : X.mg "str" = none) (ha : DX X LK W fa a ta) (hs : starEach [a] X.env = (false, eval a X.env) :: starEach [] X.env := by rfl) : DX X LK W ff (.Call (.Name "str" p) [a] [] pos) (e1 (un1 strD) ta) :=
  dx_ty1 (CallR.or call_str_int SkE.call_str_str) (fun G L δ σ H x sx R Q rel hx h q => by
    obtain ⟨d, ed, h⟩ := wD_out h
    have h1 := asD_ok ed hx
    cases d <;> first | exact h.elim | skip
    · cases h1
      exact .inl ⟨_, rfl, h.1, q _ _ H h.2 (Step.refl _ _) rel (res_sc fun _ => Dp.str _)⟩
    · cases h1
      exact .inr ⟨_, rfl, q _ _ H h (Step.refl _ _) rel (res_sc fun _ => Dp.str _)⟩) hg hm (by decide +kernel) ha (by decide) (by decide) hs
def tupD : PyData → (SV → Prop) → Prop := fun x R => match x with
  | .list xs => nolistA xs = true ∧ R (.d (.tuple xs))
  | .tuple xs => nolistA xs = true ∧ R (.d (.tuple xs))
  | _ => False
def lstD : PyData → (SV → Prop) → Prop := fun x R => match x with
  | .list xs => nolistA xs = true ∧ R (.own xs)
  | .tuple xs => nolistA xs = true ∧ R (.own xs)
  | _ => False
@[simp] theorem tupD_lst (xs : List PyData) (R : SV → Prop) : tupD (.list xs) R = (nolistA xs = true ∧ R (.d (.tuple xs))) := rfl
@[simp] theorem tupD_tup (xs : List PyData) (R : SV → Prop) : tupD (.tuple xs) R = (nolistA xs = true ∧ R (.d (.tuple xs))) := rfl
@[simp] theorem lstD_lst (xs : List PyData) (R : SV → Prop) : lstD (.list xs) R = (nolistA xs = true ∧ R (.own xs)) := rfl
@[simp] theorem lstD_tup (xs : List PyData) (R : SV → Prop) : lstD (.tuple xs) R = (nolistA xs = true ∧ R (.own xs)) := rfl
theorem dx_tupc (hg : Gl X "tuple") (hm : X.mg "tuple" = none) (ha : DX X LK W fa a ta) (hs : starEach [a] X.env = (false, eval a X.env) :: starEach [] X.env := by rfl) : DX X LK W ff (.Call (.Name "tuple" p) [a] [] pos) (e1 (un1 tupD) ta) :=
  dx_ty1 call_tuple_of (fun G L δ σ H x sx R Q rel hx h q => by
    obtain ⟨d, ed, h⟩ := wD_out h
    have h1 := asD_ok ed hx
    cases d <;> first | exact h.elim | skip
    · cases h1 with
      | lst s dd =>
        exact ⟨_, _, rfl, .inl ⟨hid_sqL s, fun l hl => q _ _ _ h.2 (rel.stepNew hl) (rel.new hl) (res_new rel hl (Dp.tup (SqT.of (new_at rel hl)) (dpA_mono (new_mono rel hl) _ _ (rel.keepA h.1 dd))))⟩⟩
    · obtain ⟨p, vs, rfl, s, dd⟩ := dp_tup h1
      exact ⟨_, _, rfl, .inr ⟨hid_sqT s, q _ _ H h.2 (Step.refl _ _) rel ⟨rel.keep (by simpa [nolist] using h.1) h1, fun _ z => nomatch z⟩⟩⟩) hg hm (by decide +kernel) ha (by decide) (by decide) hs
theorem dx_lstc (hg : Gl X "list") (hm : X.mg "list" = none) (ha : DX X LK W fa a ta) (hs : starEach [a] X.env = (false, eval a X.env) :: starEach [] X.env := by rfl) : DX X LK W ff (.Call (.Name "list" p) [a] [] pos) (e1 (un1 lstD) ta) :=
  dx_ty1 call_list_of (fun G L δ σ H x sx R Q rel hx h q => by
    obtain ⟨d, ed, h⟩ := wD_out h
    have h1 := asD_ok ed hx
    cases d <;> first | exact h.elim | skip
    · cases h1 with
      | lst s dd =>
        exact ⟨_, _, rfl, .inl (hid_sqL s), fun l hl => q _ _ _ h.2 (rel.stepNew hl) (rel.new hl) (res_new rel hl ⟨l, _, rfl, new_at rel hl, dpA_mono (new_mono rel hl) _ _ (rel.keepA h.1 dd)⟩)⟩
    · obtain ⟨p, vs, rfl, s, dd⟩ := dp_tup h1
      exact ⟨_, _, rfl, .inr (hid_sqT s), fun l hl => q _ _ _ h.2 (rel.stepNew hl) (rel.new hl) (res_new rel hl ⟨l, _, rfl, new_at rel hl, dpA_mono (new_mono rel hl) _ _ (rel.keepA h.1 dd)⟩)⟩) hg hm (by decide +kernel) ha (by decide) (by decide) hs
/-- ints, any number of them -/
def sortedD : PyData → (SV → Prop) → Prop := fun x R => match x with
  | .list xs => ∃ ns : List Int, xs = ns.map .int ∧ ∀ ns' : List Int, ns'.Perm ns → ns'.Pairwise (· ≤ ·) → R (.own (ns'.map .int))
  | _ => False
theorem dpA_ints {K : PySem.W.Frag} {M : Hp} : ∀ {ns : List Int} {vs : List V}, DpAll K M vs (ns.map .int) → vs = ns.map V.int
  | [], _, h => by cases h; rfl
  | n :: ns, _, h => by
    cases h with
    | cons h1 h2 => cases h1; rw [dpA_ints h2]; rfl
theorem dpA_of_ints {K : PySem.W.Frag} {M : Hp} : ∀ (ns : List Int), DpAll K M (ns.map V.int) (ns.map .int)
  | [] => .nil
  | n :: ns => .cons (.int n) (dpA_of_ints ns)
theorem dx_sorted (hg : Gl X "sorted") (hm : X.mg "sorted" = none) (ha : DX X LK W fa a ta) (hs : starEach [a] X.env = (false, eval a X.env) :: starEach [] X.env := by rfl) : DX X LK W ff (.Call (.Name "sorted" p) [a] [] pos) (e1 (un1 sortedD) ta) :=
  dx_call1 cr_sortedI (fun G L δ σ H x sx R Q rel hx h q => by
    obtain ⟨d, ed, h⟩ := wD_out h
    have h1 := asD_ok ed hx
    cases d <;> first | exact h.elim | skip
    cases h1 with
    | lst s dd =>
      obtain ⟨ns, rfl, h⟩ := h
      have ev := dpA_ints dd
      subst ev
      exact ⟨_, ns, rfl, hid_sqL s, fun ns' p pm pw hp => q _ _ _ (h ns' pm pw) (rel.stepNew hp) (rel.new hp) (res_new rel hp ⟨p, _, rfl, new_at rel hp, dpA_of_ints ns'⟩)⟩) hg hm (by decide +kernel) ha (by decide) (by decide) hs
/-! ### slices -/
abbrev TDo := DS → (Option Int → Prop) → (Exn → Prop) → Prop
def liftO (K : PySem.W.Frag) (LK : Lk) (W : WX) (to : TDo) : TO := fun σ H Q =>
  ∃ (G : Gd) (L : Ls) (δ : DS) (R : Option Int → Prop) (RX : Exn → Prop), Rel K LK G L δ σ H ∧ to δ R RX ∧
    (∀ o L' H', R o → Step L H L' H' → Rel K LK G L' δ σ H' → Q o H') ∧ (∀ x c d L' H', RX x → Step L H L' H' → LkOk LK L' H' → ExOk K (nw G (hid L' H')) x c d → W c d σ H')
def DO (X : Cx) (LK : Lk) (W : WX) (e : Option Expr) (to : TDo) : Prop := PO X e (liftO X.K LK W to)
theorem po_imp {e : Option Expr} {t t' : TO} (h : PO X e t) (i : ∀ σ H Q, t' σ H Q → t σ H Q) : PO X e t' := ⟨fun pins s σ H Q I q => h.run pins s σ H Q I (i σ H Q q)⟩
@[simp] def oNone : TDo := fun _ R _ => R none
theorem do_none : DO X LK W none oNone := po_imp po_none fun σ H Q ⟨G, L, δ, R, RX, rel, r, q, _⟩ => q none L H r (Step.refl _ _) rel
def wI (sv : SV) (R : Int → Prop) : Prop := match sv with
  | .d (.int i) => R i
  | _ => False
@[simp] theorem wI_int (i : Int) (R : Int → Prop) : wI (.d (.int i)) R = R i := rfl
theorem wI_out {K : PySem.W.Frag} {M : Hp} {L : Ls} {v : V} {sv : SV} {R : Int → Prop} (h : wI sv R) (o : SvOk K M L v sv) : ∃ i, v = .int i ∧ sv = .d (.int i) ∧ R i := by
  unfold wI at h
  split at h
  · cases o; exact ⟨_, rfl, rfl, h⟩
  · exact h.elim
@[simp] def oSome (ta : TDe) : TDo := fun δ R RX => ta δ (fun sv => wI sv fun i => R (some i)) RX
theorem do_some (h : DX X LK W fa a ta) : DO X LK W (some a) (oSome ta) :=
  po_imp (po_some h) fun σ H Q ⟨G, L, δ, R, RX, rel, r, q, qx⟩ => ⟨G, L, δ, _, RX, rel, r, fun sv v L' H' hw st rel' res => by
    obtain ⟨i, rfl, rfl, hi⟩ := wI_out hw res.1
    exact ⟨i, rfl, q _ L' H' hi st rel'⟩, qx⟩
def cutL {α : Type} (xs : List α) (lo hi : Option Int) : List α := (xs.drop (HT.sIx xs.length 0 lo)).take (HT.sIx xs.length xs.length hi - HT.sIx xs.length 0 lo)
theorem cutL_dp {K : PySem.W.Frag} {M : Hp} {vs : List V} {ds : List PyData} (lo hi : Option Int) (h : DpAll K M vs ds) : DpAll K M (cutV vs lo hi) (cutL ds lo hi) := by
  unfold cutV cutL
  rw [dpA_len h]
  exact dpA_take _ (dpA_drop _ h)
theorem nolistA_mem : ∀ {ds : List PyData}, nolistA ds = true ↔ ∀ d ∈ ds, nolist d = true
  | [] => by simp [nolistA]
  | d :: ds => by simp [nolistA, nolistA_mem (ds := ds)]
theorem cutL_nol {ds : List PyData} (lo hi : Option Int) (h : nolistA ds = true) : nolistA (cutL ds lo hi) = true :=
  nolistA_mem.mpr fun d hd => nolistA_mem.mp h d (List.mem_of_mem_drop (List.mem_of_mem_take hd))
def slD (x : PyData) (lo hi : Option Int) (R : SV → Prop) : Prop := match x with
  | .str s => s.length ≤ sizeLine ∧ R (.d (.str (cutS s lo hi)))
  | .tuple xs => nolistA xs = true ∧ R (.d (.tuple (cutL xs lo hi)))
  | .list xs => nolistA xs = true ∧ R (.own (cutL xs lo hi))
  | _ => False
@[simp] theorem slD_str (s : Str) (lo hi : Option Int) (R : SV → Prop) : slD (.str s) lo hi R = (s.length ≤ sizeLine ∧ R (.d (.str (cutS s lo hi)))) := rfl
@[simp] theorem slD_tup (xs : List PyData) (lo hi : Option Int) (R : SV → Prop) : slD (.tuple xs) lo hi R = (nolistA xs = true ∧ R (.d (.tuple (cutL xs lo hi)))) := rfl
@[simp] theorem slD_lst (xs : List PyData) (lo hi : Option Int) (R : SV → Prop) : slD (.list xs) lo hi R = (nolistA xs = true ∧ R (.own (cutL xs lo hi))) := rfl
@[simp] def eSl (ta : TDe) (tl th : TDo) : TDe := fun δ R RX => ta δ (fun sx => tl δ (fun l => th δ (fun h => wD sx fun x => slD x l h R) RX) RX) RX
theorem dx_slice {lo hi : Option Expr} {tl th : TDo} {p2 : Pos} (ha : DX X LK W fa a ta) (hl : DO X LK W lo tl) (hh : DO X LK W hi th) : DX X LK W ff (.Subscript a (.Slice lo hi none p2) pos) (eSl ta tl th) :=
  pe_imp (pe_slice (SlR.or sl_str (SlR.or sl_tupA sl_list)) ha hl hh) fun σ H Q ⟨G, L, δ, R, RX, rel, r, q, qx⟩ => ⟨G, L, δ, _, RX, rel, r, fun sx x L1 H1 hx st1 rel1 res1 =>
    ⟨G, L1, δ, _, RX, rel1, hx, fun l L2' H2 hl st2 rel2 => ⟨G, L2', δ, _, RX, rel2, hl, fun h L3 H3 hw st3 rel3 => by
      obtain ⟨d, ed, hd⟩ := wD_out hw
      have st := st1.trans (st2.trans st3)
      have h1 := asD_ok ed ((res1.step (st2.trans st3)).b (fz_le _ _ _ _))
      cases d <;> first | exact hd.elim | skip
      · cases h1
        exact .inl ⟨_, rfl, hd.1, q _ _ L3 H3 hd.2 st rel3 (res_sc fun _ => Dp.str _)⟩
      · cases h1 with
        | lst s dd =>
          exact .inr (.inr ⟨_, _, rfl, hid_sqL s, fun p hp => q (.own (cutL _ l h)) (.ref p) _ _ hd.2 (st.trans (rel3.stepNew hp)) (rel3.new hp) ((res_new (sv := .own (cutL _ l h)) rel3 hp ⟨p, _, rfl, new_at rel3 hp, cutL_dp l h (dpA_mono (new_mono rel3 hp) _ _ (rel3.keepA hd.1 dd))⟩).back st)⟩)
      · obtain ⟨p, vs, rfl, s, dd⟩ := dp_tup h1
        refine .inr (.inl ⟨_, _, rfl, hid_sqT s, fun hw => ?_, fun _ p hp => ?_⟩)
        · refine q _ _ L3 H3 hd.2 st rel3 ⟨?_, fun _ z => nomatch z⟩
          rename_i ds
          have e : cutL ds l h = ds := by
            unfold cutL
            rw [← dpA_len dd, hw.1, hw.2, dpA_len dd]
            simp
          rw [e]
          exact rel3.keep (by simpa [nolist] using hd.1) h1
        · exact q (.d (.tuple (cutL _ l h))) (.ref p) _ _ hd.2 (st.trans (rel3.stepNew hp)) (rel3.new hp) ((res_new (sv := .d (.tuple (cutL _ l h))) rel3 hp (Dp.tup (SqT.of (new_at rel3 hp)) (cutL_dp l h (dpA_mono (new_mono rel3 hp) _ _ (rel3.keepA hd.1 dd))))).back st),
      fun x c d L' H' h st lk ex => qx x c d L' H' h (st1.trans (st2.trans st)) lk ex⟩, fun x c d L' H' h st lk ex => qx x c d L' H' h (st1.trans st) lk ex⟩, qx⟩
end
end DL

namespace DL
open PySem PySem.Spec PyProof.Rows L2

section
variable {X : Cx} {LK : Lk} {W : WX} {fl fa fb' : Fl} {e a b c tg iter elt : Expr} {es : List Expr} {pos p : Pos} {ta tb tc te : TDe} {tt tu : TDt} {tas : TDa} {st : Stmt} {rest body : List Stmt} {t u : TDs}
/-! ### what is walked -/
def rangeD (lo : Int) (n : Nat) : List PyData := (List.range n).map fun (k : Nat) => .int (lo + k)
theorem rangeD_len (lo : Int) (n : Nat) : (rangeD lo n).length = n := by simp [rangeD]
theorem itOk_range {K : PySem.W.Frag} (lo : Int) (n : Nat) (MS MI : Hp) : ItOk K (rangeD lo n) (Itr lo n) MS MI := by
  refine ⟨fun i H _ h => by rw [rangeD_len] at h; exact h, fun i H _ h => by rw [rangeD_len] at h; exact Nat.le_of_eq h.symm, fun i H x H' _ hi h => ?_⟩
  obtain ⟨e1, e2⟩ := h
  subst e1; subst e2
  rw [rangeD_len] at hi
  exact ⟨_, by simp [rangeD, hi], .inl ⟨rfl, Dp.int _⟩⟩
theorem itOk_list {K : PySem.W.Frag} {ad : Addr} {vs : List V} {ds : List PyData} {MS MI : Hp} (s : SqL K MS ad vs) (d : DpAll K MI vs ds) : ItOk K ds (Itl K ad) MS MI := by
  have hl := dpA_len d
  refine ⟨fun i H sm hi => ⟨vs, vs[i]'(by omega), sm.seq s, by simp [hl, hi]⟩, fun i H sm hi => ⟨vs, sm.seq s, by omega⟩, fun i H x H' sm hi h => ?_⟩
  obtain ⟨e1, h⟩ := h
  have hx := h vs (sm.seq s)
  obtain ⟨dd, h1, h2⟩ := dpA_get d hx
  exact ⟨dd, h1, .inl ⟨e1, h2⟩⟩
theorem itOk_tup {K : PySem.W.Frag} {ad : Addr} {vs : List V} {ds : List PyData} {MS MI : Hp} (s : SqT K MS ad vs) (d : DpAll K MI vs ds) : ItOk K ds (Itt K ad) MS MI := by
  have hl := dpA_len d
  refine ⟨fun i H sm hi => ⟨vs, vs[i]'(by omega), same_sqT sm s, by simp [hl, hi]⟩, fun i H sm hi => ⟨vs, same_sqT sm s, by omega⟩, fun i H x H' sm hi h => ?_⟩
  obtain ⟨e1, h⟩ := h
  have hx := h vs (same_sqT sm s)
  obtain ⟨dd, h1, h2⟩ := dpA_get d hx
  exact ⟨dd, h1, .inl ⟨e1, h2⟩⟩
def signsD (s : Str) : List PyData := s.cps.toList.map fun c => .str ⟨#[c]⟩
theorem itOk_str {K : PySem.W.Frag} (s : Str) (MS MI : Hp) : ItOk K (signsD s) (Its s) MS MI := by
  have hl : (signsD s).length = s.cps.size := by simp [signsD]
  refine ⟨fun i H _ h => by rw [hl] at h; exact h, fun i H _ h => by rw [hl] at h; exact Nat.le_of_eq h.symm, fun i H x H' _ hi h => ?_⟩
  obtain ⟨e1, c, hc, e2⟩ := h
  subst e1; subst e2
  refine ⟨.str ⟨#[c]⟩, ?_, .inl ⟨rfl, Dp.str _⟩⟩
  have : s.cps.toList[i]? = some c := by rw [Array.getElem?_toList]; exact hc
  simp [signsD, this]
/-- a list, a tuple or a text -/
def iSeq (K : PySem.W.Frag) (tl : TE) : TI := fun σ H R => tl σ H fun x H1 =>
  (∃ ad, x = .ref ad ∧ (∃ xs, SqL K H1 ad xs) ∧ R (Itl K ad) H1) ∨ (∃ ad, x = .ref ad ∧ (∃ xs, SqT K H1 ad xs) ∧ R (Itt K ad) H1) ∨ ∃ s, x = .str s ∧ R (Its s) H1
theorem pi_seq {l : Expr} {tl : TE} (hl : PE X l tl) : PI X tg l (iSeq X.K tl) := by
  constructor
  intro pins s σ H R I h
  refine thn (hl.run pins s σ H _ I h) ?_
  rintro v s1 ⟨x, H1, I1, r1, q1⟩
  rcases q1 with ⟨ad, ex, ⟨xs, hq⟩, q⟩ | ⟨ad, ex, ⟨xs, hq⟩, q⟩ | ⟨z, ex, q⟩
  · subst ex
    cases r1
    obtain ⟨its, _, pl, _⟩ := I1.list hq
    exact wpAny_pyIter_list pl.isList (pi_one (tk := s1.toks) I1 _ (turn_list ad _) ⟨_, Heap.get?_push_size _ rfl, rfl, rfl⟩ q)
  · subst ex
    cases r1
    obtain ⟨its, _, pl, _⟩ := I1.tuple hq
    exact wpAny_pyIter_tuple (show s1.heap.IsTuple ad its.toArray from pl) (pi_one (tk := s1.toks) I1 _ (turn_tuple ad _) ⟨_, Heap.get?_push_size _ rfl, rfl, rfl⟩ q)
  · subst ex
    obtain ⟨tk, rfl⟩ := r1
    cases asc : z.cps.all (· < 128) with
    | false => exact wpAny_pyIter_wide asc (pi_one (tk := s1.toks) I1 _ (turn_str _ z tk "str_iterator" (.inr rfl)) ⟨_, Heap.get?_push_size _ rfl, rfl, rfl⟩ q)
    | true => exact wpAny_pyIter_ascii asc (pi_one (tk := s1.toks) I1 _ (turn_str _ z tk "str_ascii_iterator" (.inl rfl)) ⟨_, Heap.get?_push_size _ rfl, rfl, rfl⟩ q)
def seqV (sv : SV) (R : List PyData → Prop) : Prop := match sv with
  | .d (.list xs) => R xs
  | .d (.tuple xs) => R xs
  | .d (.str s) => R (signsD s)
  | .own xs => R xs
  | _ => False
@[simp] theorem seqV_lst (xs : List PyData) (R : List PyData → Prop) : seqV (.d (.list xs)) R = R xs := rfl
@[simp] theorem seqV_tup (xs : List PyData) (R : List PyData → Prop) : seqV (.d (.tuple xs)) R = R xs := rfl
@[simp] theorem seqV_str (s : Str) (R : List PyData → Prop) : seqV (.d (.str s)) R = R (signsD s) := rfl
@[simp] theorem seqV_own (xs : List PyData) (R : List PyData → Prop) : seqV (.own xs) R = R xs := rfl
/-- o: the walked thing stays even where a slot's list is written -/
theorem seq_it {G : Gd} {L L' : Ls} {δ : DS} {σ : L2.St} {H H' : Hp} {v : V} {sv : SV} {o : Bool} {Rd : List PyData → Prop} {Q : It → Hp → Prop} (ho : o = true → fl.o = true) (rel' : Rel X.K LK G L' δ σ H') (h : seqV sv fun ds => (fl.o = true ∨ nolistA ds = true) ∧ Rd ds)
    (res : Res X.K G fl (hid L H) (fz L' δ σ H') (hid L' H') L' v sv) (q : ∀ items J, Rd items → ItOk X.K items J (if o = true then fz L' δ σ H' else hid L' H') (fz L' δ σ H') → Q J H') :
    (∃ ad, v = .ref ad ∧ (∃ xs, SqL X.K H' ad xs) ∧ Q (Itl X.K ad) H') ∨ (∃ ad, v = .ref ad ∧ (∃ xs, SqT X.K H' ad xs) ∧ Q (Itt X.K ad) H') ∨ ∃ s, v = .str s ∧ Q (Its s) H' := by
  have mo : ∀ {x : PyData}, asD sv = some x → Dp X.K (if o = true then fz L' δ σ H' else hid L' H') v x := fun {x} e => by
    cases o with
    | true => rw [if_pos rfl]; exact dp_mono (pk_o (ho rfl)) _ _ (asD_ok e res.1)
    | false => rw [if_neg Bool.false_ne_true]; exact asD_ok e (res.b (fz_le _ _ _ _))
  have le : Same (if o = true then fz L' δ σ H' else hid L' H') H' := by
    cases o with
    | true => rw [if_pos rfl]; exact (fz_le _ _ _ _).trans (hid_le _ _)
    | false => rw [if_neg Bool.false_ne_true]; exact hid_le _ _
  have inj : ∀ {M M' : Hp} {ad : Addr} {xs ys : List V}, Same M M' → True := fun _ => trivial
  have items : ∀ {vs : List V} {ds : List PyData}, (fl.o = true ∨ nolistA ds = true) → DpAll X.K (if o = true then fz L' δ σ H' else hid L' H') vs ds → (fl.o = true → DpAll X.K (fz L' δ σ H') vs ds) → DpAll X.K (fz L' δ σ H') vs ds := fun {vs ds} on d1 d2 => by
    rcases on with on | on
    · exact d2 on
    · have dN : DpAll X.K (hid L' H') vs ds := by
        cases o with
        | true => rw [if_pos rfl] at d1; exact dpA_mono (fz_le _ _ _ _) _ _ d1
        | false => rw [if_neg Bool.false_ne_true] at d1; exact d1
      exact dpA_mono (nw_le _ _) _ _ (rel'.keepA on dN)
  cases hfo : fl.o with
  | true =>
    -- the value stands where no slot owns
    have dF : ∀ {x : PyData}, asD sv = some x → Dp X.K (fz L' δ σ H') v x := fun {x} e => dp_mono (pk_o hfo) _ _ (asD_ok e res.1)
    have sub : Same (fz L' δ σ H') (if o = true then fz L' δ σ H' else hid L' H') := by
      cases o with
      | true => rw [if_pos rfl]; exact Same.refl _
      | false => rw [if_neg Bool.false_ne_true]; exact fz_le _ _ _ _
    unfold seqV at h
    split at h
    · have d := dF rfl
      cases d with | lst s dd => exact .inl ⟨_, rfl, ⟨_, (sub.trans le).seq s⟩, q _ _ h.2 (itOk_list (sub.seq s) dd)⟩
    · obtain ⟨ad, vs, rfl, s, dd⟩ := dp_tup (dF rfl)
      exact .inr (.inl ⟨_, rfl, ⟨_, same_sqT (sub.trans le) s⟩, q _ _ h.2 (itOk_tup (same_sqT sub s) dd)⟩)
    · have d := dF rfl
      cases d
      exact .inr (.inr ⟨_, rfl, q _ _ h.2 (itOk_str _ _ _)⟩)
    · have d := dF rfl
      cases d with | lst s dd => exact .inl ⟨_, rfl, ⟨_, (sub.trans le).seq s⟩, q _ _ h.2 (itOk_list (sub.seq s) dd)⟩
    · exact h.elim
  | false =>
    have no : ∀ {P : Prop}, (fl.o = true ∨ P) → P := fun z => z.resolve_left (by rw [hfo]; decide)
    unfold seqV at h
    split at h
    · have d := mo rfl
      cases d with | lst s dd => exact .inl ⟨_, rfl, ⟨_, le.seq s⟩, q _ _ h.2 (itOk_list s (items h.1 dd fun z => by rw [hfo] at z; cases z))⟩
    · obtain ⟨ad, vs, rfl, s, dd⟩ := dp_tup (mo rfl)
      exact .inr (.inl ⟨_, rfl, ⟨_, same_sqT le s⟩, q _ _ h.2 (itOk_tup s (items h.1 dd fun z => by rw [hfo] at z; cases z))⟩)
    · have d := mo rfl
      cases d
      exact .inr (.inr ⟨_, rfl, q _ _ h.2 (itOk_str _ _ _)⟩)
    · have d := mo rfl
      cases d with | lst s dd => exact .inl ⟨_, rfl, ⟨_, le.seq s⟩, q _ _ h.2 (itOk_list s (items h.1 dd fun z => by rw [hfo] at z; cases z))⟩
    · exact h.elim
@[simp] def iSeqD (fl : Fl) (ta : TDe) : TDi := fun δ R RX => ta δ (fun sv => seqV sv fun ds => (fl.o = true ∨ nolistA ds = true) ∧ R ds) RX
theorem di_seq (o : Bool) (he : DX X LK W fl e ta) (ho : o = true → fl.o = true := by decide) : DI X LK W o tg e (iSeqD fl ta) :=
  pi_imp (pi_seq he) fun σ H Q ⟨G, L, δ, R, RX, rel, r, q, qx⟩ => ⟨G, L, δ, _, RX, rel, r, fun sv v L' H' hw st rel' res =>
    seq_it (fl := fl) ho rel' hw res fun items J hr ok => q items J L' H' hr st rel' ok, qx⟩
/-- a slot's own list, walked by a comprehension -/
def ownSeq (sv : SV) (R : List PyData → Prop) : Prop := match sv with
  | .own xs => R xs
  | .d (.list xs) => R xs
  | .d (.tuple xs) => R xs
  | .d (.str s) => R (signsD s)
  | _ => False
@[simp] theorem ownSeq_own (xs : List PyData) (R : List PyData → Prop) : ownSeq (.own xs) R = R xs := rfl
@[simp] theorem ownSeq_lst (xs : List PyData) (R : List PyData → Prop) : ownSeq (.d (.list xs)) R = R xs := rfl
@[simp] theorem ownSeq_tup (xs : List PyData) (R : List PyData → Prop) : ownSeq (.d (.tuple xs)) R = R xs := rfl
@[simp] theorem ownSeq_str (s : Str) (R : List PyData → Prop) : ownSeq (.d (.str s)) R = R (signsD s) := rfl
@[simp] def iVarD (i : Nat) : TDi := fun δ R _ => svAt δ i fun sv => ownSeq sv R
theorem di_var (i : Nat) {x : Str} (hN : X.N[i]? = some x := by rfl) (hv : Vis X.env.scope x := by first | exact Or.inl rfl | exact Or.inr (Or.inl rfl) | exact Or.inr (Or.inr rfl)) (hd : (x == ("__debug__" : Str)) = false := by decide) (hcd : (x == ("__classdict__" : Str)) = false := by decide) :
    DI X LK W false tg (.Name x pos) (iVarD i) :=
  pi_imp (pi_seq (pe_var hN hv hd hcd)) fun σ H Q ⟨G, L, δ, R, RX, rel, r, q, qx⟩ => by
    obtain ⟨sv, h1, h⟩ := svAt_out r
    obtain ⟨v, h2, h3⟩ := rel.sl i sv h1
    refine ⟨v, h2, ?_⟩
    have leF : Same (fz L δ σ H) (hid L H) := fz_le _ _ _ _
    unfold ownSeq at h
    split at h
    · obtain ⟨ad, vs, rfl, s, dd⟩ := h3
      exact .inl ⟨ad, rfl, ⟨vs, hid_sqL (SqL.of s)⟩, q _ _ L H h (Step.refl _ _) rel (itOk_list (SqL.of s) (dpA_mono (nw_le _ _) _ _ dd))⟩
    · cases h3 with | lst s dd => exact .inl ⟨_, rfl, ⟨_, hid_sqL (leF.seq s)⟩, q _ _ L H h (Step.refl _ _) rel (itOk_list (leF.seq s) dd)⟩
    · obtain ⟨ad, vs, rfl, s, dd⟩ := dp_tup h3
      exact .inr (.inl ⟨_, rfl, ⟨_, hid_sqT (same_sqT leF s)⟩, q _ _ L H h (Step.refl _ _) rel (itOk_tup (same_sqT leF s) dd)⟩)
    · cases h3
      exact .inr (.inr ⟨_, rfl, q _ _ L H h (Step.refl _ _) rel (itOk_str _ _ _)⟩)
    · exact h.elim
@[simp] def iRng1D (ta : TDe) : TDi := fun δ R RX => ta δ (fun sv => wI sv fun n => n < 2 ^ 62 ∧ -(2 ^ 62) ≤ n ∧ R (rangeD 0 n.toNat)) RX
theorem di_range1 (o : Bool) {p2 : Pos} (hg : Gl X "range") (hm : X.mg "range" = none) (ha : DX X LK W fa a ta) (hs : starEach [a] X.env = [(false, eval a X.env)] := by rfl) (hs' : starEach [a] X.env = (false, eval a X.env) :: starEach [] X.env := by rfl) :
    DI X LK W o tg (.Call (.Name "range" p) [a] [] p2) (iRng1D ta) :=
  pi_imp (pi_range1 hg hm (pa_cons ha pa_nil hs') hs) fun σ H Q ⟨G, L, δ, R, RX, rel, r, q, qx⟩ => ⟨G, L, δ, _, RX, rel, r, fun sv v L' H' hw st rel' res => by
    obtain ⟨n, rfl, rfl, h1, h2, h3⟩ := wI_out hw res.1
    exact ⟨n, rfl, h2, h1, q _ _ L' H' h3 st rel' (itOk_range _ _ _ _)⟩, qx⟩
@[simp] def iRng2D (ta tb : TDe) : TDi := fun δ R RX => ta δ (fun sv => tb δ (fun sw => wI sv fun m => wI sw fun n => (-(2 ^ 62) ≤ m ∧ m < 2 ^ 62 ∧ -(2 ^ 62) ≤ n ∧ n < 2 ^ 62) ∧ R (rangeD m (n - m).toNat)) RX) RX
theorem di_range2 (o : Bool) {p2 : Pos} (hg : Gl X "range") (hm : X.mg "range" = none) (ha : DX X LK W fa a ta) (hb : DX X LK W fb' b tb) (hs : starEach [a, b] X.env = [(false, eval a X.env), (false, eval b X.env)] := by rfl) (hs2 : starEach [b] X.env = [(false, eval b X.env)] := by rfl)
    (hs' : starEach [a, b] X.env = (false, eval a X.env) :: starEach [b] X.env := by rfl) (hs2' : starEach [b] X.env = (false, eval b X.env) :: starEach [] X.env := by rfl) :
    DI X LK W o tg (.Call (.Name "range" p) [a, b] [] p2) (iRng2D ta tb) :=
  pi_imp (pi_range2 hg hm (pa_cons ha (pa_cons hb pa_nil hs2') hs') hs hs2) fun σ H Q ⟨G, L, δ, R, RX, rel, r, q, qx⟩ => ⟨G, L, δ, _, RX, rel, r, fun sv v L1 H1 hx st1 rel1 res1 =>
    ⟨G, L1, δ, _, RX, rel1, hx, fun sw u L2' H2 hw st2 rel2 res2 => by
      obtain ⟨m, rfl, rfl, hw2⟩ := wI_out hw res1.1
      obtain ⟨n, rfl, rfl, h1, h2⟩ := wI_out hw2 res2.1
      exact ⟨m, n, rfl, h1, q _ _ L2' H2 h2 (st1.trans st2) rel2 (itOk_range _ _ _ _)⟩, fun x c d L' H' h st lk ex => qx x c d L' H' h (st1.trans st) lk ex⟩, qx⟩
/-! ### comprehensions -/
def WF : WX := fun _ _ _ _ => False
def wipeD (δ : DS) : List Nat → DS
  | [] => δ
  | v :: vs => (wipeD δ vs).set v none
theorem wipeD_get {δ : DS} {i : Nat} {sv : SV} : ∀ {vs : List Nat}, (wipeD δ vs)[i]? = some (some sv) → δ[i]? = some (some sv) ∧ i ∉ vs
  | [], h => ⟨h, by simp⟩
  | v :: vs, h => by
    unfold wipeD at h
    by_cases hi : v = i
    · subst hi
      rw [List.getElem?_set] at h
      split at h
      · split at h <;> cases h
      · exact absurd rfl ‹¬ v = v›
    · rw [List.getElem?_set_ne hi] at h
      obtain ⟨h1, h2⟩ := wipeD_get h
      exact ⟨h1, by simp only [List.mem_cons, not_or]; exact ⟨fun e => hi e.symm, h2⟩⟩
theorem wipe_keep {σ : L2.St} {i : Nat} : ∀ {vs : List Nat}, i ∉ vs → (wipe σ vs)[i]? = σ[i]?
  | [], _ => rfl
  | v :: vs, h => by
    simp only [List.mem_cons, not_or] at h
    unfold L2.wipe
    rw [List.getElem?_set_ne (fun z => h.1 z.symm)]
    exact wipe_keep h.2
theorem wipeD_len (δ : DS) : ∀ vs : List Nat, (wipeD δ vs).length = δ.length
  | [] => rfl
  | v :: vs => by unfold wipeD; rw [List.length_set, wipeD_len δ vs]
theorem rel_wipe {K : PySem.W.Frag} {G : Gd} {L : Ls} {δ : DS} {σ : L2.St} {H : Hp} (vs : List Nat) (rel : Rel K LK G L δ σ H) : Rel K LK G L (wipeD δ vs) (wipe σ vs) H := by
  have ow : ∀ a, OwnA (wipeD δ vs) (wipe σ vs) a → OwnA δ σ a := fun a ⟨i, sv, h1, h2, h3⟩ => by
    obtain ⟨g1, g2⟩ := wipeD_get h1
    exact ⟨i, sv, g1, h2, by rw [wipe_keep g2] at h3; exact h3⟩
  have sub : Same (fz L δ σ H) (fz L (wipeD δ vs) (wipe σ vs) H) := fun a o h => fz_of (fz_le _ _ _ _ _ _ h) fun z => fz_not h (ow a z)
  refine ⟨rel.gn, rel.g.trans sub, rel.lk, fun i sv h => ?_, fun i j a si sj hij h1 h2 o1 o2 e1 e2 => ?_, by rw [wipeD_len, L2.wipe_length]; exact rel.ln⟩
  · obtain ⟨g1, g2⟩ := wipeD_get h
    obtain ⟨v, h1, h2⟩ := rel.sl i sv g1
    exact ⟨v, by rw [wipe_keep g2]; exact h1, slotOk_mono sub (Same.refl _) (fun _ z => z) h2⟩
  · obtain ⟨g1, k1⟩ := wipeD_get h1
    obtain ⟨g2, k2⟩ := wipeD_get h2
    rw [wipe_keep k1] at e1
    rw [wipe_keep k2] at e2
    exact rel.ow i j a si sj hij g1 g2 o1 o2 e1 e2
/-- what a comprehension may keep: data without lists, a new list of such -/
def itemV (sv : SV) (R : PyData → Prop) : Prop := match sv with
  | .d x => nolist x = true ∧ R x
  | .own xs => nolistA xs = true ∧ R (.list xs)
  | _ => False
@[simp] theorem itemV_d (x : PyData) (R : PyData → Prop) : itemV (.d x) R = (nolist x = true ∧ R x) := rfl
@[simp] theorem itemV_own (x : List PyData) (R : PyData → Prop) : itemV (.own x) R = (nolistA x = true ∧ R (.list x)) := rfl
def lcL (g : TDg) (tt : TDt) (te : TDe) (δ : DS) : List PyData → List PyData → (List PyData → Prop) → Prop
  | [], acc, R => R acc
  | x :: r, acc, R => g x δ fun δ1 => tt δ1 (fun b => if b = true then te δ1 (fun sv => itemV sv fun d => lcL g tt te δ r (acc ++ [d]) R) (fun _ => False) else lcL g tt te δ r acc R) (fun _ => False)
def DTs (X : Cx) (LK : Lk) (W : WX) (es : List Expr) (tt : TDt) : Prop := PTs X es (liftT X.K LK W tt)
theorem pts_imp {es : List Expr} {t t' : TT} (h : PTs X es t) (i : ∀ σ H Q, t' σ H Q → t σ H Q) : PTs X es t' := ⟨fun pins s σ H Q I q => h.run pins s σ H Q I (i σ H Q q)⟩
@[simp] def tYesD : TDt := fun _ R _ => R true
theorem dts_nil : DTs X LK W [] tYesD := pts_imp pts_nil fun σ H Q ⟨G, L, δ, R, RX, rel, r, q, _⟩ => q true L H r (Step.refl _ _) rel
theorem dts_one (h : DT X LK W c tt) : DTs X LK W [c] tt := pts_one h
end
end DL

namespace DL
open PySem PySem.Spec PyProof.Rows L2

section
variable {X : Cx} {LK : Lk} {W : WX} {fl fa fb' : Fl} {e a b c tg iter elt : Expr} {es : List Expr} {pos p : Pos} {ta tb tc te : TDe} {tt tu : TDt} {tas : TDa} {st : Stmt} {rest body : List Stmt} {t u : TDs}
def minus (D : Addr) (F : Hp) : Hp := fun a => if a = D then none else F a
theorem minus_of {D a : Addr} {F : Hp} {o : HO} (h : F a = some o) (n : a ≠ D) : minus D F a = some o := by unfold minus; rw [if_neg n]; exact h
theorem minus_le (D : Addr) (F : Hp) : Same (minus D F) F := fun a o h => by
  unfold minus at h
  split at h
  · cases h
  · exact h
theorem minus_ne {D a : Addr} {F : Hp} {o : HO} (h : minus D F a = some o) : a ≠ D := fun z => by
  unfold minus at h
  rw [if_pos z] at h; cases h
def lcD (ti : TDi) (g : TDg) (tt : TDt) (te : TDe) (vs : List Nat) : TDe := fun δ R RX => ti δ (fun items => items.length ≤ 10000000 ∧ lcL g tt te (wipeD δ vs) items [] (fun acc => R (.own acc))) RX
theorem wipe_in (σ : L2.St) {i : Nat} : ∀ {vs : List Nat}, i ∈ vs → (wipe σ vs)[i]? = if i < σ.length then some none else none
  | [], h => by simp at h
  | j :: vs, h => by
    unfold L2.wipe
    by_cases e : j = i
    · subst e
      rw [List.getElem?_set]
      simp [L2.wipe_length]
    · rw [List.getElem?_set_ne e]
      exact wipe_in σ (by
        rcases List.mem_cons.mp h with z | z
        · exact absurd z.symm e
        · exact z)
theorem wipe_idem (σ : L2.St) (vs : List Nat) : wipe (wipe σ vs) vs = wipe σ vs := by
  refine List.ext_getElem? fun i => ?_
  by_cases h : i ∈ vs
  · rw [wipe_in _ h, wipe_in _ h, L2.wipe_length]
  · rw [wipe_keep h]
/-- a list comprehension of one for -/
theorem tLc_dx {tv : List Nat} {ti : TDi} {g : TDg} {vs : List Nat} (htv : ∀ i ∈ tv, i ∈ vs) {σ : L2.St} {H : Hp} {Q : VK} (h : lift X.K LK W ff (lcD ti g tt te vs) σ H Q) :
    tLc (liftI X.K LK W false ti) (liftG X.K LK tv g) (liftT X.K LK WF tt) (lift X.K LK WF ff te) vs σ H Q := by
  obtain ⟨G, L, δ, R, RX, rel, r, q, qx⟩ := h
  refine ⟨G, L, δ, _, RX, rel, r, fun items J L1 H1 ⟨hlen, hL⟩ st1 rel1 ok D hD => ?_, qx⟩
  rw [if_neg Bool.false_ne_true] at ok
  obtain ⟨og, os, oy⟩ := ok
  have nL1 : L1 D = false := rel1.loose hD
  have nN1 : hid L1 H1 D = none := hid_none hD
  have nOwn : ¬ OwnA δ σ D := fun z => by
    obtain ⟨u, e, _⟩ := rel1.ownN z
    rw [nN1] at e; cases e
  have nG : ∀ {b : Addr}, hid L1 H1 b = none → G.n b = none := fun {b} hb => by
    cases z : G.n b with
    | none => rfl
    | some o =>
      have := fz_le _ _ _ _ _ _ (rel1.gF _ _ z)
      rw [hb] at this; cases this
  refine ⟨fun i m H' => m = items.length - i ∧ i ≤ items.length ∧ ∃ L' accd accv, Step L1 H1 L' H' ∧ LkOk LK L' H' ∧ L' D = false ∧ H' D = some (.lst accv) ∧ accv.length ≤ i ∧ DpAll X.K (nw G (minus D (fz L' δ σ H'))) accv accd ∧
    lcL g tt te (wipeD δ vs) (items.drop i) accd (fun acc => R (.own acc)),
    ⟨items.length, by simp, Nat.zero_le _, L1, [], [], rel1.stepNew hD, (rel1.new hD).lk, nL1, upd_same, Nat.le_refl _, .nil, by simpa using hL⟩, ?_⟩
  rintro i m H' ⟨rfl, hi, L', accd, accv, st, lk, nL, hHD, hal, hacc, hl⟩
  have rel' : Rel X.K LK G L' δ σ H' := rel1.step st lk
  have sm : Same (hid L1 H1) H' := st.1.trans (hid_le _ _)
  have nD : hid L' H' D = some (.lst accv) := hid_of nL hHD rfl
  by_cases hlt : i < items.length
  · refine .inr ⟨og i H' sm hlt, fun H5 => ∃ L5 accd5 accv5, Step L1 H1 L5 H5 ∧ LkOk LK L5 H5 ∧ L5 D = false ∧ H5 D = some (.lst accv5) ∧ accv5.length ≤ i + 1 ∧ DpAll X.K (nw G (minus D (fz L5 δ σ H5))) accv5 accd5 ∧
      lcL g tt te (wipeD δ vs) (items.drop (i + 1)) accd5 (fun acc => R (.own acc)), fun H5 h5 => ⟨_, by omega, rfl, hlt, h5⟩, fun x H2 hy => ?_⟩
    obtain ⟨d, hd, hx⟩ := oy i H' x H2 sm hlt hy
    have ed : items.drop i = d :: items.drop (i + 1) := by
      rw [List.drop_eq_getElem_cons hlt]
      rw [List.getElem?_eq_getElem hlt] at hd
      cases hd; rfl
    rw [ed] at hl
    -- one turn, over the heap with the walked item
    have turn : ∀ {H2 : Hp}, Step L' H' L' H2 → LkOk LK L' H2 → Dp X.K (fz L' δ σ H2) x d → liftG X.K LK tv g x (wipe σ vs) H2 fun σ2 H2' => wipe σ2 vs = wipe σ vs ∧ liftT X.K LK WF tt σ2 H2' fun b H3 =>
        if b = true then lift X.K LK WF ff te σ2 H3 fun y H4 => ∃ acc, H4 D = some (.lst acc) ∧ acc.length < sizeLine ∧ (∃ L5 accd5 accv5, Step L1 H1 L5 (upd H4 D (.lst (acc ++ [y]))) ∧ LkOk LK L5 (upd H4 D (.lst (acc ++ [y]))) ∧ L5 D = false ∧ (upd H4 D (.lst (acc ++ [y]))) D = some (.lst accv5) ∧ accv5.length ≤ i + 1 ∧ DpAll X.K (nw G (minus D (fz L5 δ σ (upd H4 D (.lst (acc ++ [y])))))) accv5 accd5 ∧
          lcL g tt te (wipeD δ vs) (items.drop (i + 1)) accd5 (fun acc => R (.own acc)))
        else (∃ L5 accd5 accv5, Step L1 H1 L5 H3 ∧ LkOk LK L5 H3 ∧ L5 D = false ∧ H3 D = some (.lst accv5) ∧ accv5.length ≤ i + 1 ∧ DpAll X.K (nw G (minus D (fz L5 δ σ H3))) accv5 accd5 ∧
          lcL g tt te (wipeD δ vs) (items.drop (i + 1)) accd5 (fun acc => R (.own acc))) := fun {H2} st2 lk2 dx => by
      have rel2 := rel'.step st2 lk2
      have relw := rel_wipe vs rel2
      have subw : Same (fz L' δ σ H2) (fz L' (wipeD δ vs) (wipe σ vs) H2) := fun b o hb => fz_of (fz_le _ _ _ _ _ _ hb) fun ⟨j, sv, h1, h2, h3⟩ => by
        obtain ⟨g1, g2⟩ := wipeD_get h1
        rw [wipe_keep g2] at h3
        exact fz_not hb ⟨j, sv, g1, h2, h3⟩
      refine ⟨G, L', wipeD δ vs, d, _, relw, dp_mono subw _ _ dx, hl, fun δ1 σ1 h1 oa r1 => ⟨(oa vs htv).trans (wipe_idem σ vs), G, L', δ1, _, _, r1, h1, fun bb L3 H3 hb st3 rel3 => ?_, fun _ _ _ _ _ h => h.elim⟩⟩
      have st13 : Step L1 H1 L3 H3 := st.trans (st2.trans st3)
      have nD3 : hid L3 H3 D = some (.lst accv) := (st2.trans st3).1 _ _ nD
      have l3 : L3 D = false := hid_nl nD3
      have subF : ∀ {L4 : Ls} {H4 : Hp}, Step L' H' L4 H4 → Same (minus D (fz L' δ σ H')) (minus D (fz L4 δ σ H4)) := fun {L4 H4} s4 b o hb => minus_of (fz_step s4 _ _ (minus_le _ _ _ _ hb)) (minus_ne hb)
      cases bb with
      | false =>
        simp only [Bool.false_eq_true, if_false] at hb ⊢
        exact ⟨L3, accd, accv, st13, rel3.lk, l3, hid_le _ _ _ _ nD3, by omega, dpA_mono (nw_mono (subF (st2.trans st3))) _ _ hacc, hb⟩
      | true =>
        simp only [if_true] at hb ⊢
        refine ⟨G, L3, δ1, _, _, rel3, hb, fun sv y L4 H4 hsv st4 rel4 res4 => ?_, fun _ _ _ _ _ h => h.elim⟩
        have nD4 : hid L4 H4 D = some (.lst accv) := st4.1 _ _ nD3
        have l4 : L4 D = false := hid_nl nD4
        refine ⟨accv, hid_le _ _ _ _ nD4, Nat.lt_of_le_of_lt hal (Nat.lt_of_lt_of_le hlt (Nat.le_trans hlen (by decide))), L4, ?_⟩
        have st14 : Step L1 H1 L4 H4 := st13.trans st4
        have st15 : ∀ w : HO, tblB w = false → Step L1 H1 L4 (upd H4 D w) := fun w nt => ⟨fun b o hb => by
          have hne : b ≠ D := fun z => by rw [z, nN1] at hb; cases hb
          rw [hid_upd l4 nt, upd_ne hne]
          exact st14.1 _ _ hb, st14.2⟩
        have lk5 : ∀ w : HO, LkOk LK L4 (upd H4 D w) := fun w => ⟨fun b lb => by
          obtain ⟨o, e1, e2⟩ := rel4.lk.1 b lb
          have hne : b ≠ D := fun z => by rw [z, l4] at lb; cases lb
          exact ⟨o, by rw [upd_ne hne]; exact e1, e2⟩, LK.mono _ _ (fun b o e mb => by
          have hne : b ≠ D := fun z => by rw [z, hid_le _ _ _ _ nD4] at e; cases e; cases mb
          rw [upd_ne hne]; exact e) rel4.lk.2⟩
        have up : ∀ w : HO, tblB w = false → Same (minus D (fz L4 δ σ H4)) (minus D (fz L4 δ σ (upd H4 D w))) := fun w nt b o hb => by
          have hne := minus_ne hb
          have h1 := minus_le _ _ _ _ hb
          refine minus_of (fz_of ?_ (fz_not h1)) hne
          rw [hid_upd l4 nt, upd_ne hne]
          exact fz_le _ _ _ _ _ _ h1
        have r4 : Rel X.K LK G L4 δ σ H4 := rel1.step st14 rel4.lk
        have imm : ∀ b xs, SqT X.K (hid L4 H4) b xs → SqT X.K (nw G (minus D (fz L4 δ σ H4))) b xs := fun b xs s => tup_nw (rd_sqT (fun c u mu e => minus_of (r4.immF mu e) fun z => by
          rw [z, nD4] at e; cases e; cases mu) s)
        have old := dpA_mono (nw_mono (subF (st2.trans (st3.trans st4)))) _ _ hacc
        have fin : ∀ dd : PyData, Dp X.K (nw G (minus D (fz L4 δ σ H4))) y dd → lcL g tt te (wipeD δ vs) (items.drop (i + 1)) (accd ++ [dd]) (fun acc => R (.own acc)) → ∃ accd5 accv5, Step L1 H1 L4 (upd H4 D (.lst (accv ++ [y]))) ∧ LkOk LK L4 (upd H4 D (.lst (accv ++ [y]))) ∧ L4 D = false ∧ (upd H4 D (.lst (accv ++ [y]))) D = some (.lst accv5) ∧ accv5.length ≤ i + 1 ∧
            DpAll X.K (nw G (minus D (fz L4 δ σ (upd H4 D (.lst (accv ++ [y])))))) accv5 accd5 ∧ lcL g tt te (wipeD δ vs) (items.drop (i + 1)) accd5 (fun acc => R (.own acc)) := fun dd h1 h2 =>
          ⟨accd ++ [dd], accv ++ [y], st15 _ rfl, lk5 _, l4, upd_same, by simp; exact hal, dpA_mono (nw_mono (up _ rfl)) _ _ (dpA_app old (.cons h1 .nil)), h2⟩
        cases sv with
        | d dd =>
          obtain ⟨n, hk⟩ := hsv
          exact fin dd (dp_nolist (fun b xs s => imm b xs (same_sqT ((nw_le _ _).trans (fz_le _ _ _ _)) s)) _ _ n res4.1) hk
        | own xs =>
          obtain ⟨n, hk⟩ := hsv
          obtain ⟨⟨ad, ws, ey, e1, e2⟩, fresh⟩ := res4
          have fr := fresh rfl rfl ad ey
          have hne : ad ≠ D := fun z => by rw [z, nD3] at fr; cases fr
          have e1' : hid L4 H4 ad = some (.lst ws) := fz_le _ _ _ _ _ _ (nw_le _ _ _ _ e1)
          have n3 : Rel X.K LK G L3 δ σ H3 := rel1.step st13 rel3.lk
          have no : ¬ OwnA δ σ ad := fun z => by
            obtain ⟨u, e, _⟩ := n3.ownN z
            rw [fr] at e; cases e
          subst ey
          refine fin _ (Dp.lst (SqL.of (nw_new (minus_of (fz_of e1' no) hne) (nG (st13.1.free fr)))) (dpA_nolist (fun b xs s => imm b xs (same_sqT ((nw_le _ _).trans (fz_le _ _ _ _)) s)) _ _ n e2)) hk
        | _ => exact hsv.elim
    rcases hx with ⟨rfl, dx⟩ | ⟨pp, xs, ds, hp, rfl, rfl, rfl, da⟩
    · exact turn (Step.refl _ _) lk (dp_mono (fz_step st) _ _ dx)
    · have np := new_at rel' hp (o := .tup xs)
      exact turn (rel'.stepNew hp) (rel'.new hp).lk (Dp.tup (SqT.of (nw_le _ _ _ _ np)) (dpA_mono ((fz_step st).trans (fz_step (rel'.stepNew hp))) _ _ da))
  · have e : i = items.length := by omega
    subst e
    rw [List.drop_length] at hl
    have fD : nw G (fz L' δ σ H') D = some (.lst accv) := nw_new (fz_of nD nOwn) (nG nN1)
    refine .inl ⟨os _ H' sm rfl, q (.own accd) (.ref D) L' H' hl (st1.trans st) rel' ⟨⟨D, accv, rfl, fD, dpA_mono (nw_mono (minus_le _ _)) _ _ hacc⟩, fun _ _ z ez => ?_⟩⟩
    cases ez
    exact st1.1.free nN1
theorem dx_lc {scope : Scope} {own : List (Str × Nat)} {tv : List Nat} {ti : TDi} {g : TDg} {ifs : List Expr} (hN : X.N.Nodup) (hi : DI X LK W false tg iter ti) (ok : BlkOk X.N X.env.scope scope own)
    (hg : ∀ (s : Shared) (H : Hp) (C : Addr) (cl : List (Str × Addr)) (fp : List Addr), DG (X.blk s H scope (compEnvC scope cl C X.env) fp) LK tv tg g)
    (ht : ∀ (s : Shared) (H : Hp) (C : Addr) (cl : List (Str × Addr)) (fp : List Addr), DTs (X.blk s H scope (compEnvC scope cl C X.env) fp) LK WF ifs tt)
    (he : ∀ (s : Shared) (H : Hp) (C : Addr) (cl : List (Str × Addr)) (fp : List Addr), DX (X.blk s H scope (compEnvC scope cl C X.env) fp) LK WF ff elt te)
    (hc : X.calm = true := by rfl) (htv : ∀ i ∈ tv, i ∈ own.map (·.2) := by decide) (hs : ∀ x, foldedSetIterable iter X.env x = pure x := by intro _; rfl) :
    DX X LK W ff (.ListComp elt [⟨tg, iter, ifs, 0⟩] scope pos) (lcD ti g tt te (own.map (·.2))) :=
  pe_imp (pe_lc (g := liftG X.K LK tv g) (tt := liftT X.K LK WF tt) (te := lift X.K LK WF ff te) hc hN hi ok hg ht he hs) fun _ _ _ h => tLc_dx htv h
/-- name = [..] on one line -/
theorem d_setLc {scope : Scope} {own : List (Str × Nat)} {tv : List Nat} {ti : TDi} {g : TDg} {ifs : List Expr} (i : Nat) {y : Str} {py spos : Pos} (hN : X.N.Nodup) (hi : DI X LK W false tg iter ti) (ok : BlkOk X.N X.env.scope scope own)
    (hg : ∀ (s : Shared) (H : Hp) (C : Addr) (cl : List (Str × Addr)) (fp : List Addr), DG (X.blk s H scope (compEnvC scope cl C X.env) fp) LK tv tg g)
    (ht : ∀ (s : Shared) (H : Hp) (C : Addr) (cl : List (Str × Addr)) (fp : List Addr), DTs (X.blk s H scope (compEnvC scope cl C X.env) fp) LK WF ifs tt)
    (he : ∀ (s : Shared) (H : Hp) (C : Addr) (cl : List (Str × Addr)) (fp : List Addr), DX (X.blk s H scope (compEnvC scope cl C X.env) fp) LK WF ff elt te)
    (hsw : swapsWith (.ListComp elt [⟨tg, iter, ifs, 0⟩] scope pos) (some (.Name y py)) spos.line X.env = pure true) (hy : X.N[i]? = some y := by rfl) (hyl : X.env.scope.names.lookup y = some .local := by rfl)
    (hc : X.calm = true := by rfl) (htv : ∀ i ∈ tv, i ∈ own.map (·.2) := by decide) (hs : ∀ x, foldedSetIterable iter X.env x = pure x := by intro _; rfl) :
    D1 X LK W (.Assign [.Name y py] (.ListComp elt [⟨tg, iter, ifs, 0⟩] scope pos) spos) (sSet ff i (lcD ti g tt te (own.map (·.2)))) :=
  ps_imp (ps_setLc (g := liftG X.K LK tv g) (tt := liftT X.K LK WF tt) (te := lift X.K LK WF ff te) hc hN hy hyl hsw hi ok hg ht he hs) fun D σ H ⟨G, L, δ, E, rel, r, q⟩ => tLc_dx htv ⟨G, L, δ, _, _, rel, r, fun sv v L' H' h st rel' res =>
    put_res rel st rel' h res fun sv' hk rel2 => q.nx _ L' _ H' hk st.2 rel2, fun x c d L' H' h st lk ex => xc_of q rel x c d h st lk ex⟩
end
end DL

namespace DL
open PySem PySem.Spec PyProof.Rows L2
/-! ### the pieces of a def in short words -/
@[simp] def tB2 (op : SV → SV → (SV → Prop) → Prop) (ta tb : TDe) : TDt := fun δ R RX => ta δ (fun x => tb δ (fun y => op x y fun sv => wB sv R) RX) RX
@[simp] def tIsN (ta : TDe) : TDt := fun δ R RX => ta δ (fun x => R (isNoneV x)) RX
@[simp] def tNotN (ta : TDe) : TDt := fun δ R RX => ta δ (fun x => R (!isNoneV x)) RX
section
variable {X : Cx} {LK : Lk} {W : WX} {pos : Pos} {fa fb' : Fl} {a b : Expr} {ta tb : TDe}
theorem dt_cmp {op : CmpOp} {r : R2} {ops : SV → SV → (SV → Prop) → Prop} (ho : OpR X (compareOp op) r) (ad : Adeq X LK r ops) (ha : DX X LK W fa a ta) (hb : DX X LK W fb' b tb) (hm : behindInMarks op b = false) : DT X LK W (.Compare a [op] [b] pos) (tB2 ops ta tb) :=
  pt_imp (pt_cmpR ho ha hb hm) fun _ _ _ h => tTest_dx (ta := eB ops ta tb) (fun _ _ _ h => tOp_dx ad h) h
theorem dt_lt (ha : DX X LK W fa a ta) (hb : DX X LK W fb' b tb) : DT X LK W (.Compare a [.Lt] [b] pos) (tB2 (opD (cmpI fun i j => decide (i < j))) ta tb) := dt_cmp op_lt (adeq_int0 fun _ _ _ => Dp.bl _) ha hb (nomark _)
theorem dt_le (ha : DX X LK W fa a ta) (hb : DX X LK W fb' b tb) : DT X LK W (.Compare a [.LtE] [b] pos) (tB2 (opD (cmpI fun i j => decide (i ≤ j))) ta tb) := dt_cmp op_le (adeq_int0 fun _ _ _ => Dp.bl _) ha hb (nomark _)
theorem dt_gt (ha : DX X LK W fa a ta) (hb : DX X LK W fb' b tb) : DT X LK W (.Compare a [.Gt] [b] pos) (tB2 (opD (cmpI fun i j => decide (j < i))) ta tb) := dt_cmp op_gt (adeq_int0 fun _ _ _ => Dp.bl _) ha hb (nomark _)
theorem dt_ge (ha : DX X LK W fa a ta) (hb : DX X LK W fb' b tb) : DT X LK W (.Compare a [.GtE] [b] pos) (tB2 (opD (cmpI fun i j => decide (j ≤ i))) ta tb) := dt_cmp op_ge (adeq_int0 fun _ _ _ => Dp.bl _) ha hb (nomark _)
theorem dt_eq (hu : X.A.units + 64 < cLine) (ha : DX X LK W fa a ta) (hb : DX X LK W fb' b tb) : DT X LK W (.Compare a [.Eq] [b] pos) (tB2 (opD eqD) ta tb) := dt_cmp (op_eq.or (op_eqD hu)) adeq_eq ha hb (nomark _)
theorem dt_ne (hu : X.A.units + 64 < cLine) (ha : DX X LK W fa a ta) (hb : DX X LK W fb' b tb) : DT X LK W (.Compare a [.NotEq] [b] pos) (tB2 (opD neD) ta tb) := dt_cmp (op_ne.or (op_neD hu)) adeq_ne ha hb (nomark _)
theorem dt_in (hu : X.A.units + 65 < cLine) (ha : DX X LK W fa a ta) (hb : DX X LK W fb' b tb) (hm : behindInMarks .In b = false := by with_unfolding_all rfl) : DT X LK W (.Compare a [.In] [b] pos) (tB2 (opD (inD false)) ta tb) :=
  dt_cmp (op_in_sign.or (op_in_seq.or (op_inD hu))) (adeq_in false _ _ (fun c z H Q h => ⟨c, z, rfl, rfl, h⟩) (fun x y d ds H Q h1 h2 s1 s2 h => ⟨d, ds, h1, h2, s1, s2, h⟩)) ha hb hm
theorem dt_notIn (hu : X.A.units + 65 < cLine) (ha : DX X LK W fa a ta) (hb : DX X LK W fb' b tb) (hm : behindInMarks .NotIn b = false := by with_unfolding_all rfl) : DT X LK W (.Compare a [.NotIn] [b] pos) (tB2 (opD (inD true)) ta tb) :=
  dt_cmp (op_notIn_sign.or (op_notIn_seq.or (op_notInD hu))) (adeq_in true _ _ (fun c z H Q h => ⟨c, z, rfl, rfl, h⟩) (fun x y d ds H Q h1 h2 s1 s2 h => ⟨d, ds, h1, h2, s1, s2, h⟩)) ha hb hm
theorem adeq_isB (neg : Bool) {r : R2} (hr : ∀ (i j : Bool) H (Q : VK), Q (.bl (if neg then !decide (i = j) else decide (i = j))) H → r (.bl i) (.bl j) H Q) : Adeq X LK r (opD (isBoolD neg)) := fun G L δ σ H x y sx sy R Q rel hx hy h q => by
  obtain ⟨dx, ex, k⟩ := wD_out h
  clear h
  obtain ⟨dy, ey, h⟩ := wD_out k
  clear k
  have h1 := asD_ok ex hx
  have h2 := asD_ok ey hy
  cases h1 <;> cases h2 <;> first | exact h.elim | skip
  exact hr _ _ H Q (q _ _ H h (Step.refl _ _) rel (res_sc fun _ => Dp.bl _))
theorem dt_isBool (ha : DX X LK W fa a ta) (hb : DX X LK W fb' b tb) : DT X LK W (.Compare a [.Is] [b] pos) (tB2 (opD (isBoolD false)) ta tb) := dt_cmp op_isBl (adeq_isB false fun i j H Q h => ⟨i, j, rfl, rfl, h⟩) ha hb (nomark _)
theorem dt_notBool (ha : DX X LK W fa a ta) (hb : DX X LK W fb' b tb) : DT X LK W (.Compare a [.IsNot] [b] pos) (tB2 (opD (isBoolD true)) ta tb) := dt_cmp op_notBl (adeq_isB true fun i j H Q h => ⟨i, j, rfl, rfl, h⟩) ha hb (nomark _)
theorem dt_isNone {j p2} (ha : DX X LK W fa a ta) : DT X LK W (.Compare a [.Is] [.Constant .none j p2] pos) (tIsN ta) :=
  pt_imp (pt_cmpR op_isN ha pe_non (nomark _)) fun σ H Q ⟨G, L, δ, R, RX, rel, r, q, qx⟩ =>
    ⟨G, L, δ, _, RX, rel, r, fun sv v L' H' h st rel' res => ⟨rfl, _, rfl, by rw [isNone_of res.1]; exact q _ L' H' h st rel'⟩, qx⟩
theorem dt_notNone {j p2} (ha : DX X LK W fa a ta) : DT X LK W (.Compare a [.IsNot] [.Constant .none j p2] pos) (tNotN ta) :=
  pt_imp (pt_cmpR op_notN ha pe_non (nomark _)) fun σ H Q ⟨G, L, δ, R, RX, rel, r, q, qx⟩ =>
    ⟨G, L, δ, _, RX, rel, r, fun sv v L' H' h st rel' res => ⟨rfl, _, rfl, by rw [isNone_of res.1]; exact q _ L' H' h st rel'⟩, qx⟩
theorem dx_glob_int {x : Str} {i : Int} {tk : Tok} (hg : Gl X x) (hm : X.mg x = some (.int i tk)) (hd : (x == ("__debug__" : Str)) = false := by decide) : DX X LK W ff (.Name x pos) (eC (.int i)) := dx_glob (v := .int i) hg hm ⟨_, rfl⟩ (fun _ => Dp.int _) hd
theorem dx_glob_str {x i : Str} {tk : Tok} (hg : Gl X x) (hm : X.mg x = some (.str i tk)) (hd : (x == ("__debug__" : Str)) = false := by decide) : DX X LK W ff (.Name x pos) (eC (.str i)) := dx_glob (v := .str i) hg hm ⟨_, rfl⟩ (fun _ => Dp.str _) hd
end
theorem Room.u65 {k : Nat} {A : Around} (r : Room k A) : A.units + 65 < cLine := by have := r.un; omega
/-- the pieces of a def keep its contract -/
def AdOk (C : Ctr) (ts : TDs) (N : List Str) (n : Nat) : Prop := ∀ (args : List SV) (R : SV → Prop) (RX : Exn → Prop), args.length = n → C args R RX → ts (startD N args) { nx := fun _ => R (.d .none), rt := fun _ => R, xc := fun _ => RX }
/-- a def of the text that keeps its contract, by name -/
def Has (P : Program) (w : World) (K : PySem.W.Frag) (mg : Str → Option Value) (base : Heap) (LK : Lk) (x : Str) (k : Nat) (ps : List Str) (C : Ctr) : Prop :=
  ∃ fd : FuncData, FnOk P w K mg base (L2.CX P w) k (He.ga K x) fd ps (spD K LK ps.length C) ∧ Binds K fd ps [] ∧ mg x = some (.ref (He.ga K x)) ∧ PySem.W.keepIn K (.ref (He.ga K x)) = true
end DL

namespace DL
open PySem PySem.Spec PyProof.Rows L2

/-! ### a slot's own thing is written -/
theorem fz_mut {L : Ls} {δ : DS} {σ : L2.St} {H : Hp} {i : Nat} {s0 s1 : SV} {a : Addr} {w : HO} (h0 : δ[i]? = some (some s0)) (o0 : isOwn s0 = true) (o1 : isOwn s1 = true) (hσ : σ[i]? = some (some (.ref a))) (l : L a = false) (nt : tblB w = false) :
    fz L (δ.set i (some s1)) σ (upd H a w) = fz L δ σ H := by
  have ow : ∀ b, OwnA (δ.set i (some s1)) σ b ↔ OwnA δ σ b := fun b => by
    have hi : i < δ.length := (List.getElem?_eq_some_iff.mp h0).1
    constructor
    · rintro ⟨j, s, h1, h2, h3⟩
      by_cases hj : j = i
      · subst hj; exact ⟨j, s0, h0, o0, h3⟩
      · rw [List.getElem?_set_ne (Ne.symm hj)] at h1; exact ⟨j, s, h1, h2, h3⟩
    · rintro ⟨j, s, h1, h2, h3⟩
      by_cases hj : j = i
      · subst hj; exact ⟨j, s1, List.getElem?_set_self hi, o1, h3⟩
      · exact ⟨j, s, by rw [List.getElem?_set_ne (Ne.symm hj)]; exact h1, h2, h3⟩
  funext b
  by_cases hb : OwnA δ σ b
  · rw [fz_own hb, fz_own ((ow b).mpr hb)]
  · have hne : b ≠ a := fun z => hb ⟨i, s0, h0, o0, by rw [z]; exact hσ⟩
    have e : hid L (upd H a w) b = hid L H b := by rw [hid_upd l nt, upd_ne hne]
    unfold fz
    rw [if_neg hb, if_neg (fun z => hb ((ow b).mp z)), e]
section
variable {K : PySem.W.Frag} {LK : Lk} {G : Gd} {L : Ls} {δ : DS} {σ : L2.St} {H : Hp}
theorem rel_mut {i : Nat} {s0 s1 : SV} {a : Addr} {w w0 : HO} (rel : Rel K LK G L δ σ H) (h0 : δ[i]? = some (some s0)) (o0 : isOwn s0 = true) (o1 : isOwn s1 = true) (hσ : σ[i]? = some (some (.ref a))) (hw : hid L H a = some w0) (m0 : mutB w0 = true) (nt : tblB w = false)
    (ok : SlotOk K G (fz L δ σ H) (hid L (upd H a w)) L (.ref a) s1) : Rel K LK G L (δ.set i (some s1)) σ (upd H a w) := by
  have l := hid_nl hw
  have ef := fz_mut (H := H) (w := w) h0 o0 o1 hσ l nt
  have hi : i < δ.length := (List.getElem?_eq_some_iff.mp h0).1
  refine ⟨rel.gn, by rw [ef]; exact rel.g, ⟨fun b lb => ?_, LK.mono _ _ (fun b o e mb => ?_) rel.lk.2⟩, fun j s h => ?_, fun j k b sj sk hjk h1 h2 p1 p2 e1 e2 => ?_, by simpa using rel.ln⟩
  · obtain ⟨o, e1, e2⟩ := rel.lk.1 b lb
    exact ⟨o, by rw [upd_ne (fun z => by rw [z, l] at lb; cases lb)]; exact e1, e2⟩
  · have hne : b ≠ a := fun z => by
      have := hid_le _ _ _ _ hw
      rw [← z, e] at this; cases this; rw [m0] at mb; cases mb
    rw [upd_ne hne]; exact e
  · rw [ef]
    by_cases hj : j = i
    · subst hj
      rw [List.getElem?_set_self hi] at h
      cases h
      exact ⟨_, hσ, ok⟩
    · rw [List.getElem?_set_ne (Ne.symm hj)] at h
      obtain ⟨v, h1, h2⟩ := rel.sl j s h
      refine ⟨v, h1, ?_⟩
      have other : ∀ {b : Addr}, isOwn s = true → v = .ref b → b ≠ a := fun {b} os ev z => by
        subst ev; subst z
        exact rel.ow j i b s s0 hj h h0 os o0 h1 hσ
      have keepN : ∀ {b : Addr} {o : HO}, b ≠ a → hid L H b = some o → hid L (upd H a w) b = some o := fun {b o} hne e => by rw [hid_upd l nt, upd_ne hne]; exact e
      cases s with
      | own _ => obtain ⟨b, vs, ev, e1, e2⟩ := h2; exact ⟨b, vs, ev, keepN (other rfl ev) e1, e2⟩
      | oK _ => obtain ⟨b, vs, ev, e1, e2⟩ := h2; exact ⟨b, vs, ev, keepN (other rfl ev) e1, e2⟩
      | oT _ => obtain ⟨b, vs, ev, e1, e2⟩ := h2; exact ⟨b, vs, ev, keepN (other rfl ev) e1, e2⟩
      | tk _ _ => obtain ⟨vs, ev, e1, e2⟩ := h2; exact ⟨vs, ev, keepN (other rfl ev) e1, e2⟩
      | d _ => exact h2
      | rK _ => exact h2
      | rT _ => exact h2
      | tok => exact h2
      | fn _ _ => exact h2
      | xn _ _ _ _ => exact h2
  · have pick : ∀ {n : Nat} {sn : SV}, (δ.set i (some s1))[n]? = some (some sn) → isOwn sn = true → ∃ sn', δ[n]? = some (some sn') ∧ isOwn sn' = true := fun {n sn} h o => by
      by_cases hn : n = i
      · subst hn; exact ⟨s0, h0, o0⟩
      · rw [List.getElem?_set_ne (Ne.symm hn)] at h; exact ⟨sn, h, o⟩
    obtain ⟨a1, b1, c1⟩ := pick h1 p1
    obtain ⟨a2, b2, c2⟩ := pick h2 p2
    exact rel.ow j k b a1 a2 hjk b1 b2 c1 c2 e1 e2
end
section
variable {X : Cx} {LK : Lk} {W : WX} {fl fa fb' : Fl} {e a b c : Expr} {es : List Expr} {pos p : Pos} {ta tb tc : TDe} {tt tu : TDt} {tas : TDa} {st : Stmt} {rest body : List Stmt} {t u : TDs}
/-! ### x op= e -/
@[simp] def sAug (op : SV → SV → (SV → Prop) → Prop) (i : Nat) (ta : TDe) : TDs := fun δ E => svAt δ i fun sx => ta δ (fun sy => op sx sy fun sz => storeV ff sz fun sv' => E.nx (δ.set i (some sv'))) (E.xc δ)
theorem d_aug {op : Operator} {r : R2} {ops : SV → SV → (SV → Prop) → Prop} (i : Nat) {x : Str} {pos' : Pos} (hN : X.N.Nodup) (ho : OpR X (inplaceOp op) r) (ad : Adeq X LK r ops) (he : DX X LK W fl e ta) (hi : X.N[i]? = some x := by rfl) (hx : Loc X.env.scope x := by first | exact Or.inl rfl | exact Or.inr rfl)
    (hf : X.fn x = true ∨ X.env.scope.names.lookup x = some .local := by first | exact .inl rfl | exact .inr rfl) : D1 X LK W (.AugAssign (.Name x pos') op e pos) (sAug ops i ta) :=
  ps_imp (ps_aug (ti := r) hN hi hx he (fun pins s σ H x y v u Q I rx ry h => ho pins s σ H x y v u Q I rx ry h) hf) fun D σ H ⟨G, L, δ, E, rel, r, q⟩ => by
    obtain ⟨sx, h1, r⟩ := svAt_out r
    obtain ⟨vx, h2, h3⟩ := rel.sl i sx h1
    refine ⟨vx, h2, G, L, δ, _, _, rel, r, fun sy y L1 H1 hy st1 rel1 res1 => ?_, fun x c d L' H' h st lk ex => xc_of q rel x c d h st lk ex⟩
    have hx1 : SvOk X.K (hid L1 H1) L1 vx sx := by
      obtain ⟨v', h4, h5⟩ := rel1.sl i sx h1
      rw [h2] at h4; cases h4
      exact slot_b (fz_le _ _ _ _) h5
    exact ad G L1 δ σ H1 vx y sx sy _ _ rel1 hx1 (res1.b (fz_le _ _ _ _)) hy fun sz z H2 hz st2 rel2 res2 =>
      put_res rel1 st2 rel2 hz res2 fun sv' hk rel3 => q.nx _ L1 _ H2 hk st1.2 rel3
theorem d_augAdd (i : Nat) {x : Str} {pos' : Pos} (hN : X.N.Nodup) (he : DX X LK W fl e ta) (hi : X.N[i]? = some x := by rfl) (hx : Loc X.env.scope x := by first | exact Or.inl rfl | exact Or.inr rfl)
    (hf : X.fn x = true ∨ X.env.scope.names.lookup x = some .local := by first | exact .inl rfl | exact .inr rfl) : D1 X LK W (.AugAssign (.Name x pos') .Add e pos) (sAug (fun a b R => match a, b with | .d (.int i), .d (.int j) => R (.d (.int (i + j))) | _, _ => False) i ta) :=
  d_aug i hN iop_add ((adeq_int0 (g := fun i j => .int (i + j)) (gd := fun i j => .int (i + j)) (fun _ _ _ => Dp.int _)).imp fun a b R h => by
    split at h
    · exact h
    · exact h.elim) he hi hx hf
theorem d_augSub (i : Nat) {x : Str} {pos' : Pos} (hN : X.N.Nodup) (he : DX X LK W fl e ta) (hi : X.N[i]? = some x := by rfl) (hx : Loc X.env.scope x := by first | exact Or.inl rfl | exact Or.inr rfl)
    (hf : X.fn x = true ∨ X.env.scope.names.lookup x = some .local := by first | exact .inl rfl | exact .inr rfl) : D1 X LK W (.AugAssign (.Name x pos') .Sub e pos) (sAug (fun a b R => match a, b with | .d (.int i), .d (.int j) => R (.d (.int (i - j))) | _, _ => False) i ta) :=
  d_aug i hN iop_sub ((adeq_int0 (g := fun i j => .int (i - j)) (gd := fun i j => .int (i - j)) (fun _ _ _ => Dp.int _)).imp fun a b R h => by
    split at h
    · exact h
    · exact h.elim) he hi hx hf
/-! ### x.append(e), x[k] = e -/
def itemN (sv : SV) (R : PyData → Prop) : Prop := match sv with
  | .d x => R x
  | .own xs => R (.list xs)
  | _ => False
@[simp] theorem itemN_d (x : PyData) (R : PyData → Prop) : itemN (.d x) R = R x := rfl
@[simp] theorem itemN_own (x : List PyData) (R : PyData → Prop) : itemN (.own x) R = R (.list x) := rfl
theorem itemN_out {K : PySem.W.Frag} {M : Hp} {L : Ls} {v : V} {sv : SV} {R : PyData → Prop} (h : itemN sv R) (o : SvOk K M L v sv) : ∃ d, Dp K M v d ∧ R d := by
  unfold itemN at h
  split at h
  · exact ⟨_, o, h⟩
  · obtain ⟨a, vs, rfl, e1, e2⟩ := o
    exact ⟨_, Dp.lst (SqL.of e1) e2, h⟩
  · exact h.elim
@[simp] def sApp (i : Nat) (ta : TDe) : TDs := fun δ E => svAt δ i fun s0 => match s0 with
  | .own xs => ta δ (fun sv => itemN sv fun d => xs.length < sizeLine ∧ E.nx (δ.set i (some (.own (xs ++ [d]))))) (E.xc δ)
  | _ => False
theorem d_app (i : Nat) {x : Str} {p1 p2 p3 p4 : Pos} (he : DX X LK W ff e ta) (hN : X.N[i]? = some x := by rfl) (hv : Vis X.env.scope x := by first | exact Or.inl rfl | exact Or.inr (Or.inl rfl) | exact Or.inr (Or.inr rfl)) (hd : (x == ("__debug__" : Str)) = false := by decide) (hcd : (x == ("__classdict__" : Str)) = false := by decide)
    (hbase : attributeBase (.Name x p1) "append" X.env (eval (.Name x p1) X.env) = eval (.Name x p1) X.env := by rfl)
    (hfew : ((backTo p3 (starEach [e] X.env)).all (fun x => !x.1) && (backToKw p3 (keywordEach [] X.env)).all (fun x => x.1.isSome) && decide ([e].length + ([] : List Keyword).length + (if ([] : List Keyword).isEmpty then 0 else 1) < 30)) = true := by rfl)
    (hline : (p2.endLine == p3.line) = true := by rfl) (hs : starEach [e] X.env = (false, eval e X.env) :: starEach [] X.env := by rfl) (hplain : (backTo p3 (starEach [] X.env)).any (·.1) = false := by rfl) (hsw : swapsWith (.Call (.Attribute (.Name x p1) "append" p2) [e] [] p3) none p4.line X.env = pure false := by rfl) :
    D1 X LK W (.Expr (.Call (.Attribute (.Name x p1) "append" p2) [e] [] p3) p4) (sApp i ta) :=
  ps_imp (ps_expr (pe_bm PySem.F.plainAttrs_list PySem.F.slot_list_append PySem.F.type_list_append mt_append (pe_var hN hv hd hcd) (pa_cons he pa_nil hs) hbase hfew hline hs hplain) hsw) fun D σ H ⟨G, L, δ, E, rel, r, q⟩ => by
    obtain ⟨s0, h0, r⟩ := svAt_out r
    cases s0 <;> first | exact r.elim | skip
    rename_i xs
    obtain ⟨v, hσ, ad, vs, ev, e1, e2⟩ := rel.sl i _ h0
    subst ev
    refine ⟨_, hσ, .inl ⟨rfl, vs, hid_sqL (SqL.of e1)⟩, G, L, δ, _, _, rel, r, fun sv y L1 H1 hw st1 rel1 res1 => ?_, fun x c d L' H' h st lk ex => xc_of q rel x c d h st lk ex⟩
    obtain ⟨d, hd, hlen, hk⟩ := itemN_out hw res1.1
    obtain ⟨v', hσ', ad', vs', ev', e1', e2'⟩ := rel1.sl i _ h0
    rw [hσ] at hσ'; cases hσ'; cases ev'
    have hl := dpA_len e2'
    have nN := hid_le _ _ _ _ e1'
    refine ⟨ad, vs', y, rfl, rfl, nN, by rw [hl]; exact hlen, q.nx _ L1 σ _ hk st1.2 (rel_mut rel1 h0 rfl rfl hσ e1' rfl rfl ⟨ad, _, rfl, ?_, dpA_app e2' (.cons hd .nil)⟩)⟩
    rw [hid_upd (hid_nl e1')]; exact upd_same
def extV (sv : SV) (R : List PyData → Prop) : Prop := match sv with
  | .own ys => R ys
  | _ => False
@[simp] theorem extV_own (ys : List PyData) (R : List PyData → Prop) : extV (.own ys) R = R ys := rfl
theorem extV_out {sv : SV} {R : List PyData → Prop} (h : extV sv R) : ∃ ys, sv = .own ys ∧ R ys := by
  cases sv <;> first | exact ⟨_, rfl, h⟩ | exact h.elim
@[simp] def sExt (i : Nat) (ta : TDe) : TDs := fun δ E => svAt δ i fun s0 => match s0 with
  | .own xs => ta δ (fun sv => extV sv fun ys => xs.length + ys.length ≤ sizeLine ∧ E.nx (δ.set i (some (.own (xs ++ ys))))) (E.xc δ)
  | _ => False
theorem d_ext (i : Nat) {x : Str} {p1 p2 p3 p4 : Pos} (he : DX X LK W ff e ta) (hN : X.N[i]? = some x := by rfl) (hv : Vis X.env.scope x := by first | exact Or.inl rfl | exact Or.inr (Or.inl rfl) | exact Or.inr (Or.inr rfl)) (hd : (x == ("__debug__" : Str)) = false := by decide) (hcd : (x == ("__classdict__" : Str)) = false := by decide)
    (hbase : attributeBase (.Name x p1) "extend" X.env (eval (.Name x p1) X.env) = eval (.Name x p1) X.env := by rfl)
    (hfew : ((backTo p3 (starEach [e] X.env)).all (fun x => !x.1) && (backToKw p3 (keywordEach [] X.env)).all (fun x => x.1.isSome) && decide ([e].length + ([] : List Keyword).length + (if ([] : List Keyword).isEmpty then 0 else 1) < 30)) = true := by rfl)
    (hline : (p2.endLine == p3.line) = true := by rfl) (hs : starEach [e] X.env = (false, eval e X.env) :: starEach [] X.env := by rfl) (hplain : (backTo p3 (starEach [] X.env)).any (·.1) = false := by rfl) (hsw : swapsWith (.Call (.Attribute (.Name x p1) "extend" p2) [e] [] p3) none p4.line X.env = pure false := by rfl) :
    D1 X LK W (.Expr (.Call (.Attribute (.Name x p1) "extend" p2) [e] [] p3) p4) (sExt i ta) :=
  ps_imp (ps_expr (pe_bm PySem.F.plainAttrs_list PySem.F.slot_list_extend PySem.F.type_list_extend mt_extend (pe_var hN hv hd hcd) (pa_cons he pa_nil hs) hbase hfew hline hs hplain) hsw) fun D σ H ⟨G, L, δ, E, rel, r, q⟩ => by
    obtain ⟨s0, h0, r⟩ := svAt_out r
    cases s0 <;> first | exact r.elim | skip
    rename_i xs
    obtain ⟨v, hσ, ad, vs, ev, e1, e2⟩ := rel.sl i _ h0
    subst ev
    refine ⟨_, hσ, .inl ⟨rfl, vs, hid_sqL (SqL.of e1)⟩, G, L, δ, _, _, rel, r, fun sv y L1 H1 hw st1 rel1 res1 => ?_, fun x c d L' H' h st lk ex => xc_of q rel x c d h st lk ex⟩
    obtain ⟨ys, rfl, hlen, hk⟩ := extV_out hw
    obtain ⟨b, us, rfl, eb, db⟩ := res1.1
    obtain ⟨v', hσ', ad', vs', ev', e1', e2'⟩ := rel1.sl i _ h0
    rw [hσ] at hσ'; cases hσ'; cases ev'
    have hl := dpA_len e2'
    have hl2 := dpA_len db
    have nN := hid_le _ _ _ _ e1'
    have nB := hid_le _ _ _ _ (fz_le _ _ _ _ _ _ (nw_le _ _ _ _ eb))
    refine ⟨ad, b, vs', us, rfl, rfl, nN, nB, by omega, q.nx _ L1 σ _ hk st1.2 (rel_mut rel1 h0 rfl rfl hσ e1' rfl rfl ⟨ad, _, rfl, ?_, dpA_app e2' db⟩)⟩
    rw [hid_upd (hid_nl e1')]; exact upd_same
/-- a list that stands in a slot, written: what the slot holds then -/
def setAt (s0 : SV) (k : Int) (d : PyData) (R : SV → Prop) : Prop := match s0 with
  | .own xs => (match ixN xs.length k with | some j => R (.own (xs.set j d)) | none => False)
  | .tk b xs => (match ixN xs.length k with | some j => R (.tk b (xs.set j d)) | none => False)
  | _ => False
@[simp] def sPutI (i : Nat) (ta tk : TDe) : TDs := fun δ E => ta δ (fun sv => svAt δ i fun s0 => isOwn s0 = true ∧ tk δ (fun sk => itemN sv fun d => wI sk fun k => setAt s0 k d fun s1 => E.nx (δ.set i (some s1))) (E.xc δ)) (E.xc δ)
theorem d_putI (i : Nat) {x : Str} {ix : Expr} {tk : TDe} {p1 p2 : Pos} (he : DX X LK W ff e ta) (hk : DX X LK W fa ix tk) (hN : X.N[i]? = some x := by rfl) (hv : Vis X.env.scope x := by first | exact Or.inl rfl | exact Or.inr (Or.inl rfl) | exact Or.inr (Or.inr rfl)) (hd : (x == ("__debug__" : Str)) = false := by decide) (hcd : (x == ("__classdict__" : Str)) = false := by decide)
    (hs : swapsWithSole [.Subscript (.Name x p1) ix p2] e pos.line X.env = pure false := by rfl) (hw : swappedStores [.Subscript (.Name x p1) ix p2] e X.env = pure none := by rfl) (h1 : (assignEach [.Subscript (.Name x p1) ix p2] X.env).map (·.2) = [assign (.Subscript (.Name x p1) ix p2) X.env] := by rfl)
    (hass : ∀ v, assign (.Subscript (.Name x p1) ix p2) X.env v = (do
      let ov ← holding [v] (eval (.Name x p1) X.env)
      let iv ← holding [v, ov] (eval ix X.env)
      standAt p2
      holding [v, ov, iv] (setItem ov iv v)
      release [v, ov, iv] []) := by intro _; rfl) :
    D1 X LK W (.Assign [.Subscript (.Name x p1) ix p2] e pos) (sPutI i ta tk) :=
  ps_imp (ps_asg he (pg_sub (pe_var hN hv hd hcd) hk set_list hass) hs hw h1) fun D σ H ⟨G, L, δ, E, rel, r, q⟩ => ⟨G, L, δ, _, _, rel, r, fun sv y L1 H1 hw st1 rel1 res1 => by
    obtain ⟨s0, h0, os, r⟩ := svAt_out hw
    obtain ⟨v, hσ, so⟩ := rel1.sl i _ h0
    refine ⟨v, hσ, G, L1, δ, _, _, rel1, r, fun sk kv L2' H2 hw st2 rel2 res2 => ?_, fun x c d L' H' h st lk ex => xc_of (q.mono st1.2) rel1 x c d h st lk ex⟩
    obtain ⟨d, hd, hw2⟩ := itemN_out hw (res1.step st2).1
    obtain ⟨k, rfl, rfl, hw3⟩ := wI_out hw2 res2.1
    obtain ⟨v', hσ', so'⟩ := rel2.sl i _ h0
    rw [hσ] at hσ'; cases hσ'
    have mono : ∀ z, L z = true → L2' z = true := fun z hz => st2.2 z (st1.2 z hz)
    cases s0 <;> first | exact hw3.elim | skip
    · rename_i xs
      obtain ⟨ad, vs', rfl, e1', e2'⟩ := so'
      have hl := dpA_len e2'
      unfold setAt at hw3
      simp only [← hl] at hw3
      split at hw3
      · rename_i j ej
        refine ⟨ad, vs', k, j, rfl, rfl, hid_le _ _ _ _ e1', ej, q.nx _ L2' σ _ hw3 mono (rel_mut rel2 h0 rfl rfl hσ e1' rfl rfl ⟨ad, _, rfl, ?_, dpA_set hd j e2'⟩)⟩
        rw [hid_upd (hid_nl e1')]; exact upd_same
      · exact hw3.elim
    · rename_i b xs
      obtain ⟨vs', rfl, e1', e2'⟩ := so'
      have hl := dpA_len e2'
      unfold setAt at hw3
      simp only [← hl] at hw3
      split at hw3
      · rename_i j ej
        refine ⟨b, vs', k, j, rfl, rfl, hid_le _ _ _ _ e1', ej, q.nx _ L2' σ _ hw3 mono (rel_mut rel2 h0 rfl rfl hσ e1' rfl rfl ⟨_, rfl, ?_, dpA_set hd j e2'⟩)⟩
        rw [hid_upd (hid_nl e1')]; exact upd_same
      · exact hw3.elim, fun x c d L' H' h st lk ex => xc_of q rel x c d h st lk ex⟩
/-! ### dicts -/
def keyD : PyData → Option Key
  | .int i => some (.inl i)
  | .str s => some (.inr s)
  | _ => none
theorem keyD_ok {K : PySem.W.Frag} {M : Hp} {v : V} {x : PyData} {k : Key} (h : Dp K M v x) (e : keyD x = some k) : v = kV k := by
  cases h <;> simp [keyD] at e <;> subst e <;> rfl
def keysD : List PyData → Option (List Key)
  | [] => some []
  | x :: xs => match keyD x, keysD xs with
    | some k, some ks => some (k :: ks)
    | _, _ => none
theorem keysD_ok {K : PySem.W.Frag} {M : Hp} : ∀ {vs : List V} {xs : List PyData} {ks : List Key}, DpAll K M vs xs → keysD xs = some ks → vs = ks.map kV
  | _, [], ks, h, e => by cases h; simp [keysD] at e; subst e; rfl
  | _, x :: xs, ks, h, e => by
    cases h with
    | cons h1 h2 =>
      unfold keysD at e
      split at e
      · rename_i k ks' e1 e2
        cases e
        rw [keyD_ok h1 e1, keysD_ok h2 e2]; rfl
      · cases e
def valD {κ : Type} [DecidableEq κ] (kvs : List (κ × PyData)) (k : κ) : Option PyData := (kvs.find? fun kv => decide (kv.1 = k)).map (·.2)
def putD {κ : Type} [DecidableEq κ] (kvs : List (κ × PyData)) (k : κ) (v : PyData) : List (κ × PyData) :=
  if (kvs.any fun kv => decide (kv.1 = k)) = true then kvs.map (fun kv => if kv.1 = k then (kv.1, v) else kv) else kvs ++ [(k, v)]
theorem valD_ok {κ : Type} [DecidableEq κ] {K : PySem.W.Frag} {M : Hp} (k : κ) : ∀ {vs : List (κ × V)} {ds : List (κ × PyData)}, KD K M vs ds → (valV vs k = none ∧ valD ds k = none) ∨ ∃ v d, valV vs k = some v ∧ valD ds k = some d ∧ Dp K M v d
  | _, _, .nil => .inl ⟨rfl, rfl⟩
  | _, _, @Paired.cons _ _ _ x y xs ys r t => by
    obtain ⟨r1, r2⟩ := r
    unfold valV valD
    rw [List.find?_cons, List.find?_cons, r1]
    cases q : decide (y.1 = k) with
    | true => exact .inr ⟨_, _, rfl, rfl, r2⟩
    | false => exact valD_ok k t
theorem any_keys {κ : Type} [DecidableEq κ] {K : PySem.W.Frag} {M : Hp} (k : κ) : ∀ {vs : List (κ × V)} {ds : List (κ × PyData)}, KD K M vs ds → (vs.any fun kv => decide (kv.1 = k)) = (ds.any fun kv => decide (kv.1 = k))
  | _, _, .nil => rfl
  | _, _, .cons r t => by rw [List.any_cons, List.any_cons, r.1, any_keys k t]
theorem map_put {κ : Type} [DecidableEq κ] {K : PySem.W.Frag} {M : Hp} (k : κ) {v : V} {d : PyData} (hd : Dp K M v d) : ∀ {vs : List (κ × V)} {ds : List (κ × PyData)}, KD K M vs ds → KD K M (vs.map fun kv => if kv.1 = k then (kv.1, v) else kv) (ds.map fun kv => if kv.1 = k then (kv.1, d) else kv)
  | _, _, .nil => .nil
  | _, _, @Paired.cons _ _ _ x y xs ys r t => by
    obtain ⟨r1, r2⟩ := r
    refine .cons ?_ (map_put k hd t)
    by_cases e : y.1 = k
    · have e' := r1.trans e
      show (if x.1 = k then (x.1, v) else x).1 = (if y.1 = k then (y.1, d) else y).1 ∧ Dp K M (if x.1 = k then (x.1, v) else x).2 (if y.1 = k then (y.1, d) else y).2
      rw [if_pos e', if_pos e]; exact ⟨r1, hd⟩
    · have e' := fun z => e (r1.symm.trans z)
      show (if x.1 = k then (x.1, v) else x).1 = (if y.1 = k then (y.1, d) else y).1 ∧ Dp K M (if x.1 = k then (x.1, v) else x).2 (if y.1 = k then (y.1, d) else y).2
      rw [if_neg e', if_neg e]; exact ⟨r1, r2⟩
theorem paired_app {α β : Type} {F : α → β → Prop} : ∀ {xs : List α} {ys : List β} {zs : List α} {ws : List β}, Paired F xs ys → Paired F zs ws → Paired F (xs ++ zs) (ys ++ ws)
  | _, _, _, _, .nil, h => h
  | _, _, _, _, .cons r t, h => .cons r (paired_app t h)
theorem put_ok {κ : Type} [DecidableEq κ] {K : PySem.W.Frag} {M : Hp} (k : κ) {v : V} {d : PyData} (hd : Dp K M v d) {vs : List (κ × V)} {ds : List (κ × PyData)} (h : KD K M vs ds) : KD K M (putK vs k v) (putD ds k d) := by
  unfold putK putD
  rw [any_keys k h]
  split
  · exact map_put k hd h
  · exact paired_app h (.cons ⟨rfl, hd⟩ .nil)
theorem lift_imp {K : PySem.W.Frag} {te : TDe} {σ : L2.St} {H : Hp} {Q Q' : VK} (i : ∀ v H', Q v H' → Q' v H') (h : lift K LK W fl te σ H Q) : lift K LK W fl te σ H Q' := by
  obtain ⟨G, L, δ, R, RX, rel, r, q, qx⟩ := h
  exact ⟨G, L, δ, R, RX, rel, r, fun sv v L' H' h1 h2 h3 h4 => i _ _ (q sv v L' H' h1 h2 h3 h4), qx⟩
theorem dx_dnewK : DX X LK W ff (.Dict [] [] pos) (fun _ R _ => R (.oK [])) :=
  pe_imp pe_dnewK fun σ H Q ⟨G, L, δ, R, RX, rel, r, q, _⟩ p hp => q (.oK []) _ L _ r (rel.stepNew hp) (rel.new hp) (res_new rel hp ⟨p, [], rfl, new_at rel hp, .nil⟩)
theorem dx_dnewT : DX X LK W ff (.Dict [] [] pos) (fun _ R _ => R (.oT [])) :=
  pe_imp pe_dnewT fun σ H Q ⟨G, L, δ, R, RX, rel, r, q, _⟩ p hp => q (.oT []) _ L _ r (rel.stepNew hp) (rel.new hp) (res_new rel hp ⟨p, [], rfl, new_at rel hp, .nil⟩)
/-- what is at a key -/
def getV (sd sk : SV) (R : Option PyData → Prop) : Prop := wD sk fun k => match sd with
  | .oK kvs => (match keyD k with | some k => R (valD kvs k) | none => False)
  | .rK kvs => (match keyD k with | some k => R (valD kvs k) | none => False)
  | _ => False
theorem getV_ok {K : PySem.W.Frag} {L : Ls} {H : Hp} {x y : V} {sd sk : SV} {R : Option PyData → Prop} (hx : SvOk K (hid L H) L x sd) (hy : SvOk K (hid L H) L y sk) (h : getV sd sk R) :
    ∃ a o r, x = .ref a ∧ DGet H a y o ∧ R r ∧ ((o = none ∧ r = none) ∨ ∃ v d, o = some v ∧ r = some d ∧ Dp K (hid L H) v d) := by
  obtain ⟨dk, ek, h2⟩ := wD_out h
  have hk := asD_ok ek hy
  have main : ∀ (kvs : List (Key × PyData)), (∃ a vs, x = .ref a ∧ (hid L H) a = some (.dK vs) ∧ KD K (hid L H) vs kvs) → (match keyD dk with | some k => R (valD kvs k) | none => False) → ∃ a o r, x = .ref a ∧ DGet H a y o ∧ R r ∧ ((o = none ∧ r = none) ∨ ∃ v d, o = some v ∧ r = some d ∧ Dp K (hid L H) v d) := fun kvs ⟨a, vs, ea, e1, e2⟩ h3 => by
    split at h3
    · rename_i k e
      refine ⟨a, valV vs k, valD kvs k, ea, ?_, h3, ?_⟩
      · rw [keyD_ok hk e]; exact DGet.k (hid_le _ _ _ _ e1)
      · rcases valD_ok k e2 with ⟨z1, z2⟩ | ⟨v, d, z1, z2, z3⟩
        · exact .inl ⟨z1, z2⟩
        · exact .inr ⟨v, d, z1, z2, z3⟩
    · exact h3.elim
  cases sd <;> first | exact h2.elim | skip
  · exact main _ hx h2
  · exact main _ hx h2
def someD (r : Option PyData) (R : SV → Prop) : Prop := match r with | some d => R (.d d) | none => False
@[simp] theorem someD_some (d : PyData) (R : SV → Prop) : someD (some d) R = R (.d d) := rfl
@[simp] theorem someD_none (R : SV → Prop) : someD none R = False := rfl
@[simp] def eDGet (td tk : TDe) : TDe := fun δ R RX => td δ (fun sd => tk δ (fun sk => getV sd sk fun r => someD r R) RX) RX
theorem dx_dget (hu : X.A.units + 1 < cLine) (ha : DX X LK W fa a ta) (hb : DX X LK W fb' b tb) (hs : NoSl b := by exact fun _ _ => rfl) : DX X LK W fb (.Subscript a b pos) (eDGet ta tb) :=
  pe_imp (pe_dget hu ha hb hs) fun σ H Q ⟨G, L, δ, R, RX, rel, r, q, qx⟩ => ⟨G, L, δ, _, _, rel, r, fun sx x L1 H1 hw st1 rel1 res1 => ⟨G, L1, δ, _, _, rel1, hw, fun sy y L2' H2 hw2 st2 rel2 res2 => by
    obtain ⟨a, o, r, e1, e2, e3, e4⟩ := getV_ok ((res1.step st2).b (fz_le _ _ _ _)) (res2.b (fz_le _ _ _ _)) hw2
    subst e1
    rcases e4 with ⟨z1, z2⟩ | ⟨v, d, z1, z2, z3⟩
    · subst z2; exact e3.elim
    · subst z1; subst z2
      exact ⟨a, v, rfl, e2, q (.d d) v L2' H2 e3 (st1.trans st2) rel2 ⟨z3, fun _ z => nomatch z⟩⟩, fun x c d L' H' h st lk ex => qx x c d L' H' h (st1.trans st) lk ex⟩, fun x c d L' H' h st lk ex => qx x c d L' H' h st lk ex⟩
@[simp] def tDIn (neg : Bool) (tk td : TDe) : TDt := fun δ R RX => tk δ (fun sk => td δ (fun sd => getV sd sk fun r => R (if neg then !r.isSome else r.isSome)) RX) RX
theorem tDIn_dx {σ : L2.St} {H : Hp} {Q : Bool → Hp → Prop} {neg : Bool} (h : liftT X.K LK W (tDIn neg tb ta) σ H Q) :
    lift X.K LK W fb' tb σ H fun y H1 => lift X.K LK W fa ta σ H1 fun x H2 => ∃ a o, x = .ref a ∧ DGet H2 a y o ∧ Q (if neg then !o.isSome else o.isSome) H2 := by
  obtain ⟨G, L, δ, R, RX, rel, r, q, qx⟩ := h
  exact ⟨G, L, δ, _, _, rel, r, fun sy y L1 H1 hw st1 rel1 res1 => ⟨G, L1, δ, _, _, rel1, hw, fun sx x L2' H2 hw2 st2 rel2 res2 => by
    obtain ⟨a, o, r, e1, e2, e3, e4⟩ := getV_ok (res2.b (fz_le _ _ _ _)) ((res1.step st2).b (fz_le _ _ _ _)) hw2
    refine ⟨a, o, e1, e2, ?_⟩
    have e : o.isSome = r.isSome := by
      rcases e4 with ⟨z1, z2⟩ | ⟨v, d, z1, z2, z3⟩
      · rw [z1, z2]; rfl
      · rw [z1, z2]; rfl
    rw [e]
    exact q _ L2' H2 e3 (st1.trans st2) rel2, fun x c d L' H' h st lk ex => qx x c d L' H' h (st1.trans st) lk ex⟩, fun x c d L' H' h st lk ex => qx x c d L' H' h st lk ex⟩
theorem dt_din (hu : X.A.units + 1 < cLine) (ha : DX X LK W fa a ta) (hb : DX X LK W fb' b tb) (hm : behindInMarks .In b = false := by with_unfolding_all rfl) : DT X LK W (.Compare a [.In] [b] pos) (tDIn false ta tb) :=
  pt_imp (pt_cmp (pc_din hu ha hb) hm) fun σ H Q h => by
    have := tDIn_dx (fa := fb') (fb' := fa) h
    exact lift_imp (fun y H1 h1 => lift_imp (fun x H2 ⟨a, o, e1, e2, e3⟩ => ⟨a, o, e1, e2, _, rfl, e3⟩) h1) this
theorem dt_dnotin (hu : X.A.units + 1 < cLine) (ha : DX X LK W fa a ta) (hb : DX X LK W fb' b tb) (hm : behindInMarks .NotIn b = false := by with_unfolding_all rfl) : DT X LK W (.Compare a [.NotIn] [b] pos) (tDIn true ta tb) :=
  pt_imp (pt_cmp (pc_dnotin hu ha hb) hm) fun σ H Q h => by
    have := tDIn_dx (fa := fb') (fb' := fa) h
    exact lift_imp (fun y H1 h1 => lift_imp (fun x H2 ⟨a, o, e1, e2, e3⟩ => ⟨a, o, e1, e2, _, rfl, e3⟩) h1) this
/-! ### d[k] = e -/
@[simp] def sPutD (i : Nat) (ta tk : TDe) : TDs := fun δ E => ta δ (fun sv => svAt δ i fun s0 => match s0 with
  | .oK kvs => tk δ (fun sk => itemN sv fun d => wD sk fun k => match keyD k with
    | some k => kvs.length < sizeLine ∧ E.nx (δ.set i (some (.oK (putD kvs k d))))
    | none => False) (E.xc δ)
  | _ => False) (E.xc δ)
theorem d_putD (i : Nat) {x : Str} {ix : Expr} {tk : TDe} {p1 p2 : Pos} (hu : X.A.units + 1 < cLine) (he : DX X LK W ff e ta) (hk : DX X LK W fa ix tk) (hN : X.N[i]? = some x := by rfl) (hv : Vis X.env.scope x := by first | exact Or.inl rfl | exact Or.inr (Or.inl rfl) | exact Or.inr (Or.inr rfl)) (hd : (x == ("__debug__" : Str)) = false := by decide) (hcd : (x == ("__classdict__" : Str)) = false := by decide)
    (hs : swapsWithSole [.Subscript (.Name x p1) ix p2] e pos.line X.env = pure false := by rfl) (hw : swappedStores [.Subscript (.Name x p1) ix p2] e X.env = pure none := by rfl) (h1 : (assignEach [.Subscript (.Name x p1) ix p2] X.env).map (·.2) = [assign (.Subscript (.Name x p1) ix p2) X.env] := by rfl)
    (hass : ∀ v, assign (.Subscript (.Name x p1) ix p2) X.env v = (do
      let ov ← holding [v] (eval (.Name x p1) X.env)
      let iv ← holding [v, ov] (eval ix X.env)
      standAt p2
      holding [v, ov, iv] (setItem ov iv v)
      release [v, ov, iv] []) := by intro _; rfl) :
    D1 X LK W (.Assign [.Subscript (.Name x p1) ix p2] e pos) (sPutD i ta tk) :=
  ps_imp (ps_asg he (pg_sub (pe_var hN hv hd hcd) hk (L2.set_dict hu) hass) hs hw h1) fun D σ H ⟨G, L, δ, E, rel, r, q⟩ => ⟨G, L, δ, _, _, rel, r, fun sv y L1 H1 hw st1 rel1 res1 => by
    obtain ⟨s0, h0, r⟩ := svAt_out hw
    cases s0 <;> first | exact r.elim | skip
    rename_i kvs
    obtain ⟨v, hσ, ad, vs, ev, e1, e2⟩ := rel1.sl i _ h0
    subst ev
    refine ⟨_, hσ, G, L1, δ, _, _, rel1, r, fun sk kv L2' H2 hw st2 rel2 res2 => ?_, fun x c d L' H' h st lk ex => xc_of (q.mono st1.2) rel1 x c d h st lk ex⟩
    obtain ⟨d, hd, hw2⟩ := itemN_out hw (res1.step st2).1
    obtain ⟨dk, ek, hw3⟩ := wD_out hw2
    have hk' := asD_ok ek (res2.b (fz_le _ _ _ _))
    split at hw3
    · rename_i k ekk
      obtain ⟨hlen, hnx⟩ := hw3
      have e3 := keyD_ok hk' ekk
      subst e3
      obtain ⟨v', hσ', ad', vs', ev', e1', e2'⟩ := rel2.sl i _ h0
      rw [hσ] at hσ'; cases hσ'; cases ev'
      have hl : vs'.length = kvs.length := paired_len e2'
      refine ⟨ad, _, rfl, DPut.k (hid_le _ _ _ _ e1') (by rw [hl]; exact hlen), q.nx _ L2' σ _ hnx (fun z hz => st2.2 z (st1.2 z hz)) (rel_mut rel2 h0 rfl rfl hσ e1' rfl rfl ⟨ad, _, rfl, ?_, put_ok k hd e2'⟩)⟩
      rw [hid_upd (hid_nl e1')]; exact upd_same
    · exact hw3.elim, fun x c d L' H' h st lk ex => xc_of q rel x c d h st lk ex⟩
end
end DL

namespace DL
open PySem PySem.Spec PyProof.Rows L2

/-! ### own error classes: what the written part must say, as Bools -/
def oexB (K : PySem.W.Frag) (C : Addr) : Bool := match K.lookup C with
  | some ⟨.type t, _, .cls cd, sl⟩ => decide (t = "type") && (match cd.mro, sl.toList with
    | .ref C' :: bm, [_, _, _, _, some (.builtin n), _] => decide (C' = C) && decide (n = "ValueError.__new__") && !cd.hasDel && cd.hasDict && PySem.HandSPX.refsVE bm
    | _, _ => false)
  | _ => false
def errB (K : PySem.W.Frag) (x : Str) (fns : List Str) : Bool :=
  let C := He.ga K x
  oexB K C && decide (PySem.W.findIn K (.ref C) "__setattr__" = some (some (.builtin "object.__setattr__"))) && decide (PySem.W.typeIn K (.ref C) = some (.type "type")) && PySem.W.keepIn K (.ref C) && xfB K C
    && fns.all (fun f => decide (PySem.W.findIn K (.ref C) f = some none))
    && decide (PySem.W.findIn K (.ref C) "__class__" = some (some (.builtin "object.__class__")))
    && decide (PySem.W.specialIn K (.builtin "object.__class__") "__get__" = some (some (.builtin "getset_descriptor.__get__"))) && decide (PySem.W.takesIn K (.builtin "object.__class__") = some true) && decide (PySem.W.mroIn K C (.type "object") = some true)
structure ErrC (K : PySem.W.Frag) (x : Str) (fns : List Str) : Prop where
  oex : OexC K (He.ga K x)
  xf : XfC K (He.ga K x)
  no : ∀ f ∈ fns, PySem.W.findIn K (.ref (He.ga K x)) f = some none
  ca : PySem.W.findIn K (.ref (He.ga K x)) "__class__" = some (some (.builtin "object.__class__"))
  cg : PySem.W.specialIn K (.builtin "object.__class__") "__get__" = some (some (.builtin "getset_descriptor.__get__"))
  ct : PySem.W.takesIn K (.builtin "object.__class__") = some true
  cm : PySem.W.mroIn K (He.ga K x) (.type "object") = some true
theorem oexB_ok {K : PySem.W.Frag} {C : Addr} (h : oexB K C = true) : ∃ nm q N bs bm sn sub ab col dd k0 k1 k2 k3 k5, K.lookup C = some (excClassObj nm q C N bs bm true sn sub ab col dd k0 k1 k2 k3 k5 "ValueError.__new__") ∧ PySem.HandSPX.refsVE bm = true := by
  unfold oexB at h
  split at h
  · rename_i t dd cd sl ho
    rw [Bool.and_eq_true] at h
    obtain ⟨ht, h⟩ := h
    split at h
    · rename_i C' bm k0 k1 k2 k3 n k5 hm hs
      simp only [Bool.and_eq_true, decide_eq_true_eq, Bool.not_eq_true'] at h ht
      obtain ⟨⟨⟨⟨e1, e2⟩, e3⟩, e4⟩, e5⟩ := h
      subst ht e1 e2
      obtain ⟨nm, bs, mro, ns, qn, hd, sn, sub, ab, col, del⟩ := cd
      obtain ⟨l⟩ := sl
      dsimp only at hm hs e3 e4 e5
      subst hm hs e3 e4
      exact ⟨nm, qn, ns, bs, bm, sn, sub, ab, col, dd, k0, k1, k2, k3, k5, ho, e5⟩
    · cases h
  · cases h
theorem errB_ok {K : PySem.W.Frag} {x : Str} {fns : List Str} (h : errB K x fns = true) : ErrC K x fns := by
  unfold errB at h
  simp only [Bool.and_eq_true, decide_eq_true_eq, List.all_eq_true] at h
  obtain ⟨⟨⟨⟨⟨⟨⟨⟨⟨h1, h2⟩, h3⟩, h4⟩, h5⟩, h6⟩, h7⟩, h8⟩, h9⟩, h10⟩ := h
  have xf := xfB_ok h5
  exact ⟨⟨oexB_ok h1, h2, xf.exC, h3, h4⟩, xf, h6, h7, h8, h9, h10⟩
/-! ### __init__ -/
def spI (C : Addr) (fns : List Str) : Sp := fun vs H Q E => ∃ a ws, vs = .ref a :: ws ∧ ws.length = fns.length ∧ H a = some (exo a C none) ∧
  ∀ H2 d, H d = none → H2 a = some (exo a C (some d)) → H2 d = some (exd d (fns.zip ws).reverse) → (∀ b, b ≠ a → b ≠ d → H2 b = H b) → Q .non H2
/-- the class x makes its errors by an own __init__ -/
structure InitOk (P : Program) (w : World) (K : PySem.W.Frag) (mg : Str → Option Value) (base : Heap) (x : Str) (fns : List Str) : Prop where
  cls : ErrC K x fns
  ex : ∃ (fI : Addr) (fd : FuncData) (ps : List Str), PySem.W.findIn K (.ref (He.ga K x)) "__init__" = some (some (.ref fI)) ∧ PySem.W.typeIn K (.ref fI) = some (.type "function") ∧ ps.length = fns.length + 1 ∧
    FnOk P w K mg base (fun _ _ _ _ _ _ => False) 1 fI fd ps (spI (He.ga K x) fns) ∧ Binds K fd ps []
section
variable {P : Program} {w : World} {K : PySem.W.Frag} {mg : Str → Option Value} {base : Heap} {x qual s n n2 n3 f f2 f3 : Str} {params : Arguments} {scope : Scope} {fI : Addr} {fd : FuncData} {p1 p2 p3 p4 q1 q2 q3 q4 r1 r2 r3 r4 : Pos} {sw : Stmt}
theorem init1 (T : ErrC K x [f]) (F : FunD K "__init__" qual params [.Assign [.Attribute (.Name s p1) f p2] (.Name n p3) p4] scope [] [] fI fd) (S : FnScope [s, n] [s, n] scope) (l1 : scope.names.lookup s = some .local := by rfl) (l2 : scope.names.lookup n = some .local := by rfl)
    (d1 : (s == ("__debug__" : Str)) = false := by decide) (c1 : (s == ("__classdict__" : Str)) = false := by decide) (d2 : (n == ("__debug__" : Str)) = false := by decide) (c2 : (n == ("__classdict__" : Str)) = false := by decide)
    (hsw : ∀ env : Env, swapsWith (.Name n p3) (some (.Attribute (.Name s p1) f p2)) p4.line env = pure false := by intro _; rfl) :
    FnOk P w K mg base (fun _ _ _ _ _ _ => False) 1 fI fd [s, n] (spI (He.ga K x) [f]) := by
  refine F.ok S (fun vs H Q E ⟨a, ws, h1, h2, _⟩ => by subst h1; simp [h2]) fun cdv A outer st H vs Q E hr ⟨a, ws, h1, h2, h3, h4⟩ => ⟨_, pss_one (ps_ost (pe_var (i := 0) rfl (.inl l1) d1 c1) (pe_var (i := 1) rfl (.inl l2) d2 c2) (hsw _)), ?_⟩
  subst h1
  obtain ⟨v, rfl⟩ : ∃ v, ws = [v] := by
    cases ws with
    | nil => simp at h2
    | cons v r => cases r with
      | nil => exact ⟨v, rfl⟩
      | cons _ _ => simp at h2
  refine ⟨v, rfl, .ref a, rfl, a, _, rfl, T.oex, T.no f (by simp), .inl ⟨h3, fun dx n0 ne => ?_⟩⟩
  exact h4 _ dx n0 upd_same (by rw [upd_ne ne, upd_same]; rfl) fun b b1 b2 => by rw [upd_ne b1, upd_ne b2]
theorem init2 (T : ErrC K x [f, f2]) (F : FunD K "__init__" qual params [.Assign [.Attribute (.Name s p1) f p2] (.Name n p3) p4, .Assign [.Attribute (.Name s q1) f2 q2] (.Name n2 q3) q4] scope [] [] fI fd) (S : FnScope [s, n, n2] [s, n, n2] scope) (l1 : scope.names.lookup s = some .local := by rfl) (l2 : scope.names.lookup n = some .local := by rfl) (l3 : scope.names.lookup n2 = some .local := by rfl)
    (d1 : (s == ("__debug__" : Str)) = false := by decide) (c1 : (s == ("__classdict__" : Str)) = false := by decide) (d2 : (n == ("__debug__" : Str)) = false := by decide) (c2 : (n == ("__classdict__" : Str)) = false := by decide)
    (d3 : (n2 == ("__debug__" : Str)) = false := by decide) (c3 : (n2 == ("__classdict__" : Str)) = false := by decide)
    (hsw : ∀ env : Env, swapsWith (.Name n p3) (some (.Attribute (.Name s p1) f p2)) p4.line env = pure false := by intro _; rfl) (hsw2 : ∀ env : Env, swapsWith (.Name n2 q3) (some (.Attribute (.Name s q1) f2 q2)) q4.line env = pure false := by intro _; rfl) :
    FnOk P w K mg base (fun _ _ _ _ _ _ => False) 1 fI fd [s, n, n2] (spI (He.ga K x) [f, f2]) := by
  refine F.ok S (fun vs H Q E ⟨a, ws, h1, h2, _⟩ => by subst h1; simp [h2]) fun cdv A outer st H vs Q E hr ⟨a, ws, h1, h2, h3, h4⟩ =>
    ⟨_, pss_cons (ps_ost (pe_var (i := 0) rfl (.inl l1) d1 c1) (pe_var (i := 1) rfl (.inl l2) d2 c2) (hsw _)) (pss_one (ps_ost (pe_var (i := 0) rfl (.inl l1) d1 c1) (pe_var (i := 2) rfl (.inl l3) d3 c3) (hsw2 _))), ?_⟩
  subst h1
  obtain ⟨v, v2, rfl⟩ : ∃ v v2, ws = [v, v2] := by
    rcases ws with _ | ⟨v, _ | ⟨v2, _ | ⟨_, _⟩⟩⟩ <;> simp at h2
    exact ⟨v, v2, rfl⟩
  refine ⟨v, rfl, .ref a, rfl, a, _, rfl, T.oex, T.no f (by simp), .inl ⟨h3, fun dx n0 ne => ?_⟩⟩
  refine ⟨v2, rfl, .ref a, rfl, a, _, rfl, T.oex, T.no f2 (by simp), .inr ⟨dx, [(f, v)], upd_same, by rw [upd_ne ne, upd_same], by simp, ?_⟩⟩
  exact h4 _ dx n0 (by rw [upd_ne (Ne.symm ne), upd_same]) (by rw [upd_same]; rfl) fun b b1 b2 => by rw [upd_ne b2, upd_ne b1, upd_ne b2]
theorem init3 (T : ErrC K x [f, f2, f3]) (F : FunD K "__init__" qual params [.Assign [.Attribute (.Name s p1) f p2] (.Name n p3) p4, .Assign [.Attribute (.Name s q1) f2 q2] (.Name n2 q3) q4, .Assign [.Attribute (.Name s r1) f3 r2] (.Name n3 r3) r4] scope [] [] fI fd) (S : FnScope [s, n, n2, n3] [s, n, n2, n3] scope) (l1 : scope.names.lookup s = some .local := by rfl) (l2 : scope.names.lookup n = some .local := by rfl) (l3 : scope.names.lookup n2 = some .local := by rfl) (l4 : scope.names.lookup n3 = some .local := by rfl)
    (d1 : (s == ("__debug__" : Str)) = false := by decide) (c1 : (s == ("__classdict__" : Str)) = false := by decide) (d2 : (n == ("__debug__" : Str)) = false := by decide) (c2 : (n == ("__classdict__" : Str)) = false := by decide)
    (d3 : (n2 == ("__debug__" : Str)) = false := by decide) (c3 : (n2 == ("__classdict__" : Str)) = false := by decide) (d4 : (n3 == ("__debug__" : Str)) = false := by decide) (c4 : (n3 == ("__classdict__" : Str)) = false := by decide)
    (hsw : ∀ env : Env, swapsWith (.Name n p3) (some (.Attribute (.Name s p1) f p2)) p4.line env = pure false := by intro _; rfl) (hsw2 : ∀ env : Env, swapsWith (.Name n2 q3) (some (.Attribute (.Name s q1) f2 q2)) q4.line env = pure false := by intro _; rfl) (hsw3 : ∀ env : Env, swapsWith (.Name n3 r3) (some (.Attribute (.Name s r1) f3 r2)) r4.line env = pure false := by intro _; rfl) :
    FnOk P w K mg base (fun _ _ _ _ _ _ => False) 1 fI fd [s, n, n2, n3] (spI (He.ga K x) [f, f2, f3]) := by
  refine F.ok S (fun vs H Q E ⟨a, ws, h1, h2, _⟩ => by subst h1; simp [h2]) fun cdv A outer st H vs Q E hr ⟨a, ws, h1, h2, h3, h4⟩ =>
    ⟨_, pss_cons (ps_ost (pe_var (i := 0) rfl (.inl l1) d1 c1) (pe_var (i := 1) rfl (.inl l2) d2 c2) (hsw _)) (pss_cons (ps_ost (pe_var (i := 0) rfl (.inl l1) d1 c1) (pe_var (i := 2) rfl (.inl l3) d3 c3) (hsw2 _)) (pss_one (ps_ost (pe_var (i := 0) rfl (.inl l1) d1 c1) (pe_var (i := 3) rfl (.inl l4) d4 c4) (hsw3 _)))), ?_⟩
  subst h1
  obtain ⟨v, v2, v3, rfl⟩ : ∃ v v2 v3, ws = [v, v2, v3] := by
    rcases ws with _ | ⟨v, _ | ⟨v2, _ | ⟨v3, _ | ⟨_, _⟩⟩⟩⟩ <;> simp at h2
    exact ⟨v, v2, v3, rfl⟩
  refine ⟨v, rfl, .ref a, rfl, a, _, rfl, T.oex, T.no f (by simp), .inl ⟨h3, fun dx n0 ne => ?_⟩⟩
  refine ⟨v2, rfl, .ref a, rfl, a, _, rfl, T.oex, T.no f2 (by simp), .inr ⟨dx, [(f, v)], upd_same, by rw [upd_ne ne, upd_same], by simp, ?_⟩⟩
  refine ⟨v3, rfl, .ref a, rfl, a, _, rfl, T.oex, T.no f3 (by simp), .inr ⟨dx, [(f2, v2), (f, v)], by rw [upd_ne (Ne.symm ne), upd_same], by rw [upd_same], by simp, ?_⟩⟩
  exact h4 _ dx n0 (by rw [upd_ne (Ne.symm ne), upd_ne (Ne.symm ne), upd_same]) (by rw [upd_same]; rfl) fun b b1 b2 => by rw [upd_ne b2, upd_ne b2, upd_ne b1, upd_ne b2]
end
/-! ### raise -/
theorem zipv_look : ∀ {ps : List Str} {us : List V} {i : Nat} {x : Str} {u : V}, ps.Nodup → ps[i]? = some x → us[i]? = some u → (ps.zip us).reverse.lookup x = some u
  | [], _, _, _, _, _, h, _ => by simp at h
  | _ :: _, [], _, _, _, _, _, h => by simp at h
  | p :: ps, v :: us, 0, x, u, nd, h1, h2 => by
    simp at h1 h2
    subst h1 h2
    have hn : (ps.zip us).reverse.lookup p = none := by
      cases e : (ps.zip us).reverse.lookup p with
      | none => rfl
      | some z => exact absurd (List.of_mem_zip (List.mem_reverse.mp (PySem.mem_of_lookup e))).1 (List.nodup_cons.mp nd).1
    rw [List.zip_cons_cons, List.reverse_cons, List.lookup_append, hn]
    simp [List.lookup]
  | p :: ps, v :: us, i + 1, x, u, nd, h1, h2 => by
    have e : (ps.zip us).reverse.lookup x = some u := zipv_look (i := i) (List.nodup_cons.mp nd).2 (by simpa using h1) (by simpa using h2)
    rw [List.zip_cons_cons, List.reverse_cons, List.lookup_append, e]; rfl
section
variable {X : Cx} {LK : Lk} {W : WX} {fl fa fb' : Fl} {e a b c : Expr} {es : List Expr} {pos p : Pos} {ta tb tc : TDe} {tt tu : TDt} {tas : TDa} {st : Stmt} {rest body : List Stmt} {t u : TDs}
@[simp] def sRaise (x : Str) (fns : List Str) (ta : TDa) : TDs := fun δ E => ta δ (fun svs => wDs svs fun ds => ds.length = fns.length ∧ E.xc δ ⟨x, fns.zip ds⟩) (E.xc δ)
theorem pk_nwN {fl : Fl} {G : Gd} {F N : Hp} (h : fl.g = true) (e : Same F N) : Same (pk fl G F N) (nw G N) := by
  obtain ⟨o, g, f⟩ := fl
  obtain rfl : g = true := h
  cases o
  · exact Same.refl _
  · exact nw_mono e
theorem d_raise {x : Str} {fns : List Str} {p2 : Pos} (I : InitOk X.prog X.w X.K X.mg X.base x fns) (nd : fns.Nodup) (tk : Takes X W) (hc : X.calm = true) (hr : Room 2 X.A) (hg : Gl X x) (hm : X.mg x = some (.ref (He.ga X.K x))) (h7 : fns.length ≤ 7) (ha : DA X LK W fl (e :: es) tas) (fg : fl.g = true := by rfl)
    (hdb : (x == ("__debug__" : Str)) = false := by decide) (he : starEach (e :: es) X.env = (false, eval e X.env) :: starEach es X.env := by rfl) (hpl : (backTo pos (starEach es X.env)).any (·.1) = false := by rfl) :
    D1 X LK W (.Raise (some (.Call (.Name x p) (e :: es) [] pos)) none p2) (sRaise x fns tas) := by
  obtain ⟨fI, fd, ps, i1, i2, i3, F, bI⟩ := I.ex
  refine ps_imp (ps_raise hc tk (pmk_oex (CX := fun _ _ _ _ _ _ => False) I.cls.oex i1 i2 F hr bI .nil (fun _ _ _ _ _ _ _ z => z.elim) hg hm ha hdb he hpl)) fun D σ H ⟨G, L, δ, E, rel, r, q⟩ => ⟨G, L, δ, _, _, rel, r, fun svs vs L1 H1 hw st1 rel1 res1 => ?_, fun x c d L' H' h st lk ex => xc_of q rel x c d h st lk ex⟩
  unfold wDs at hw
  split at hw
  · rename_i ds eds
    obtain ⟨_, hl, hx⟩ := hw
    have dp := asDs_ok eds res1
    have hlv : vs.length = ds.length := dpA_len dp
    refine ⟨by omega, fun a na => ?_⟩
    rw [List.append_nil]
    refine ⟨a, vs, rfl, by omega, upd_same, fun H2 d nd2 e1 e2 e3 => ⟨rfl, d, _, e1, e2, ?_, ?_⟩⟩
    · by_cases z : d = a
      · rw [z]; exact na
      · rw [upd_ne z] at nd2; exact nd2
    · have nd1 : H1 d = none := by
        by_cases z : d = a
        · rw [z]; exact na
        · rw [upd_ne z] at nd2; exact nd2
      have da : d ≠ a := fun z => by rw [z, upd_same] at nd2; cases nd2
      have eH : upd (del H2 a) d (.xd (fns.zip vs).reverse) = upd H1 d (.xd (fns.zip vs).reverse) := by
        funext b
        by_cases h1 : b = d
        · rw [h1, upd_same, upd_same]
        · rw [upd_ne h1, upd_ne h1]
          by_cases h2 : b = a
          · rw [h2, del_same, na]
          · rw [del_ne h2, e3 b h2 h1, upd_ne h2]
      rw [eH]
      have st2 := rel1.stepNew (o := .xd (fns.zip vs).reverse) nd1
      refine xc_of q rel _ _ _ hx (st1.trans st2) (rel1.new (o := .xd (fns.zip vs).reverse) nd1).lk ⟨rfl, .inr ⟨d, (fns.zip vs).reverse, rfl, ?_, fun p hp => ?_⟩⟩
      · have nG : G.n d = none := by
          cases z : G.n d with
          | none => rfl
          | some o =>
            have := hid_le _ _ _ _ (fz_le _ _ _ _ _ _ (rel1.gF _ _ z))
            rw [nd1] at this; cases this
        exact nw_new (hid_of (rel1.loose nd1) upd_same rfl) nG
      · obtain ⟨i, hi⟩ := List.mem_iff_getElem?.mp hp
        have hz := List.getElem?_zip_eq_some.mp hi
        obtain ⟨v, hv, dv⟩ := dpA_get' dp hz.2
        refine ⟨v, zipv_look nd hz.1 hv, dp_mono ?_ _ _ dv⟩
        exact (pk_nwN fg (fz_le _ _ _ _)).trans (nw_mono st2.1)
  · exact hw.elim
end
end DL

namespace DL
open PySem PySem.Spec PyProof.Rows L2

/-! ### try with several clauses, each with or without a name -/
abbrev Clz := Value × Option Nat × (Addr → Value → Option Addr → TS)
/-- the ends of a suite whose name goes at its end -/
def endsI (D : Ends) (i : Nat) : Ends := { nx := fun σ' H' => D.nx (σ'.set i none) H', rt := D.rt, bk := fun σ' H' => D.bk (σ'.set i none) H', ct := fun σ' H' => D.ct (σ'.set i none) H' }
def suiteW (D : Ends) (oi : Option Nat) (t : TS) (a : Addr) : L2.St → Hp → Prop := fun σ H => match oi with
  | some i => t (endsI D i) (σ.set i (some (.ref a))) H
  | none => t D σ H
def wCl (K : PySem.W.Frag) (n : Nat) (Wout : WX) (D : Ends) : List Clz → WX
  | [] => Wout
  | (c, oi, ts) :: r => fun cls d σ H => ∃ b, PySem.W.exmOne K cls c = some b ∧ (b = true → σ.length = n → ∀ a, H a = none → suiteW D oi (ts a cls d) a σ H) ∧ (b = false → wCl K n Wout D r cls d σ H)
inductive HdX (X : Cx) : List ExceptHandler → List Clz → Prop
  | nil : HdX X [] []
  | as {x n : Str} {c : Value} {i : Nat} {ts : Addr → Value → Option Addr → TS} {b₀ : Stmt} {suite : List Stmt} {np pos' : Pos} {hds : List ExceptHandler} {l : List Clz} (hc : Names X x c) (hi : X.N[i]? = some n) (hln : X.env.kindOf n = some .local)
      (hsu : ∀ (a : Addr) (oe : Obj) (cls : Value) (d : Option Addr) (pn : List (Addr × Obj)), Zc cls d oe → (∃ vs, oe.data = .fields vs) → PSs (X.suite a ((a, oe) :: pn)) (b₀ :: suite) (ts a cls d)) (r : HdX X hds l) : HdX X (.ExceptHandler (some (.Name x np)) (some n) (b₀ :: suite) pos' :: hds) ((c, some i, ts) :: l)
  | no {x : Str} {c : Value} {ts : Addr → Value → Option Addr → TS} {b₀ : Stmt} {suite : List Stmt} {np pos' : Pos} {hds : List ExceptHandler} {l : List Clz} (hc : Names X x c)
      (hsu : ∀ (a : Addr) (oe : Obj) (cls : Value) (d : Option Addr) (pn : List (Addr × Obj)), Zc cls d oe → (∃ vs, oe.data = .fields vs) → PSs (X.suite a ((a, oe) :: pn)) (b₀ :: suite) (ts a cls d)) (r : HdX X hds l) : HdX X (.ExceptHandler (some (.Name x np)) none (b₀ :: suite) pos' :: hds) ((c, none, ts) :: l)
section
variable {X : Cx} {body : List Stmt} {h₀ : ExceptHandler} {hds : List ExceptHandler} {l : List Clz} {pos : Pos} {tb : WX → TS} {Wout : WX}
theorem ps_tryX (hs : X.stack = X.env :: X.outer) (hf : X.env.frame = some X.env.locals) (hN : X.N.Nodup) (tk : Takes X Wout)
    (hb : ∀ (W : WX) (pn : List (Addr × Obj)) (xe : Value → Shared → Prop), Takes (X.tr pn xe) W → PassesOwn (model X.prog X.w) X.A X.env xe → PSs (X.tr pn xe) body (tb W))
    (hh : HdX X (h₀ :: hds) l) : PS X (.Try body (h₀ :: hds) [] [] pos) (fun D σ H => tb (wCl X.K X.N.length Wout D l) D σ H) := by
  refine ⟨fun pins s σ H D I h => wpAny_Try_except ?_⟩
  have ok := I.ok
  have fr : X.A.frames = some (X.env :: X.outer) := ok.frames.trans (congrArg some hs)
  have body' := hb (wCl X.K X.N.length Wout D l) (X.pn ++ pins) (fun e s₁ => wpAny (model X.prog X.w) X.A (noteFrame e X.env) (fun _ s₂ => wpAny (model X.prog X.w) X.A (setFlight e none) (fun _ s₃ =>
    wpAny (model X.prog X.w) X.A (handleBy e X.env (h₀ :: hds)) (SP X pins D) X.xe s₃) X.xe s₂) X.xe s₁)
  refine wpAny_mono ((body' (fun u s' z => ?_) PassesOwn.looking).run [] s σ H D (I.toTry _) h) (fun f s1 hsp => ?_) fun _ _ z => z
  · obtain ⟨a, B, sI, pins', σ', H', cls, d, rfl, J', nb, up, sky, na, os, ag, w⟩ := z
    have J : Inv X pins σ' H' sI := J'.ofTry ok
    have ln : σ'.length = X.N.length := J.len
    rw [hs] at sky
    show wpAny (model X.prog X.w) X.A (noteFrame (.ref a) X.env) _ _ _
    refine Sky.land Zc.steady fr hf sky fun h3 fl3 up3 => ?_
    have J3 : Inv X pins σ' H' { s' with heap := h3 } := J.landed nb fl3.1 (up.trans up3) os ag
    obtain ⟨oe3, vs3, he3, hz3, hd3⟩ := fl3.there
    have out : a ∉ frs (X.env :: X.outer) := fun hm => by
      obtain ⟨_, o', e', hnf⟩ := fl3.2.2.1.mem hm
      rw [he3] at e'
      exact hnf _ ((congrArg Obj.data (Option.some.inj e')).symm.trans hd3)
    have nL : a ≠ X.env.locals := fun z => out (List.mem_filterMap.mpr ⟨X.env, List.mem_cons_self, by rw [hf, z]⟩)
    have nF : a ∉ X.fs := fun hm => by
      obtain ⟨e, he, q⟩ := List.mem_filterMap.mp hm
      exact out (List.mem_filterMap.mpr ⟨e, List.mem_cons_of_mem _ he, q⟩)
    have S3 := J3.suite he3 hd3 na nL nF
    have LT : PySem.W.Looks (model X.prog X.w) h3 (typeOf (.ref a)) cls := fun A Q E s k q => wpAny_typeOf_ref (k _ _ he3) (by rw [hz3.1]; exact q)
    have test : ∀ {x : Str} {c : Value} {np : Pos} {Q E : Value → Shared → Prop}, Names X x c → Q c { s' with heap := h3 } → wpAny (model X.prog X.w) (X.A.mark (some (.ref a))) (eval (.Name x np) X.env) Q E { s' with heap := h3 } := fun {x c np Q E} hc q => by
      obtain ⟨hg, hdbg, hm | ⟨hm, hv, hnn⟩⟩ := hc
      · exact ld_glob (X := X.suite a ((a, oe3) :: (X.pn ++ pins))) S3 hg hm q hdbg
      · exact ld_blt (X := X.suite a ((a, oe3) :: (X.pn ++ pins))) S3 hg hm hv q hnn hdbg
    have go : ∀ {hds' : List ExceptHandler} {l' : List Clz}, HdX X hds' l' → wCl X.K X.N.length Wout D l' cls d σ' H' → wpAny (model X.prog X.w) X.A (handleBy (.ref a) X.env hds') (SP X pins D) X.xe { s' with heap := h3 } := by
      intro hds' l' hk
      induction hk with
      | nil =>
        intro w
        obtain ⟨_, _, _, oe, vs, T, oT, ts', he, hz, hd, h1, hr⟩ := id fl3
        refine wpAny_handleBy_nil ?_
        unfold PySem.passOn
        refine wpAny_bind (wpAny_field he hd h1 ?_)
        rw [if_neg (by simp : ¬ ((Value.ref T == Value.none) = true))]
        have last : wpAny (model X.prog X.w) X.A (setFlight (.ref a) X.env.frame) (fun _ s4 => wpAny (model X.prog X.w) X.A (throw (.ref a) : Sem Flow) (SP X pins D) X.xe s4) X.xe { s' with heap := h3 } := by
          rw [hf]
          exact HandSPX.setFlight_upZ fl3 fun h4 hh4 up4 => wpAny_throw (tk _ _ ⟨a, B, sI, pins, σ', H', cls, d, rfl, J, nb, (up.trans up3).trans up4, .inr (.inr (by rw [hs]; exact hh4)), na, os, ag, w⟩)
        first
          | exact wpAny_bind last
          | exact wpAny_bind (wpAny_pure (wpAny_bind last))
      | no hc hsu r ih =>
        intro ⟨b, hb1, hyes, hno⟩
        refine wpAny_handleBy_cons (codeAny_handlers_test (test hc ((PySem.W.exm_one (M := model X.prog X.w) J3.kIn LT hb1).here ?_))) (by intro q; cases q)
        cases b with
        | false => exact ih (hno rfl)
        | true =>
          refine codeAny_handlers_suite (HandSPX.lands_againZ fl3 fun h4 fl4 up4 => ?_)
          obtain ⟨oe4, vs4, he4, hz4, hd4⟩ := fl4.there
          have J4 : Inv X pins σ' H' { s' with heap := h4 } := J.landed nb fl4.1 ((up.trans up3).trans up4) os ag
          refine wpAny_mono ((hsu a oe4 cls d (X.pn ++ pins) hz4 ⟨_, hd4⟩).run [] _ _ H' _ (J4.suite he4 hd4 na nL nF) (hyes rfl ln a na)) (fun f s6 hsp => ?_) (fun _ _ z => False.elim z)
          cases f with
          | ret u => exact let ⟨v6, σ6, H6, S6, r6, q6⟩ := hsp; ⟨v6, σ6, H6, S6.unsuite ok, r6, q6⟩
          | next => exact let ⟨σ6, H6, S6, q6⟩ := hsp; ⟨σ6, H6, S6.unsuite ok, q6⟩
          | brk => exact let ⟨σ6, H6, S6, q6⟩ := hsp; ⟨σ6, H6, S6.unsuite ok, q6⟩
          | cont => exact let ⟨σ6, H6, S6, q6⟩ := hsp; ⟨σ6, H6, S6.unsuite ok, q6⟩
      | @as x n c i ts b₀ suite np pos' hds2 l2 hc hi hln hsu r ih =>
        intro ⟨b, hb1, hyes, hno⟩
        refine wpAny_handleBy_cons (codeAny_handlers_test (test hc ((PySem.W.exm_one (M := model X.prog X.w) J3.kIn LT hb1).here ?_))) (by intro q; cases q)
        cases b with
        | false => exact ih (hno rfl)
        | true =>
          refine codeAny_handlers_suite_as (HandSPX.lands_againZ fl3 fun h4 fl4 up4 => ?_)
          obtain ⟨oe4, vs4, he4, hz4, hd4⟩ := fl4.there
          have J4 : Inv X pins σ' H' { s' with heap := h4 } := J.landed nb fl4.1 ((up.trans up3).trans up4) os ag
          refine store_ok (X := X.suite a ((a, oe4) :: (X.pn ++ pins))) (v := .ref a) (J4.suite he4 hd4 na nL nF) hN hi (.inl hln) rfl (fun s5 S5 => ?_) (.inr hln)
          refine wpAny_mono ((hsu a oe4 cls d (X.pn ++ pins) hz4 ⟨_, hd4⟩).run [] s5 _ H' _ S5 (hyes rfl ln a na)) (fun f s6 hsp => ?_) (fun _ _ z => False.elim z)
          have away : ∀ {σ6 : L2.St} {H6 : Hp} {Q : Shared → Prop}, Inv (X.suite a ((a, oe4) :: (X.pn ++ pins))) [] σ6 H6 s6 → (∀ s7, Inv X pins (σ6.set i none) H6 s7 → Q s7) → wpAny (model X.prog X.w) X.A (do bindName X.env n .none; unbindBehindTheSuite X.env n pos') (fun _ s7 => Q s7) X.xe s6 :=
            fun {σ6 H6 Q} S6 hq => gone_ok (S6.unsuite ok) hN hi hln hq
          cases f with
          | ret u => exact let ⟨v6, σ6, H6, S6, r6, q6⟩ := hsp; away S6 fun s7 J7 => ⟨v6, _, _, J7, r6, q6⟩
          | next => exact let ⟨σ6, H6, S6, q6⟩ := hsp; away S6 fun s7 J7 => ⟨_, _, J7, q6⟩
          | brk => exact let ⟨σ6, H6, S6, q6⟩ := hsp; away S6 fun s7 J7 => ⟨_, _, J7, q6⟩
          | cont => exact let ⟨σ6, H6, S6, q6⟩ := hsp; away S6 fun s7 J7 => ⟨_, _, J7, q6⟩
    exact go hh w
  · cases f with
    | ret u => exact let ⟨v, σ', H', J', r, q⟩ := hsp; ⟨v, σ', H', J'.ofTry ok, r, q⟩
    | next => exact let ⟨σ', H', J', q⟩ := hsp; wpAny_execs_nil ⟨σ', H', J'.ofTry ok, q⟩
    | brk => exact let ⟨σ', H', J', q⟩ := hsp; ⟨σ', H', J'.ofTry ok, q⟩
    | cont => exact let ⟨σ', H', J', q⟩ := hsp; ⟨σ', H', J'.ofTry ok, q⟩
end
/-! ### .. over data -/
/-- a clause: which classes it takes, the slot of its name, its suite -/
structure Clause where
  m : Str → Bool
  i : Option Nat
  t : Addr → Value → Option Addr → TDs
def putX (δ : DS) (oi : Option Nat) (s : SV) : DS := match oi with
  | some i => δ.set i (some s)
  | none => δ
@[simp] theorem putX_some (δ : DS) (i : Nat) (s : SV) : putX δ (some i) s = δ.set i (some s) := rfl
@[simp] theorem putX_none (δ : DS) (s : SV) : putX δ none s = δ := rfl
def endsX (E : EndsD) (oi : Option Nat) : EndsD := match oi with
  | some i => { nx := fun δ' => E.nx (δ'.set i none), rt := E.rt, xc := fun _ _ => False, bk := fun δ' => E.bk (δ'.set i none), ct := fun δ' => E.ct (δ'.set i none) }
  | none => { E with xc := fun _ _ => False }
@[simp] theorem endsX_some (E : EndsD) (i : Nat) : endsX E (some i) = { nx := fun δ' => E.nx (δ'.set i none), rt := E.rt, xc := fun _ _ => False, bk := fun δ' => E.bk (δ'.set i none), ct := fun δ' => E.ct (δ'.set i none) } := rfl
@[simp] theorem endsX_none (E : EndsD) : endsX E none = { E with xc := fun _ _ => False } := rfl
def nolX (x : Exn) : Bool := x.fs.all fun p => nolist p.2
def sCl (kn : List Str) (E : EndsD) (δ : DS) : List Clause → Exn → Prop
  | [], x => E.xc δ x
  | c :: r, x => kn.contains x.cls = true ∧ nolX x = true ∧ (if c.m x.cls = true then ∀ a cv d, c.t a cv d (putX δ c.i (.xn a cv d x)) (endsX E c.i) else sCl kn E δ r x)
@[simp] def sTry (kn : List Str) (t : TDs) (cl : List Clause) : TDs := fun δ E => t δ { E with xc := fun δ' => sCl kn E δ' cl }
theorem rel_unset {K : PySem.W.Frag} {LK : Lk} {G : Gd} {L : Ls} {δ : DS} {σ : L2.St} {H : Hp} (i : Nat) (rel : Rel K LK G L δ σ H) : Rel K LK G L (δ.set i none) (σ.set i none) H := by
  have get : ∀ {j : Nat} {s : SV}, (δ.set i none)[j]? = some (some s) → j ≠ i ∧ δ[j]? = some (some s) := fun {j s} h => by
    by_cases hj : j = i
    · subst hj
      have hl : j < δ.length := by
        have := (List.getElem?_eq_some_iff.mp h).1
        simpa using this
      rw [List.getElem?_set_self hl] at h
      cases h
    · rw [List.getElem?_set_ne (Ne.symm hj)] at h
      exact ⟨hj, h⟩
  have gs : ∀ {j : Nat}, j ≠ i → (σ.set i none)[j]? = σ[j]? := fun {j} hj => List.getElem?_set_ne (Ne.symm hj)
  have sub : Same (fz L δ σ H) (fz L (δ.set i none) (σ.set i none) H) := fun b o h => fz_of (fz_le _ _ _ _ _ _ h) fun ⟨j, s, h1, h2, h3⟩ => by
    obtain ⟨hj, h1⟩ := get h1
    rw [gs hj] at h3
    exact fz_not h ⟨j, s, h1, h2, h3⟩
  refine ⟨rel.gn, rel.g.trans sub, rel.lk, fun j s h => ?_, fun j k b sj sk hjk h1 h2 o1 o2 e1 e2 => ?_, by simp [rel.ln]⟩
  · obtain ⟨hj, h⟩ := get h
    obtain ⟨v, h1, h2⟩ := rel.sl j s h
    exact ⟨v, by rw [gs hj]; exact h1, slotOk_mono sub (Same.refl _) (fun _ z => z) h2⟩
  · obtain ⟨hj, h1⟩ := get h1
    obtain ⟨hk, h2⟩ := get h2
    rw [gs hj] at e1
    rw [gs hk] at e2
    exact rel.ow j k b sj sk hjk h1 h2 o1 o2 e1 e2
theorem exOk_nol {K : PySem.W.Frag} {M M' : Hp} {x : Exn} {c : Value} {d : Option Addr} (n : nolX x = true) (xd : ∀ a fs, M a = some (.xd fs) → M' a = some (.xd fs)) (tup : ∀ a xs, SqT K M a xs → SqT K M' a xs) (h : ExOk K M x c d) : ExOk K M' x c d :=
  ⟨h.1, h.2.imp_right fun ⟨dd, fs, h1, h2, h3⟩ => ⟨dd, fs, h1, xd _ _ h2, fun p hp => let ⟨v, a, b⟩ := h3 p hp; ⟨v, a, dp_nolist tup _ _ (List.all_eq_true.mp n p hp) b⟩⟩⟩
theorem rel_putX {K : PySem.W.Frag} {LK : Lk} {G : Gd} {L : Ls} {δ : DS} {σ : L2.St} {H : Hp} {i : Nat} {a : Addr} {cv : Value} {d : Option Addr} {x : Exn} (rel : Rel K LK G L δ σ H) (n : nolX x = true) (ex : ExOk K (nw G (hid L H)) x cv d) : Rel K LK G L (δ.set i (some (.xn a cv d x))) (σ.set i (some (.ref a))) H := by
  refine rel.put (Step.refl _ _) rel.lk (fun z => nomatch z) ⟨rfl, ?_⟩
  have sub := fz_set (i := i) (sv := .xn a cv d x) (v := .ref a) rel rfl
  exact exOk_nol n (fun b fs e => sub _ _ (rel.immF rfl (nw_le _ _ _ _ e))) (fun b xs s => same_sqT sub (rel.tupF (same_sqT (nw_le _ _) s))) ex
section
variable {X : Cx} {LK : Lk} {W : WX} {body suite : List Stmt} {pos np pos' : Pos} {t u : TDs} {hds : List ExceptHandler} {h₀ : ExceptHandler} {l : List Clause}
/-- the clauses of the text, by their data -/
inductive HdD (X : Cx) (LK : Lk) (kn : List Str) : List ExceptHandler → List Clz → List Clause → Prop
  | nil : HdD X LK kn [] [] []
  | as {x n : Str} {i : Nat} {b₀ : Stmt} {suite : List Stmt} {np pos' : Pos} {hds : List ExceptHandler} {lz : List Clz} {l : List Clause} {m : Str → Bool} {t : Addr → Value → Option Addr → TDs} (hc : Names X x (.ref (He.ga X.K x))) (hm : ∀ y ∈ kn, PySem.W.exmOne X.K (.ref (He.ga X.K y)) (.ref (He.ga X.K x)) = some (m y)) (hi : X.N[i]? = some n) (hln : X.env.kindOf n = some .local)
      (hsu : ∀ (a : Addr) (oe : Obj) (cls : Value) (d : Option Addr) (pn : List (Addr × Obj)), Zc cls d oe → (∃ vs, oe.data = .fields vs) → Ds (X.suite a ((a, oe) :: pn)) LK (fun _ _ _ _ => False) (b₀ :: suite) (t a cls d)) (r : HdD X LK kn hds lz l) :
      HdD X LK kn (.ExceptHandler (some (.Name x np)) (some n) (b₀ :: suite) pos' :: hds) ((.ref (He.ga X.K x), some i, fun a c d => liftS X.K LK (fun _ _ _ _ => False) (t a c d)) :: lz) (⟨m, some i, t⟩ :: l)
  | no {x : Str} {b₀ : Stmt} {suite : List Stmt} {np pos' : Pos} {hds : List ExceptHandler} {lz : List Clz} {l : List Clause} {m : Str → Bool} {t : Addr → Value → Option Addr → TDs} (hc : Names X x (.ref (He.ga X.K x))) (hm : ∀ y ∈ kn, PySem.W.exmOne X.K (.ref (He.ga X.K y)) (.ref (He.ga X.K x)) = some (m y))
      (hsu : ∀ (a : Addr) (oe : Obj) (cls : Value) (d : Option Addr) (pn : List (Addr × Obj)), Zc cls d oe → (∃ vs, oe.data = .fields vs) → Ds (X.suite a ((a, oe) :: pn)) LK (fun _ _ _ _ => False) (b₀ :: suite) (t a cls d)) (r : HdD X LK kn hds lz l) :
      HdD X LK kn (.ExceptHandler (some (.Name x np)) none (b₀ :: suite) pos' :: hds) ((.ref (He.ga X.K x), none, fun a c d => liftS X.K LK (fun _ _ _ _ => False) (t a c d)) :: lz) (⟨m, none, t⟩ :: l)
theorem HdD.x {kn : List Str} {lz : List Clz} (h : HdD X LK kn hds lz l) : HdX X hds lz := by
  induction h with
  | nil => exact .nil
  | as hc hm hi hln hsu r ih => exact .as hc hi hln hsu ih
  | no hc hm hsu r ih => exact .no hc hsu ih
theorem HdD.w {kn : List Str} {lz : List Clz} {G : Gd} {L L' : Ls} {E : EndsD} {D : Ends} {x : Exn} {c : Value} {d : Option Addr} {δ' : DS} {σ' : L2.St} {H' : Hp} (hd : HdD X LK kn hds lz l) (q : EndsOk X.K LK W G L E D) (h : sCl kn E δ' l x) (hl : ∀ a, L a = true → L' a = true) (rel : Rel X.K LK G L' δ' σ' H')
    (ex : ExOk X.K (nw G (hid L' H')) x c d) : wCl X.K X.N.length W D lz c d σ' H' := by
  have run : ∀ (oi : Option Nat) (t : Addr → Value → Option Addr → TDs) (a : Addr), nolX x = true → (∀ a cv d, t a cv d (putX δ' oi (.xn a cv d x)) (endsX E oi)) → suiteW D oi (liftS X.K LK (fun _ _ _ _ => False) (t a c d)) a σ' H' := fun oi t a nx ht => by
    have q1 := q.mono hl
    cases oi with
    | none => exact ⟨G, L', _, _, rel, ht a c d, ⟨q1.nx, q1.bk, q1.ct, q1.rt, fun _ _ _ _ _ _ _ h => h.elim⟩⟩
    | some i =>
      exact ⟨G, L', _, _, rel_putX rel nx ex, ht a c d, ⟨fun δ2 L2' σ2 H2 h hm r => q1.nx _ L2' _ H2 h hm (rel_unset i r), fun δ2 L2' σ2 H2 h hm r => q1.bk _ L2' _ H2 h hm (rel_unset i r), fun δ2 L2' σ2 H2 h hm r => q1.ct _ L2' _ H2 h hm (rel_unset i r), q1.rt, fun _ _ _ _ _ _ _ h => h.elim⟩⟩
  induction hd with
  | nil => exact q.xc x c d δ' L' σ' H' h hl rel ex
  | as hc hm hi hln hsu r ih =>
    obtain ⟨k, nx, h⟩ := h
    refine ⟨_, by rw [ex.1]; exact hm _ (by simpa using k), fun hb ln a na => ?_, fun hb => ?_⟩
    · rw [if_pos hb] at h
      exact run (some _) _ a nx h
    · rw [if_neg (fun z => by have z' := hb.symm.trans z; cases z')] at h
      exact ih h
  | no hc hm hsu r ih =>
    obtain ⟨k, nx, h⟩ := h
    refine ⟨_, by rw [ex.1]; exact hm _ (by simpa using k), fun hb ln a na => ?_, fun hb => ?_⟩
    · rw [if_pos hb] at h
      exact run none _ a nx h
    · rw [if_neg (fun z => by have z' := hb.symm.trans z; cases z')] at h
      exact ih h
theorem d_try {kn : List Str} {lz : List Clz} (hs : X.stack = X.env :: X.outer) (hf : X.env.frame = some X.env.locals) (hN : X.N.Nodup) (tk : Takes X W)
    (hb : ∀ (W : WX) (pn : List (Addr × Obj)) (xe : Value → Shared → Prop), Takes (X.tr pn xe) W → PassesOwn (model X.prog X.w) X.A X.env xe → Ds (X.tr pn xe) LK W body t)
    (hh : HdD X LK kn (h₀ :: hds) lz l) : D1 X LK W (.Try body (h₀ :: hds) [] [] pos) (sTry kn t l) :=
  ps_imp (ps_tryX (tb := fun W => liftS X.K LK W t) hs hf hN tk (fun W pn xe tk' po => hb W pn xe tk' po) hh.x) fun D σ H ⟨G, L, δ, E, rel, r, q⟩ => ⟨G, L, δ, _, rel, r, ⟨q.nx, q.bk, q.ct, q.rt, fun x c d δ' L' σ' H' h hl rel' ex => hh.w q h hl rel' ex⟩⟩
end
/-! ### in an except suite: e.f, isinstance(e, C) -/
section
variable {X : Cx} {LK : Lk} {W : WX} {a : Addr} {oe : Obj} {cls : Value} {d : Option Addr} {pn : List (Addr × Obj)} {pos p1 p p2 : Pos} {f y n : Str}
@[simp] def eXf (a : Addr) (c : Value) (d : Option Addr) (kn : List Str) (i : Nat) (f : Str) : TDe := fun δ R _ => svAt δ i fun s => ∃ x, s = .xn a c d x ∧ kn.contains x.cls = true ∧ someD (x.fs.lookup f) R
theorem lookup_memD {l : List (Str × PyData)} {f : Str} {v : PyData} (h : l.lookup f = some v) : (f, v) ∈ l := PySem.mem_of_lookup h
theorem dx_xf {kn : List Str} (hk : ∀ y ∈ kn, XfC X.K (He.ga X.K y) ∧ PySem.W.findIn X.K (.ref (He.ga X.K y)) f = some none) (hz : Zc cls d oe) (hf : ∃ vs, oe.data = .fields vs) (i : Nat) (hN : X.N[i]? = some n := by rfl) (hv : Vis X.env.scope n := by first | exact Or.inl rfl | exact Or.inr (Or.inl rfl) | exact Or.inr (Or.inr rfl)) (hd : (n == ("__debug__" : Str)) = false := by decide) (hcd : (n == ("__classdict__" : Str)) = false := by decide)
    (hb : attributeBase (.Name n p1) f X.env (eval (.Name n p1) X.env) = eval (.Name n p1) X.env := by rfl) : DX (X.suite a ((a, oe) :: pn)) LK W fs (.Attribute (.Name n p1) f pos) (eXf a cls d kn i f) := by
  refine ⟨fun pins s σ H Q I h => ?_⟩
  obtain ⟨G, L, δ, R, RX, rel, r, q, qx⟩ := h
  obtain ⟨s0, h0, r⟩ := svAt_out r
  obtain ⟨x, rfl, hkn, r⟩ := r
  obtain ⟨v, hσ, ev, ec, ex⟩ := rel.sl i _ h0
  subst ev
  obtain ⟨xf, no⟩ := hk x.cls (by simpa using hkn)
  refine (pe_xf (C := He.ga X.K x.cls) xf no hz hf (pe_var (X := X.suite a ((a, oe) :: pn)) hN hv hd hcd) hb).run pins s σ H Q I ?_
  cases e : x.fs.lookup f with
  | none => rw [e] at r; exact r.elim
  | some dv =>
    rw [e] at r
    rcases ex with ⟨_, e0⟩ | ⟨dd, fs, e1, e2, e3⟩
    · rw [e0] at e; cases e
    · obtain ⟨v, e4, e5⟩ := e3 _ (lookup_memD e)
      exact ⟨_, hσ, rfl, ec, dd, fs, v, e1, hid_le _ _ _ _ (fz_le _ _ _ _ _ _ e2), e4, q (.d dv) v L H r (Step.refl _ _) rel ⟨e5, fun _ z => nomatch z⟩⟩
@[simp] def eXis (a : Addr) (c : Value) (d : Option Addr) (kn : List Str) (m : Str → Bool) (i : Nat) : TDe := fun δ R _ => svAt δ i fun s => ∃ x, s = .xn a c d x ∧ kn.contains x.cls = true ∧ R (.d (.bool (m x.cls)))
def rIsX (K : PySem.W.Frag) (cls : Value) (d : Option Addr) (a : Addr) : List V → Hp → VK → Prop := fun xs H Q => ∃ (C : Addr) (c : V) (cv : Value) (b : Bool), xs = [.ref a, c] ∧ (∀ u, RelV c u → u = cv) ∧ cls = .ref C ∧ ExcC K C ∧ (d = none ∨ ∃ dd fs, d = some dd ∧ H dd = some (.xd fs)) ∧ PySem.W.kitOne K (.ref C) cv = some b ∧ Q (.bl b) H
theorem call_isX (hz : Zc cls d oe) (hf : ∃ vs, oe.data = .fields vs) : CallR (X.suite a ((a, oe) :: pn)) (.builtin "isinstance") (rIsX X.K cls d a) := by
  intro pins s σ H xs us Q I r h
  obtain ⟨C, c, cv, b, rfl, hcv, rfl, T, hdd, e, q⟩ := h
  cases r with
  | cons rx rr => cases rr with
    | @cons _ u' _ _ rt rr =>
      cases rr
      cases rx
      have ec := hcv _ rt
      subst ec
      have hget := (I.pin (a, oe) (List.mem_append.mpr (.inl List.mem_cons_self))).1
      obtain ⟨vs, hv⟩ := hf
      have fin : ∀ od, PySem.W.InstAt s.heap a oe C od → wpAny (model X.prog X.w) (X.suite a ((a, oe) :: pn)).A (call (.builtin "isinstance") [.ref a, u']) (EP (X.suite a ((a, oe) :: pn)) pins σ Q) (X.suite a ((a, oe) :: pn)).xe s := fun od J => by
        have hcl : (PySem.W.clsIn X.K C).isSome = true := by
          obtain ⟨cd, hc, _⟩ := PySem.W.any_some T.hd
          rw [hc]; rfl
        exact PySem.W.kia_one (PySem.W.kitx_exc hcl T.hg T.hk T.hs T.ha T.hn T.ht T.hm) I.kIn J e (fun z => nomatch z) fun tk => ⟨.bl b, H, I.kept (t' := tk) fun _ _ z => z, rfl, q⟩
      have nc : PySem.W.notCls oe = true := by unfold PySem.W.notCls; rw [hv]
      rcases hdd with rfl | ⟨dd, fs, rfl, ed⟩
      · exact fin none ⟨hget, hz.1, nc, by rw [hz.2]; trivial⟩
      · have hx : ObjOk X.prog X.w H s.heap dd (.xd fs) := I.hok dd _ ed
        obtain ⟨mA, hns, hr⟩ := hx
        obtain ⟨od, ho, hl⟩ := lookIn_ns hns
        exact fin (some od) ⟨hget, hz.1, nc, by rw [hz.2]; exact ho⟩
theorem dx_xis {kn : List Str} {m : Str → Bool} {c : V} {cv : Value} (hk : ∀ y ∈ kn, ExcC X.K (He.ga X.K y) ∧ PySem.W.kitOne X.K (.ref (He.ga X.K y)) cv = some (m y)) (hz : Zc cls d oe) (hf : ∃ vs, oe.data = .fields vs) (i : Nat) (hcv : ∀ u, RelV c u → u = cv) (hy : PE (X.suite a ((a, oe) :: pn)) (.Name y p2) (tC c))
    (hg : Gl X "isinstance") (hm : X.mg "isinstance" = none) (hvb : bootBuiltins "isinstance" = some (.builtin "isinstance")) (hN : X.N[i]? = some n := by rfl) (hv : Vis X.env.scope n := by first | exact Or.inl rfl | exact Or.inr (Or.inl rfl) | exact Or.inr (Or.inr rfl)) (hd : (n == ("__debug__" : Str)) = false := by decide) (hcd : (n == ("__classdict__" : Str)) = false := by decide)
    (hs : starEach [.Name n p1, .Name y p2] X.env = (false, eval (.Name n p1) X.env) :: starEach [.Name y p2] X.env := by rfl) (hs2 : starEach [.Name y p2] X.env = (false, eval (.Name y p2) X.env) :: starEach [] X.env := by rfl) (hpl : (backTo pos (starEach [.Name y p2] X.env)).any (·.1) = false := by rfl) :
    DX (X.suite a ((a, oe) :: pn)) LK W ff (.Call (.Name "isinstance" p) [.Name n p1, .Name y p2] [] pos) (eXis a cls d kn m i) :=
  pe_imp (pe_callB (X := X.suite a ((a, oe) :: pn)) (call_isX hz hf) hg hm hvb (pa_cons (pe_var (X := X.suite a ((a, oe) :: pn)) hN hv hd hcd) (pa_cons hy pa_nil hs2) hs) (by decide) (by decide) hs hpl) fun σ H Q ⟨G, L, δ, R, RX, rel, r, q, qx⟩ => by
    obtain ⟨s0, h0, r⟩ := svAt_out r
    obtain ⟨x, rfl, hkn, r⟩ := r
    obtain ⟨v, hσ, ev, ec, ex⟩ := rel.sl i _ h0
    subst ev
    obtain ⟨T, hit⟩ := hk x.cls (by simpa using hkn)
    refine ⟨_, hσ, He.ga X.K x.cls, c, cv, m x.cls, rfl, hcv, ec, T, ?_, hit, q _ _ L H r (Step.refl _ _) rel (res_sc fun _ => Dp.bl _)⟩
    rcases ex with ⟨e0, _⟩ | ⟨dd, fs, e1, e2, e3⟩
    · exact .inl e0
    · exact .inr ⟨dd, fs, e1, hid_le _ _ _ _ (fz_le _ _ _ _ _ _ e2)⟩
theorem ErrC.excC {K : PySem.W.Frag} {x : Str} {fns : List Str} (T : ErrC K x fns) : ExcC K (He.ga K x) := ⟨T.xf.ga, T.xf.gg, T.xf.exC, T.xf.hdC, T.ca, T.cg, T.ct, T.cm⟩
end
end DL

namespace DL
open PySem PySem.Spec PyProof.Rows L2 LamX NdefX

/-! ### functions of one argument as values -/
abbrev FnD := PyData → (PyData → Prop) → Prop
/-- nothing untracked has changed but frames' slots -/
def Later (s : Shared) (H : Hp) (s1 : Shared) (H1 : Hp) : Prop := ∀ b o, s.heap.get? b = some o → H b = none → (∃ sl, s1.heap.get? b = some { o with slots := sl }) ∧ H1 b = none
theorem later_of {X : Cx} {pins : List (Addr × Obj)} {σ : L2.St} {H : Hp} {s : Shared} (I : Inv X pins σ H s) (hex : X.ex = []) : Later X.s_0 X.H_0 s H := fun b o e n =>
  have nx : b ∉ X.ex := by rw [hex]; simp
  ⟨I.base.any e n nx, I.base.free b o e n nx⟩
theorem cells_later {cl : List (Str × Addr)} {fr : List Str} {ws : List (Option V)} {s s1 : Shared} {H H1 : Hp} (C : CellsAt cl fr ws s.heap H) (l : Later s H s1 H1) : CellsAt cl fr ws s1.heap H1 := by
  have kp : ∀ c v, H c = none → s.heap.IsCell c v → s1.heap.IsCell c v := fun c v n ⟨o, ho, hd⟩ => by
    obtain ⟨⟨sl, q⟩, _⟩ := l c o ho n
    exact ⟨_, q, hd⟩
  refine ⟨C.len, fun y c e => ?_, C.inj, fun i y e => ?_⟩
  · obtain ⟨n, v, z⟩ := C.all y c e
    obtain ⟨o, ho, hd⟩ := id z
    exact ⟨(l c o ho n).2, v, kp c _ n z⟩
  · obtain ⟨c, hc, hv⟩ := C.has i y e
    refine ⟨c, hc, fun v ev => ?_⟩
    obtain ⟨u, r, z⟩ := hv v ev
    exact ⟨u, r, kp c _ (C.all y c hc).1 z⟩
abbrev CXF : CXT := fun _ _ _ _ _ _ => False
/-- the function at f keeps F, called at any state behind (s, H), as long as kf stands -/
structure CapR (P : Program) (w : World) (K : PySem.W.Frag) (mg : Str → Option Value) (base : Heap) (LK : Lk) (k : Nat) (s : Shared) (H : Hp) (kf : Hp) (f : Addr) (F : FnD) : Prop where
  fn : ∀ (H1 : Hp) (h : Heap), HOk P w H1 h → Same kf H1 → PySem.W.FnAt f h
  run : ∀ (A : Around) (outer : List Env) (s1 : Shared) (H1 : Hp) (u : Value) (v : V) (x : PyData) (L : Ls) (Q : VK) (R : PyData → Prop), Room k A → Env0 P w K mg base A outer s1 H1 → Later s H s1 H1 → Same kf (hid L H1) → LkOk LK L H1 → RelV v u → Dp K (hid L H1) v x → F x R →
    (∀ r w' L' H', R r → Step L H1 L' H' → LkOk LK L' H' → Dp K (hid L' H') w' r → Q w' H') → codeAny (model P w) A (.call (.ref f) ⟨[u], []⟩) (CR CXF outer P w H1 s1 Q (fun _ _ _ => False)) s1
/-! ### a parameter that holds a function, called -/
section
variable {X : Cx} {LK : Lk} {W : WX} {fl : Fl} {e : Expr} {ta : TDe} {p1 p2 : Pos}
@[simp] def eCallP (i : Nat) (kf : Hp) (f : Addr) (F : FnD) (ta : TDe) : TDe := fun δ R RX => svAt δ i fun s => s = .fn kf f ∧ ta δ (fun sv => wD sv fun d => F d fun r => R (.d r)) RX
theorem dx_callP {k : Nat} {kf : Hp} {f : Addr} {F : FnD} (C : CapR X.prog X.w X.K X.mg X.base LK k X.s_0 X.H_0 kf f F) (hr : Room k X.A) (i : Nat) {x : Str} (he : DX X LK W fl e ta) (hex : X.ex = [] := by rfl) (hN : X.N[i]? = some x := by rfl) (hv : Vis X.env.scope x := by first | exact Or.inl rfl | exact Or.inr (Or.inl rfl) | exact Or.inr (Or.inr rfl))
    (hd : (x == ("__debug__" : Str)) = false := by decide) (hcd : (x == ("__classdict__" : Str)) = false := by decide) (hs : starEach [e] X.env = (false, eval e X.env) :: starEach [] X.env := by rfl) (hpl : (backTo p2 (starEach [] X.env)).any (·.1) = false := by rfl) :
    DX X LK W fb (.Call (.Name x p1) [e] [] p2) (eCallP i kf f F ta) := by
  refine ⟨fun pins s σ H Q I h => ?_⟩
  obtain ⟨G, L, δ, R, RX, rel, r, q, qx⟩ := h
  obtain ⟨s0, h0, rfl, r⟩ := svAt_out r
  obtain ⟨v0, hσ, rfl, same⟩ := rel.sl i _ h0
  refine wpAny_Call_Name_kw (thn ((pe_var (pos := p1) hN hv hd hcd).run pins s σ H (fun v H1 => v = .ref f ∧ H1 = H) I ⟨.ref f, hσ, rfl, rfl⟩) fun u s1 ⟨v, H1, I1, r1, q1⟩ => ?_)
  obtain ⟨ev, eH⟩ := q1
  subst ev
  rw [eH] at I1
  obtain rfl : u = Value.ref f := r1
  have sH : Same kf H := same.trans ((fz_le _ _ _ _).trans (hid_le _ _))
  refine PySem.W.callWith_F (first := []) (C.fn _ _ I1.hok sH) (thn ((pa_cons (X := X) he pa_nil hs).run p2 pins s1 σ H (fun vs H2 => ∃ sv v L2 G, vs = [v] ∧ Step L H L2 H2 ∧ Rel X.K LK G L2 δ σ H2 ∧ SvOk X.K (hid L2 H2) L2 v sv ∧ Same (fz L δ σ H) (hid L2 H2) ∧ (wD sv fun d => F d fun r => R (.d r))) I1 ?_) fun us s2 ⟨vs, H2, I2, rv, sv, v, L2', G', evs, st, rel2, ok, sm, hw⟩ => ?_) hs hpl
  · exact ⟨G, L, δ, _, _, rel, r, fun sv v L' H' hw st rel' res => ⟨sv, v, L', G, rfl, st, rel', res.b (fz_le _ _ _ _), (fz_step st).trans (fz_le _ _ _ _), hw⟩, fun x c d L' H' hx st lk ex => qx x c d L' H' hx st lk ex⟩
  · subst evs
    refine ⟨C.fn _ _ I2.hok (same.trans (sm.trans (hid_le _ _))), ?_⟩
    cases rv with
    | @cons _ u' _ _ ru rr =>
      cases rr
      obtain ⟨x, ex, hF⟩ := wD_out hw
      show wpAny _ _ (call (.ref f) [u']) _ _ _
      refine wpAny_call (codeAny_mono (C.run X.A X.stack s2 H2 u' v x L2' Q (fun r => R (.d r)) hr I2.env0 (later_of I2 hex) (same.trans sm) rel2.lk ru (asD_ok ex ok) hF fun r w' L' H' hR st' lk' dr => ?_) fun r s' hq => ?_)
      · exact q (.d r) w' L' H' hR (st.trans st') (rel.step (st.trans st') lk') ⟨dr, fun _ z => nomatch z⟩
      · cases r with
        | error e => exact (show False from hq).elim
        | ok fl =>
          cases fl with
          | ret u => exact I2.after hq
          | next => exact False.elim hq
          | brk => exact False.elim hq
          | cont => exact False.elim hq
end
/-! ### a def that takes a function -/
structure FnFOk (P : Program) (w : World) (K : PySem.W.Frag) (mg : Str → Option Value) (base : Heap) (LK : Lk) (k kc : Nat) (g : Addr) (fd : FuncData) (ps : List Str) (j : Nat) (CF : FnD → Ctr) : Prop where
  run : ∀ (A : Around) (outer : List Env) (s : Shared) (H : Hp) (args : Args) (us : List Value) (vs : List V) (Q : VK) (E : XK) (L : Ls) (svs : List SV) (R : SV → Prop) (RX : Exn → Prop) (kf : Hp) (f : Addr) (F : FnD), Room k A → Env0 P w K mg base A outer s H → BindsTo s fd args (ps.zip us) → Vals vs us → vs.length = ps.length → LkOk LK L H →
    Paired (fun v sv => SvOk K (hid L H) L v sv ∧ isData sv = true) vs svs → svs[j]? = some (.fn kf f) → CapR P w K mg base LK kc s H kf f F → CF F svs R RX →
    (∀ sv v L' H', R sv → Step L H L' H' → LkOk LK L' H' → SvOk K (nw (gd1 L H) (hid L' H')) L' v sv → Q v H') →
    (∀ x c d L' H', RX x → Step L H L' H' → LkOk LK L' H' → ExOk K (nw (gd1 L H) (hid L' H')) x c d → E c d H') → codeAny (model P w) A (.call (.ref g) args) (CR (L2.CX P w) outer P w H s Q E) s
section
variable {P : Program} {w : World} {K : PySem.W.Frag} {mg : Str → Option Value} {base : Heap} {LK : Lk}
theorem fnF_ok {x qual : Str} {params : Arguments} {body : List Stmt} {scope : Scope} {dvs : List V} {kws : List (Str × V)} {g : Addr} {fd : FuncData} {N ps : List Str} {k kc j : Nat} {CF : FnD → Ctr} {ts : Hp → Addr → FnD → TDs} (Fd : FunD K x qual params body scope dvs kws g fd) (S : FnScope N ps scope)
    (hb : ∀ (cdv : Value) (A : Around) (outer : List Env) (s : Shared) (H : Hp) (E : XK) (kf : Hp) (f : Addr) (F : FnD), Room k (A.deeper (envOfC qual scope s.heap.objs.size g cdv)) → CapR P w K mg base LK kc s H kf f F → Ds (cx P w K mg base N qual scope g cdv A outer s H E) LK (WD E) body (ts kf f F))
    (hc : ∀ kf f F args R RX, args.length = ps.length → args[j]? = some (.fn kf f) → CF F args R RX → ts kf f F (startD N args) { nx := fun _ => R (.d .none), rt := fun _ => R, xc := fun _ => RX }) : FnFOk P w K mg base LK (k + 1) kc g fd ps j CF := by
  obtain ⟨oc, od, dV, kV, doc, pm, an, cdv, ct, osl, rfl, lk, hcd, _, _⟩ := Fd.ex
  refine ⟨fun A outer s H args us vs Q E L svs R RX kf f F hr e0 hbd rv hl lkk pa hj cap hC q qx => ?_⟩
  refine run_ofS (CX := L2.CX P w) (ps := ps) (N := N) lk hcd S hr e0 hbd rv hl fun hr' => ⟨_, hb cdv A outer s H E kf f F hr' cap, ?_⟩
  refine ⟨gd1 L H, L, startD N svs, _, rel_start lkk pa, hc kf f F svs R RX ((paired_len pa).symm.trans hl) hj hC, ⟨fun δ' L' σ' H' h l rel => ?_, fun _ _ _ _ h => h.elim, fun _ _ _ _ h => h.elim, fun sv v δ' L' σ' H' gk h l rel ok => ?_, fun x c d δ' L' σ' H' h l rel ex => ?_⟩⟩
  · exact q _ _ L' H' h ⟨rel.gF.trans (fz_le _ _ _ _), l⟩ rel.lk Dp.non
  · exact q _ _ L' H' h ⟨rel.gF.trans (fz_le _ _ _ _), l⟩ rel.lk ok
  · exact qx x c d L' H' h ⟨rel.gF.trans (fz_le _ _ _ _), l⟩ rel.lk ex
/-- a def of the text that takes a function at place j, by name -/
def HasF (P : Program) (w : World) (K : PySem.W.Frag) (mg : Str → Option Value) (base : Heap) (LK : Lk) (x : Str) (k kc j : Nat) (ps : List Str) (CF : FnD → Ctr) : Prop :=
  ∃ fd : FuncData, FnFOk P w K mg base LK k kc (He.ga K x) fd ps j CF ∧ Binds K fd ps [] ∧ mg x = some (.ref (He.ga K x)) ∧ PySem.W.keepIn K (.ref (He.ga K x)) = true
end
/-! ### what a made function promises -/
/-- the object at f is the lambda with the words of F -/
def FnOL (f : Addr) (F : NF) (e : Expr) : HO := .ext fun h => ∃ (pm ctv : Value), h.get? f = some (PySem.W.kla_obj F.name F.qual F.params e F.scope F.cl pm F.c ctv)
inductive FK where
  | ex (e : Expr) | st
def FnOf (f : Addr) (F : NF) : FK → HO
  | .ex e => FnOL f F e
  | .st => FnO f F
/-- kf tells the function -/
structure IsFn (kf : Hp) (f : Addr) (F : NF) (b : FK) : Prop where
  fn : kf f = some (FnOf f F b)
  code : kf F.c = some (CodeO F.c F.qual)
section
variable {P : Program} {w : World} {K : PySem.W.Frag} {mg : Str → Option Value} {base : Heap} {LK : Lk} {N ps fr : List Str} {F : NF} {f : Addr} {s : Shared} {H kf : Hp}
theorem start_F {N : List Str} {v : V} {wv : List V} : startF N [v] (wv.map some) = L2.start N (v :: wv) := by
  unfold startF L2.start
  simp only [List.map_cons, List.map_nil, List.length_map, List.length_cons, List.length_nil, List.singleton_append, List.cons_append, List.nil_append]
  congr 3
  omega
theorem capE {k : Nat} {p : Str} {e : Expr} {wv : List V} {caps : List SV} {tb : TDe} (is : IsFn kf f F (.ex e)) (S : NScope N [p] fr F.scope) (hbind : ∀ (pm ctv u : Value), bindArgs (PySem.W.kla_fn F.name F.qual F.params e F.scope F.cl pm (.ref F.c) ctv) ⟨[u], []⟩ = pure [(p, u)])
    (C : CellsAt F.cl fr (wv.map some) s.heap H) (pa : ∀ L, Paired (fun v sv => SvOk K kf L v sv ∧ isData sv = true) wv caps)
    (hb : ∀ (A : Around) (outer : List Env) (s : Shared) (H : Hp) (E : XK), Room k (A.deeper (envF F f s.heap.objs.size)) → DX (ncx CXF P w K mg base N F f A outer s H E) LK (fun _ _ _ _ => False) fb e tb) :
    CapR P w K mg base LK (k + 1) s H kf f (fun x R => tb (startD N (.d x :: caps)) (fun sv => wD sv R) (fun _ => False)) := by
  have there : ∀ {H1 : Hp} {h : Heap}, HOk P w H1 h → Same kf H1 → ∃ (pm ctv : Value), h.get? f = some (PySem.W.kla_obj F.name F.qual F.params e F.scope F.cl pm F.c ctv) := fun {H1 h} hok sm => by
    obtain ⟨z, _, _⟩ := hok f _ (sm _ _ is.fn)
    exact z
  refine ⟨fun H1 h hok sm => ?_, fun A outer s1 H1 u v x L Q R hr e0 lt sm lkk rv dx hF q => ?_⟩
  · obtain ⟨pm, ctv, e1⟩ := there hok sm
    exact ⟨_, _, _, _, e1⟩
  · have smH : Same kf H1 := sm.trans (hid_le _ _)
    obtain ⟨pm, ctv, ho⟩ := there e0.hok smH
    have lim : s1.heap.NoLimit := e0.mod.nolimit.keeps fun b o e => (e0.bs b o e).1
    have C1 := cells_later C lt
    refine PySem.W.kla_callFunE hr.depth ho rfl S.co S.gen rfl (codeO_at e0.hok (smH _ _ is.code)) ?_
    rw [hbind]
    refine wpAny_pure (wpAny_newFunctionEnv S.nocell (fun y hy => by
      have : y = (p, u) := by simpa using hy
      rw [this]; exact S.par p (by simp)) (fun h₁ hns hsb => ⟨lim.fresh _ hsb, ?_⟩) S.kind)
    show codeAny _ _ (.expr e (envF F f s1.heap.objs.size)) _ _
    have kp : ∀ b o, s1.heap.get? b = some o → h₁.get? b = some o := fun b o e => hsb.extBut b o (Nat.ne_of_lt (Heap.lt_size e)) (Heap.get?_push_of_some _ e)
    have J : Inv (ncx CXF P w K mg base N F f A outer s1 H1 (fun _ _ _ => False)) [] (startF N [v] (wv.map some)) H1 { s1 with heap := h₁, toks := s1.toks + ([(p, u)] : List (Str × Value)).length } := inv_startN (ps := [p]) (us := [u]) S hr.hd e0 rfl (.cons rv .nil) C1 hns kp
    rw [start_F] at J
    have rs : Rel K LK (gd1 L H1) L (startD N (.d x :: caps)) (L2.start N (v :: wv)) H1 := rel_start lkk (.cons ⟨dx, rfl⟩ (paired_imp (fun _ _ z => ⟨svOk_mono sm (fun _ z => z) z.1, z.2⟩) (pa L)))
    refine PySem.W.kla_codeExpr (wpAny_mono ((hb A outer s1 H1 (fun _ _ _ => False) (hr.deeper _)).run [] _ _ H1 Q J ⟨_, L, _, _, _, rs, hF, fun sv y L' H' hw st rel' res => ?_, fun _ _ _ _ _ h => h.elim⟩) (fun u' s' hq => ?_) fun e s' hq => hq)
    · obtain ⟨d, ed, hR⟩ := wD_out hw
      exact q d y L' H' hR st rel'.lk (asD_ok ed (res.b (fz_le _ _ _ _)))
    · obtain ⟨w', H', J', rv', q'⟩ := hq
      exact ⟨w', H', J'.os, J'.bare, J'.base, J'.hok, rv', q'⟩
theorem capS {k : Nat} {p : Str} {wv : List V} {caps : List SV} {ts : TDs} (is : IsFn kf f F .st) (S : NScope N [p] fr F.scope) (hbind : ∀ (doc pm ctv u : Value), bindArgs (F.fd doc pm ctv) ⟨[u], []⟩ = pure [(p, u)])
    (C : CellsAt F.cl fr (wv.map some) s.heap H) (pa : ∀ L, Paired (fun v sv => SvOk K kf L v sv ∧ isData sv = true) wv caps)
    (hb : ∀ (A : Around) (outer : List Env) (s : Shared) (H : Hp) (E : XK), Room k (A.deeper (envF F f s.heap.objs.size)) → Ds (ncx CXF P w K mg base N F f A outer s H E) LK (fun _ _ _ _ => False) F.body ts) :
    CapR P w K mg base LK (k + 1) s H kf f (fun x R => ts (startD N (.d x :: caps)) { nx := fun _ => R .none, rt := fun _ sv => wD sv R, xc := fun _ _ => False }) := by
  have n : NOk P w K mg base CXF (k + 1) f F [p] fr (fun ws vs H1 Q E => ∃ v x L R, vs = [v] ∧ ws = wv.map some ∧ Same kf (hid L H1) ∧ LkOk LK L H1 ∧ Dp K (hid L H1) v x ∧ ts (startD N (.d x :: caps)) { nx := fun _ => R .none, rt := fun _ sv => wD sv R, xc := fun _ _ => False } ∧
      (∀ r w' L' H', R r → Step L H1 L' H' → LkOk LK L' H' → Dp K (hid L' H') w' r → Q w' H')) := by
    refine nok_of S (fun doc pm ctv us hl => ?_) (fun ws vs H1 Q E ⟨v, _, _, _, e, _⟩ => by rw [e]; rfl) fun A outer s1 H1 vs ws Q E hr hf hc hlw hsp => ?_
    · obtain ⟨u, rfl⟩ : ∃ u, us = [u] := by
        rcases us with _ | ⟨u, _ | ⟨_, _⟩⟩ <;> simp at hl
        exact ⟨u, rfl⟩
      exact hbind doc pm ctv u
    · obtain ⟨v, x, L, R, rfl, rfl, sm, lkk, dx, hF, q⟩ := hsp
      refine ⟨_, hb A outer s1 H1 E hr, ?_⟩
      rw [start_F]
      have rs : Rel K LK (gd1 L H1) L (startD N (.d x :: caps)) (L2.start N (v :: wv)) H1 := rel_start lkk (.cons ⟨dx, rfl⟩ (paired_imp (fun _ _ z => ⟨svOk_mono sm (fun _ z => z) z.1, z.2⟩) (pa L)))
      refine ⟨_, L, _, _, rs, hF, ⟨fun δ' L' σ' H' h l rel => ?_, fun _ _ _ _ h => h.elim, fun _ _ _ _ h => h.elim, fun sv v δ' L' σ' H' gk h l rel ok => ?_, fun x c d δ' L' σ' H' h l rel ex => h.elim⟩⟩
      · exact q _ _ L' H' h ⟨rel.gF.trans (fz_le _ _ _ _), l⟩ rel.lk Dp.non
      · obtain ⟨d, ed, hR⟩ := wD_out h
        exact q d _ L' H' hR ⟨rel.gF.trans (fz_le _ _ _ _), l⟩ rel.lk (dp_mono (nw_le _ _) _ _ (asD_ok ed ok))
  refine ⟨fun H1 h hok sm => ?_, fun A outer s1 H1 u v x L Q R hr e0 lt sm lkk rv dx hF q => ?_⟩
  · obtain ⟨od, sl, doc, pm, ctv, ho⟩ := fnO_at hok (sm _ _ is.fn)
    exact ⟨_, od, _, sl, ho⟩
  · have smH : Same kf H1 := sm.trans (hid_le _ _)
    exact n.run A outer s1 H1 [u] [v] _ Q (fun _ _ _ => False) hr e0 (smH _ _ is.fn) (smH _ _ is.code) (cells_later C lt) (.cons rv .nil) ⟨v, x, L, R, rfl, rfl, sm, lkk, dx, hF, q⟩
end
end DL

namespace DL
open PySem PySem.Spec PyProof.Rows L2 LamX NdefX

/-! ### worlds with tables of code objects -/
theorem tabs_mono {T : List (Addr × Str)} {H H' : Hp} (e : ∀ b o, H b = some o → mutB o = false → H' b = some o) (t : Tabs T H) : Tabs T H' := fun p hp => by
  obtain ⟨ps, h1, h2, h3⟩ := t p hp
  refine ⟨ps, e _ _ h1 rfl, h2, fun pos cv hc => ?_⟩
  obtain ⟨c, e1, e2⟩ := h3 pos cv hc
  exact ⟨c, e1, e _ _ e2 rfl⟩
def LkT (ok : HO → Prop) (T : List (Addr × Str)) : Lk := ⟨ok, Tabs T, fun _ _ e h => tabs_mono e h⟩
theorem step_ext {ok : HO → Prop} {T : List (Addr × Str)} {L : Ls} {H H1 : Hp} (hok : ∀ o, ok o → tblB o = false) (lk : LkOk (LkT ok T) L H) (e : ExtN H H1) (t : Tabs T H1) : Step L H L H1 ∧ LkOk (LkT ok T) L H1 := by
  have e' : ∀ b o, H b = some o → tblB o = false → H1 b = some o := fun b o h n => e b o h fun ps z => by rw [z] at n; cases n
  refine ⟨⟨fun b o h => hid_of (hid_nl h) (e' b o (hid_le _ _ _ _ h) (hid_nt h)) (hid_nt h), fun _ z => z⟩, fun a la => ?_, t⟩
  obtain ⟨o, h1, h2⟩ := lk.1 a la
  exact ⟨o, e' a o h1 (hok o h2), h2⟩
/-- what is known of a function just made, alone -/
def kf0 (H : Hp) (f c : Addr) : Hp := fun b => if b = f ∨ b = c then H b else none
theorem kf0_le (H : Hp) (f c : Addr) : Same (kf0 H f c) H := fun b o h => by
  unfold kf0 at h
  split at h
  · exact h
  · cases h
theorem kf0_is {H : Hp} {f : Addr} {F : NF} {b : FK} (h1 : H f = some (FnOf f F b)) (h2 : H F.c = some (CodeO F.c F.qual)) : IsFn (kf0 H f F.c) f F b :=
  ⟨by unfold kf0; rw [if_pos (.inl rfl)]; exact h1, by unfold kf0; rw [if_pos (.inr rfl)]; exact h2⟩
theorem ext_of {f : Addr} {F : NF} {b : FK} : ∃ p, FnOf f F b = .ext p := by
  cases b
  · exact ⟨_, rfl⟩
  · exact ⟨_, rfl⟩
/-- as a value it needs nothing but what is known of it -/
theorem kf0_ok {ok : HO → Prop} {T : List (Addr × Str)} {K : PySem.W.Frag} {G : Gd} {L : Ls} {δ : DS} {σ : L2.St} {H : Hp} {f : Addr} {F : NF} {b : FK} (hok : ∀ p, ¬ ok (.ext p)) (rel : Rel K (LkT ok T) G L δ σ H) (h1 : H f = some (FnOf f F b)) (h2 : H F.c = some (CodeO F.c F.qual)) : Same (kf0 H f F.c) (nw G (fz L δ σ H)) := fun a o h => by
  have one : ∀ p, H a = some (.ext p) → (nw G (fz L δ σ H)) a = some (.ext p) := fun p e => by
    have nl : L a = false := by
      cases z : L a with
      | false => rfl
      | true =>
        obtain ⟨o', e1, e2⟩ := rel.lk.1 a z
        rw [e] at e1; cases e1
        exact absurd e2 (hok p)
    exact nw_imm (rel.immF rfl (hid_of nl e rfl)) rfl
  have hH := kf0_le _ _ _ _ _ h
  unfold kf0 at h
  split at h
  · rename_i hb
    rcases hb with hb | hb
    · subst hb
      obtain ⟨p, e⟩ := ext_of (f := a) (F := F) (b := b)
      rw [e] at h1
      rw [hH] at h1; cases h1
      exact one p hH
    · subst hb
      rw [hH] at h2; cases h2
      exact one _ hH
  · cases h
/-! ### a lambda, a nested def -/
section
variable {X : Cx} {okp : HO → Prop} {T : List (Addr × Str)} {W : WX} {c Pt : Addr} {params : Arguments} {body : Expr} {scope : Scope} {pos : Pos} {name : Str}
@[simp] def eLam (M : Hp → Addr → Prop) : TDe := fun _ R _ => ∀ kf f, M kf f → R (.fn kf f)
def lamNF (X : Cx) (params : Arguments) (scope : Scope) (c' : Addr) : NF := ⟨"<lambda>", X.env.qual ++ "<lambda>", params, [], scope, cloFrom X.env.cells scope.names [], c'⟩
def lamM (X : Cx) (params : Arguments) (body : Expr) (scope : Scope) : Hp → Addr → Prop := fun kf f => ∃ c', IsFn kf f (lamNF X params scope c') (.ex body)
/-- the object of a lambda just made is known from now on -/
theorem inv_lam {pins : List (Addr × Obj)} {σ : L2.St} {H : Hp} {s : Shared} {F : NF} {e : Expr} {pm ctv : Value} {t' : Nat} (I : Inv X pins σ H s) : Inv X pins σ (upd H s.heap.objs.size (FnOL s.heap.objs.size F e)) { s with heap := s.heap.push (PySem.W.kla_obj F.name F.qual F.params e F.scope F.cl pm F.c ctv), toks := t' } :=
  have at_ : (s.heap.push (PySem.W.kla_obj F.name F.qual F.params e F.scope F.cl pm F.c ctv)).get? s.heap.objs.size = some (PySem.W.kla_obj F.name F.qual F.params e F.scope F.cl pm F.c ctv) := Heap.get?_push_size _ rfl
  I.laid (fun b u q => Heap.get?_push_of_some _ q) (Nat.le_refl _) ⟨⟨pm, ctv, at_⟩, ⟨_, at_⟩, fun h1 h2 ⟨p, t, z⟩ st => ⟨p, t, st _ z⟩⟩
theorem lam_made {pins : List (Addr × Obj)} {σ : L2.St} {H : Hp} {s : Shared} {E : Value → Shared → Prop} {Q : Value → Shared → Prop} (I : Inv X pins σ H s) (TB : TabB X.base X.mg c Pt) (hcode : X.env.code = .ref c) (hm : (Pt, X.env.qual ++ "<lambda>") ∈ T) (hu : ∀ p ∈ T, p.1 = Pt → p.2 = X.env.qual ++ "<lambda>") (hT : Tabs T H)
    (hdef : defaultsOf params X.env = ([], [])) (hfree : ∀ y ∈ scope.names, y.2 = .free → ∃ c, X.env.cells.lookup y.1 = some c)
    (h : ∀ (f c' : Addr) (H1 : Hp) (s' : Shared), Inv X pins σ H1 s' → ExtN H H1 → Tabs T H1 → H1 f = some (FnOL f (lamNF X params scope c') body) → H1 c' = some (CodeO c' (X.env.qual ++ "<lambda>")) → Q (.ref f) s') :
    wpAny (model X.prog X.w) X.A (eval (.Lambda params body scope pos) X.env) Q E s := by
  obtain ⟨ps, hP, ht, ha⟩ := hT _ hm
  have bP : s.heap.BuiltinsAt X.mg Pt := TB.bm.keeps I.bk
  have oP : s.heap.get? Pt = some { cls := .none, data := .fields ps } := I.hok Pt _ hP
  refine PySem.W.kla_eval hdef ?_
  cases hc : codeAmong pos ps.toList with
  | some cv =>
    obtain ⟨c', rfl, hco⟩ := ha pos cv hc
    refine PySem.W.kla_makeFunctionHit (mg := X.mg) (c := c) (P := Pt) (ps := ps) (closure_ok hfree) I.ok.glob (I.mod.glob.keeps I.bk) hcode (TB.code.keeps I.bk) oP ht hc bP fun ctv h' tk hx hsz => ?_
    have I1 : Inv X pins σ H { s with heap := h', toks := tk } := I.kept fun b o e => hx b o e
    have nF := I1.hok.fresh (Nat.le_refl _)
    refine h h'.objs.size c' _ _ (inv_lam (F := lamNF X params scope c') (e := body) (pm := (X.mg "__name__").getD .none) (ctv := ctv) (t' := tk) I1) (fun b o e _ => ?_) (hT.ext fun b o e => ?_) upd_same ?_
    · exact (upd_ne (ne_of_none e nF)).trans e
    · exact (upd_ne (ne_of_none e nF)).trans e
    · exact (upd_ne (ne_of_none hco nF)).trans hco
  | none =>
    refine PySem.W.kla_makeFunction (mg := X.mg) (c := c) (P := Pt) (ps := ps) (closure_ok hfree) I.ok.glob (I.mod.glob.keeps I.bk) hcode (TB.code.keeps I.bk) oP ht hc TB.gP bP fun c' ctv h' tk hx hge hlt hrec htb => ?_
    obtain ⟨c2, oc, vs, t, e2, hoc, hd, hv⟩ := hrec
    cases e2
    have nC : H c' = none := I.hok.fresh hge
    have I1 := inv_table (q := X.env.qual ++ "<lambda>") (t' := tk) (more := #[rawInt pos.line, rawInt pos.col, .ref c']) (h' := h') I hP (fun b o hb e => hx b o hb e) htb hge ⟨oc, vs, t, hoc, hd, hv⟩
    generalize eH : upd (upd H Pt (.tbl (ps ++ #[rawInt pos.line, rawInt pos.col, .ref c']))) c' (CodeO c' (X.env.qual ++ "<lambda>")) = H1 at I1
    have x1 : ExtN H H1 := fun b o e n => by
      rw [← eH, upd_ne (ne_of_none e nC), upd_ne fun z => n ps (Option.some.inj (e.symm.trans (by rw [z]; exact hP)))]
      exact e
    have cC : H1 c' = some (CodeO c' (X.env.qual ++ "<lambda>")) := by rw [← eH]; exact upd_same
    have eL : (ps ++ #[rawInt pos.line, rawInt pos.col, .ref c']).toList = ps.toList ++ [rawInt pos.line, rawInt pos.col, .ref c'] := by simp
    have T1 : Tabs T H1 := fun p hp => by
      by_cases hb : p.1 = Pt
      · rw [hu p hp hb, hb]
        refine ⟨_, by rw [← eH, upd_ne (ne_of_none hP nC), upd_same], by rw [eL]; exact PySem.TriplesOk_snoc _ _ _ _ ht, fun p' cv hcv => ?_⟩
        rw [eL] at hcv
        rcases among_app _ ht hcv with z | z
        · obtain ⟨c0, e1, e2⟩ := ha p' cv z
          exact ⟨c0, e1, x1 _ _ e2 codeO_ne⟩
        · exact ⟨c', z, cC⟩
      · obtain ⟨ps', a1, a2, a3⟩ := hT p hp
        refine ⟨ps', by rw [← eH, upd_ne (ne_of_none a1 nC), upd_ne hb]; exact a1, a2, fun p' cv hcv => ?_⟩
        obtain ⟨c0, e1, e2⟩ := a3 p' cv hcv
        exact ⟨c0, e1, x1 _ _ e2 codeO_ne⟩
    have nF := I1.hok.fresh (Nat.le_refl _)
    refine h h'.objs.size c' _ _ (inv_lam (F := lamNF X params scope c') (e := body) (pm := (X.mg "__name__").getD .none) (ctv := ctv) (t' := tk) I1) (fun b o e n => ?_) (T1.ext fun b o e => ?_) upd_same ?_
    · have e1 := x1 b o e n
      exact (upd_ne (ne_of_none e1 nF)).trans e1
    · exact (upd_ne (ne_of_none e nF)).trans e
    · exact (upd_ne (Nat.ne_of_lt hlt)).trans cC
theorem dx_lam (hok : ∀ o, okp o → tblB o = false) (hok2 : ∀ p, ¬ okp (.ext p)) (TB : TabB X.base X.mg c Pt) (hcode : X.env.code = .ref c) (hm : (Pt, X.env.qual ++ "<lambda>") ∈ T) (hu : ∀ p ∈ T, p.1 = Pt → p.2 = X.env.qual ++ "<lambda>") (hdef : defaultsOf params X.env = ([], []))
    (hfree : ∀ y ∈ scope.names, y.2 = .free → X.env.scope.names.lookup y.1 = some .cell ∨ X.env.scope.names.lookup y.1 = some .free) : DX X (LkT okp T) W ff (.Lambda params body scope pos) (eLam (lamM X params body scope)) := by
  refine ⟨fun pins s σ H Q I h => ?_⟩
  obtain ⟨G, L, δ, R, RX, rel, r, q, qx⟩ := h
  refine lam_made I TB hcode hm hu rel.lk.2 hdef (fun y hy e => (hfree y hy e).elim (fun z => I.ok.has _ (.inl z)) fun z => I.ok.has _ (.inr z)) fun f c' H1 s' I1 eN T1 hf hco => ?_
  obtain ⟨st, lk⟩ := step_ext hok rel.lk eN T1
  have rel1 := rel.step st lk
  exact ⟨.ref f, H1, I1, rfl, q (.fn (kf0 H1 f c') f) (.ref f) L H1 (r _ f ⟨c', kf0_is (F := lamNF X params scope c') (b := .ex body) hf hco⟩) st rel1 ⟨⟨rfl, kf0_ok (F := lamNF X params scope c') (b := .ex body) hok2 rel1 hf hco⟩, fun _ z => nomatch z⟩⟩
/-! a nested def: the statements behind it know its mark M -/
variable {nbody rest : List Stmt}
@[simp] def sDef (i : Nat) (t : (Hp → Addr → Prop) → TDs) : TDs := fun δ E => ∀ M : Hp → Addr → Prop, ∀ kf f, M kf f → t M (δ.set i (some (.fn kf f))) E
def defNF (X : Cx) (name : Str) (params : Arguments) (nbody : List Stmt) (scope : Scope) (c' : Addr) : NF := ⟨name, X.env.qual ++ name, params, nbody, scope, cloFrom X.env.cells scope.names [], c'⟩
def defM (X : Cx) (name : Str) (params : Arguments) (nbody : List Stmt) (scope : Scope) : Hp → Addr → Prop := fun kf f => ∃ c', IsFn kf f (defNF X name params nbody scope c') .st
theorem ds_def {t : (Hp → Addr → Prop) → TDs} (i : Nat) (hok : ∀ o, okp o → tblB o = false) (hok2 : ∀ p, ¬ okp (.ext p)) (TB : TabB X.base X.mg c Pt) (hcode : X.env.code = .ref c) (hm : (Pt, X.env.qual ++ name) ∈ T) (hu : ∀ p ∈ T, p.1 = Pt → p.2 = X.env.qual ++ name)
    (hfree : ∀ y ∈ scope.names, y.2 = .free → X.env.scope.names.lookup y.1 = some .cell ∨ X.env.scope.names.lookup y.1 = some .free) (hd0 : params.defaults = []) (hk0 : params.kw_defaults = []) (ha : annTrees params none X.env = []) (hN : X.N.Nodup) (hr : Ds X (LkT okp T) W rest (t (defM X name params nbody scope)))
    (hi : X.N[i]? = some name := by rfl) (hx : Loc X.env.scope name := by first | exact Or.inl rfl | exact Or.inr rfl) (hf : X.fn name = true ∨ X.env.scope.names.lookup name = some .local := by first | exact .inl rfl | exact .inr rfl) :
    Ds X (LkT okp T) W (.FunctionDef name params nbody [] none [] scope none name pos :: rest) (sDef i t) :=
  pss_imp (pss_cons (ps_ndefM (T := T.map fun p => (p.1, fun _ _ => p.2)) (nm := fun _ _ => X.env.qual ++ name) (i := i) TB hcode (List.mem_map.mpr ⟨_, hm, rfl⟩) rfl (fun p hp e => by
      obtain ⟨p', h1, h2⟩ := List.mem_map.mp hp
      subst h2
      have := hu p' h1 e
      simp only [this]) hfree hd0 hk0 ha hN hi hx hf) hr) fun D σ H ⟨G, L, δ, E, rel, r, q⟩ => by
    refine ⟨fun p hp => by
      obtain ⟨p', h1, h2⟩ := List.mem_map.mp hp
      subst h2
      exact TabN.of (rel.lk.2 p' h1), fun f c' H1 eN nn T1 f0 f1 c1 => ?_⟩
    have T1' : Tabs T H1 := fun p hp => TabN.to (T1 _ (List.mem_map.mpr ⟨p, hp, rfl⟩))
    obtain ⟨st, lk⟩ := step_ext hok rel.lk eN T1'
    have rel1 := rel.step st lk
    have ok := kf0_ok (F := defNF X name params nbody scope c') (b := .st) hok2 rel1 f1 c1
    refine ⟨G, L, _, E, rel1.put (i := i) (v := .ref f) (sv := .fn (kf0 H1 f c') f) (Step.refl _ _) lk (fun z => nomatch z) ⟨rfl, ?_⟩, r _ _ f ⟨c', kf0_is (F := defNF X name params nbody scope c') (b := .st) f1 c1⟩, q⟩
    exact (ok.trans (nw_le _ _)).trans (fz_set rel1 rfl)
end
/-! ### handed to a def -/
def capOf : SV → Option SV
  | .d x => some (.d x)
  | .own xs => some (.d (.list xs))
  | .oK kvs => some (.rK kvs)
  | .oT kvs => some (.rT kvs)
  | .rK kvs => some (.rK kvs)
  | .rT kvs => some (.rT kvs)
  | .fn kf f => some (.fn kf f)
  | _ => none
@[simp] theorem capOf_d (x : PyData) : capOf (.d x) = some (.d x) := rfl
@[simp] theorem capOf_own (x : List PyData) : capOf (.own x) = some (.d (.list x)) := rfl
@[simp] theorem capOf_fn (kf : Hp) (f : Addr) : capOf (.fn kf f) = some (.fn kf f) := rfl
/-- the captured names' values -/
def capsD (δ : DS) : List Nat → (List SV → Prop) → Prop
  | [], R => R []
  | j :: js, R => svAt δ j fun s => match capOf s with
    | some c => capsD δ js fun cs => R (c :: cs)
    | none => False
@[simp] theorem capsD_nil (δ : DS) (R : List SV → Prop) : capsD δ [] R = R [] := rfl
@[simp] theorem capsD_cons (δ : DS) (j : Nat) (js : List Nat) (R : List SV → Prop) : capsD δ (j :: js) R = svAt δ j fun s => match capOf s with
    | some c => capsD δ js fun cs => R (c :: cs)
    | none => False := rfl
theorem capOf_ok {K : PySem.W.Frag} {M : Hp} {L : Ls} {v : V} {s c : SV} (e : capOf s = some c) (h : SvOk K M L v s) : ∀ L', SvOk K M L' v c ∧ isData c = true := fun L' => by
  cases s <;> simp [capOf] at e <;> subst e
  · exact ⟨h, rfl⟩
  · obtain ⟨a, vs, e, h1, h2⟩ := h
    subst e
    exact ⟨Dp.lst (SqL.of h1) h2, rfl⟩
  · exact ⟨h, rfl⟩
  · exact ⟨h, rfl⟩
  · exact ⟨h, rfl⟩
  · exact ⟨h, rfl⟩
  · exact ⟨h, rfl⟩
theorem capsD_ok {K : PySem.W.Frag} {LK : Lk} {G : Gd} {L : Ls} {δ : DS} {σ : L2.St} {H : Hp} (rel : Rel K LK G L δ σ H) : ∀ (js : List Nat) (R : List SV → Prop), capsD δ js R → ∃ wv caps, js.map (slotAt σ) = wv.map some ∧ (∀ L', Paired (fun v sv => SvOk K (hid L H) L' v sv ∧ isData sv = true) wv caps) ∧ R caps
  | [], R, h => ⟨[], [], rfl, fun _ => .nil, h⟩
  | j :: js, R, h => by
    obtain ⟨s, h1, h⟩ := svAt_out h
    obtain ⟨v, h2, h3⟩ := rel.sl j s h1
    split at h
    · rename_i c e
      obtain ⟨wv, caps, q1, q2, q3⟩ := capsD_ok rel js _ h
      refine ⟨v :: wv, c :: caps, ?_, fun L' => .cons (capOf_ok e (slot_b (fz_le _ _ _ _) h3) L') (q2 L'), q3⟩
      rw [List.map_cons, List.map_cons, q1, slotAt_of h2]
    · exact h.elim
/-- M marks a function that, over the frame's names js, keeps FF -/
def Maker (X : Cx) (LK : Lk) (kc : Nat) (M : Hp → Addr → Prop) (js : List Nat) (FF : List SV → FnD) : Prop := ∀ pins σ H s L kf f wv caps, Inv X pins σ H s → M kf f → Same kf (hid L H) → js.map (slotAt σ) = wv.map some → (∀ L', Paired (fun v sv => SvOk X.K (hid L H) L' v sv ∧ isData sv = true) wv caps) →
  CapR X.prog X.w X.K X.mg X.base LK kc s H (hid L H) f (FF caps)
def lamF (N : List Str) (tb : TDe) (caps : List SV) : FnD := fun x R => tb (startD N (.d x :: caps)) (fun sv => wD sv R) (fun _ => False)
def defF (N : List Str) (ts : TDs) (caps : List SV) : FnD := fun x R => ts (startD N (.d x :: caps)) { nx := fun _ => R .none, rt := fun _ sv => wD sv R, xc := fun _ _ => False }
section
variable {X : Cx} {LK : Lk} {W : WX} {params : Arguments} {body : Expr} {scope : Scope} {name p : Str} {N fr : List Str} {js : List Nat} {k : Nat} {tb : TDe} {nbody : List Stmt} {ts : TDs}
theorem maker_lam (S : NScope N [p] fr scope) (hnd : ndefB X.env.scope scope fr = true) (hjs : js.map (fun j => X.N[j]?) = fr.map some) (hbind : ∀ (q : Str) (cl : List (Str × Addr)) (pm cv ctv u : Value), bindArgs (PySem.W.kla_fn "<lambda>" q params body scope cl pm cv ctv) ⟨[u], []⟩ = pure [(p, u)])
    (hb : ∀ (q : Str) (cl : List (Str × Addr)) (c' f : Addr) (A : Around) (outer : List Env) (s : Shared) (H : Hp) (E : XK), Room k (A.deeper (envF ⟨"<lambda>", q, params, [], scope, cl, c'⟩ f s.heap.objs.size)) → DX (ncx CXF X.prog X.w X.K X.mg X.base N ⟨"<lambda>", q, params, [], scope, cl, c'⟩ f A outer s H E) LK (fun _ _ _ _ => False) fb body tb) :
    Maker X LK (k + 1) (lamM X params body scope) js (lamF N tb) := fun pins σ H s L kf f wv caps I ⟨c', is⟩ sm ew pa => by
  have is' : IsFn (hid L H) f (lamNF X params scope c') (.ex body) := ⟨sm _ _ is.fn, sm _ _ is.code⟩
  have C := cells_of I (Caps.made I.ok (ndef_free hnd) (ndef_fr hnd) hjs)
  rw [ew] at C
  exact capE is' S (fun pm ctv u => hbind _ _ _ _ _ _) C pa fun A outer s H E hr => hb _ _ c' f A outer s H E hr
theorem maker_def (S : NScope N [p] fr scope) (hnd : ndefB X.env.scope scope fr = true) (hjs : js.map (fun j => X.N[j]?) = fr.map some) (hbind : ∀ (F : NF) (doc pm ctv u : Value), F.params = params → F.scope = scope → F.body = nbody → bindArgs (F.fd doc pm ctv) ⟨[u], []⟩ = pure [(p, u)])
    (hb : ∀ (q : Str) (cl : List (Str × Addr)) (c' f : Addr) (A : Around) (outer : List Env) (s : Shared) (H : Hp) (E : XK), Room k (A.deeper (envF ⟨name, q, params, nbody, scope, cl, c'⟩ f s.heap.objs.size)) → Ds (ncx CXF X.prog X.w X.K X.mg X.base N ⟨name, q, params, nbody, scope, cl, c'⟩ f A outer s H E) LK (fun _ _ _ _ => False) nbody ts) :
    Maker X LK (k + 1) (defM X name params nbody scope) js (defF N ts) := fun pins σ H s L kf f wv caps I ⟨c', is⟩ sm ew pa => by
  have is' : IsFn (hid L H) f (defNF X name params nbody scope c') .st := ⟨sm _ _ is.fn, sm _ _ is.code⟩
  have C := cells_of I (Caps.made I.ok (ndef_free hnd) (ndef_fr hnd) hjs)
  rw [ew] at C
  exact capS is' S (fun doc pm ctv u => hbind _ _ _ _ _ rfl rfl rfl) C pa fun A outer s H E hr => hb _ _ c' f A outer s H E hr
variable {fl : Fl} {e : Expr} {es : List Expr} {tas : TDa} {pos p1 : Pos} {M : Hp → Addr → Prop} {FF : List SV → FnD} {CF : FnD → Ctr} {x : Str} {n j kc : Nat}
def fnToArg (j : Nat) (svs : List SV) : List SV := svs.map toArg
@[simp] def eCallF (n j : Nat) (js : List Nat) (FF : List SV → FnD) (CF : FnD → Ctr) (M : Hp → Addr → Prop) (tas : TDa) : TDe := fun δ R RX => tas δ (fun svs => svs.length = n ∧ (∃ kf f, svs[j]? = some (.fn kf f) ∧ M kf f) ∧ capsD δ js fun caps => ∀ kf f, CF (FF caps) ((svs.map toArg).set j (.fn kf f)) R RX) RX
/-- .. with a lambda made among the arguments -/
@[simp] def eCallL (n j : Nat) (js : List Nat) (FF : List SV → FnD) (CF : FnD → Ctr) (tas : (Hp → Addr → Prop) → TDa) : TDe := fun δ R RX => ∀ M : Hp → Addr → Prop, eCallF n j js FF CF M (tas M) δ R RX
theorem dx_callF {ps : List Str} (Fg : HasF X.prog X.w X.K X.mg X.base LK x k kc j ps CF) (mk : Maker X LK kc M js FF) (tk : Takes X W) (hr : Room k X.A) (hg : Gl X x) (ha : DA X LK W fb (e :: es) tas) (hn : ps.length = n := by rfl) (hdb : (x == ("__debug__" : Str)) = false := by decide) (he : starEach (e :: es) X.env = (false, eval e X.env) :: starEach es X.env := by rfl)
    (hpl : (backTo pos (starEach es X.env)).any (·.1) = false := by rfl) :
    DX X LK W ff (.Call (.Name x p1) (e :: es) [] pos) (eCallF n j js FF CF M tas) := by
  obtain ⟨fd, F, hb, hm, hk⟩ := Fg
  refine ⟨fun pins s σ H Q I h => ?_⟩
  obtain ⟨G, L, δ, R, RX, rel, r, q, qx⟩ := h
  refine wpAny_Call_Name_kw (ld_glob I hg hm ?_ hdb)
  refine PySem.W.callWith_K (h₀ := X.base) I.ok.mod.kin hk (thn (ha.run pos pins s σ H (fun vs H1 => ∃ svs L1, Step L H L1 H1 ∧ Rel X.K LK G L1 δ σ H1 ∧ ResA X.K G fb (hid L H) (fz L1 δ σ H1) (hid L1 H1) L1 vs svs ∧ svs.length = n ∧ (∃ kf f, svs[j]? = some (.fn kf f) ∧ M kf f) ∧ capsD δ js fun caps => ∀ kf f, CF (FF caps) ((svs.map toArg).set j (.fn kf f)) R RX) I ?_)
    fun us s1 ⟨vs, H1, I1, rv, svs, L1, st1, rel1, res1, hl, ⟨kf, f, hj, hM⟩, hc⟩ => ⟨I1.kIn, ?_⟩) he hpl
  · exact ⟨G, L, δ, _, _, rel, r, fun svs vs L1 H1 hw st1 rel1 res1 => ⟨svs, L1, st1, rel1, res1, hw⟩, fun x c d L' H' hx st lk ex => qx x c d L' H' hx st lk ex⟩
  · obtain ⟨wv, caps, ew, pa, hC⟩ := capsD_ok rel1 js _ hc
    have okj : ∃ v, vs[j]? = some v ∧ v = .ref f ∧ Same kf (hid L1 H1) := by
      obtain ⟨v, h1, h2⟩ := paired_get res1 hj
      have := h2.b (fz_le _ _ _ _)
      exact ⟨v, h1, this.1, this.2⟩
    obtain ⟨vj, hvj, evj, smj⟩ := okj
    have cap := mk pins σ H1 s1 L1 kf f wv caps I1 hM smj ew pa
    have hlv : vs.length = ps.length := by rw [hn]; exact (paired_len res1).trans hl
    have args : Paired (fun v sv => SvOk X.K (hid L1 H1) L1 v sv ∧ isData sv = true) vs (svs.map toArg) := paired_map (G := fun v sv => SvOk X.K (hid L1 H1) L1 v sv ∧ isData sv = true) (g := toArg) (fun v sv z => toArg_ok (z.b (fz_le _ _ _ _))) res1
    have args' : Paired (fun v sv => SvOk X.K (hid L1 H1) L1 v sv ∧ isData sv = true) vs ((svs.map toArg).set j (.fn (hid L1 H1) f)) := by
      have : ∀ {vs : List V} {ss : List SV} {j : Nat}, Paired (fun v sv => SvOk X.K (hid L1 H1) L1 v sv ∧ isData sv = true) vs ss → vs[j]? = some (.ref f) → Paired (fun v sv => SvOk X.K (hid L1 H1) L1 v sv ∧ isData sv = true) vs (ss.set j (.fn (hid L1 H1) f)) := by
        intro vs ss j h
        induction h generalizing j with
        | nil => intro z; simp at z
        | cons r t ih =>
          intro z
          cases j with
          | zero => simp at z; subst z; exact .cons ⟨⟨rfl, Same.refl _⟩, rfl⟩ t
          | succ j => exact .cons r (ih (by simpa using z))
      exact this args (by rw [hvj, evj])
    have hlu : us.length = ps.length := by rw [← rv.length]; exact hlv
    have hlt : j < (svs.map toArg).length := by
      have := (List.getElem?_eq_some_iff.mp hj).1
      simpa using this
    have b := hb s1 us I1.kIn (by rw [List.append_nil]; exact hlu)
    rw [List.append_nil] at b
    show wpAny _ _ (call _ us) _ _ _
    refine wpAny_call (codeAny_mono (F.run X.A X.stack s1 H1 ⟨us, []⟩ us vs Q (WE W σ) L1 _ R RX (hid L1 H1) f (FF caps) hr I1.env0 b rv hlv rel1.lk args' (List.getElem?_set_self hlt) cap (hC _ f)
      (fun sv v L2' H2 hR st2 lk ok => q sv v L2' H2 hR (st1.trans st2) (rel1.step st2 lk) ((new_res rel1 st2 ok).back st1)) (fun x c d L2' H2 hx st2 lk ex => qx x c d L2' H2 hx (st1.trans st2) lk (exOk_call rel1 ex))) fun r s' hq => ?_)
    cases r with
    | error e => exact passAt tk σ pins H1 s1 e s' I1 hq
    | ok fl =>
      cases fl with
      | ret u => exact I1.after hq
      | next => exact False.elim hq
      | brk => exact False.elim hq
      | cont => exact False.elim hq
theorem dx_callL {ps : List Str} {tas : (Hp → Addr → Prop) → TDa} (Fg : HasF X.prog X.w X.K X.mg X.base LK x k kc j ps CF) (mk : Maker X LK kc M js FF) (tk : Takes X W) (hr : Room k X.A) (hg : Gl X x) (ha : DA X LK W fb (e :: es) (tas M)) (hn : ps.length = n := by rfl) (hdb : (x == ("__debug__" : Str)) = false := by decide) (he : starEach (e :: es) X.env = (false, eval e X.env) :: starEach es X.env := by rfl)
    (hpl : (backTo pos (starEach es X.env)).any (·.1) = false := by rfl) :
    DX X LK W ff (.Call (.Name x p1) (e :: es) [] pos) (eCallL n j js FF CF tas) :=
  pe_imp (dx_callF Fg mk tk hr hg ha hn hdb he hpl) fun σ H Q ⟨G, L, δ, R, RX, rel, r, q⟩ => ⟨G, L, δ, R, RX, rel, r M, q⟩
end
end DL

namespace DL
open PySem PySem.Spec PyProof.Rows L2

/-! ### lists of ints that are loose: made, and written by one def -/
def intsD (ns : List Int) : List PyData := ns.map .int
theorem ints_v {K : PySem.W.Frag} {M : Hp} : ∀ {vs : List V} {ns : List Int}, DpAll K M vs (intsD ns) → vs = ns.map V.int
  | _, [], h => by cases h; rfl
  | _, n :: ns, h => by
    cases h with
    | cons h1 h2 => cases h1; rw [ints_v h2]; rfl
theorem ints_dp {K : PySem.W.Frag} {M : Hp} : ∀ (ns : List Int), DpAll K M (ns.map V.int) (intsD ns)
  | [] => .nil
  | n :: ns => .cons (.int n) (ints_dp ns)
/-- the loose things are lists of ints with okN -/
structure LkInts (LK : Lk) (okN : List Int → Prop) : Prop where
  out : ∀ o, LK.ok o → ∃ ns, o = .lst (ns.map V.int) ∧ okN ns
  into : ∀ ns, okN ns → LK.ok (.lst (ns.map V.int))
section
variable {X : Cx} {LK : Lk} {W : WX} {e : Expr} {ta : TDe} {okN : List Int → Prop}
/-- a new list becomes loose -/
@[simp] def eTok (okN : List Int → Prop) (ta : TDe) : TDe := fun δ R RX => ta δ (fun sv => (∃ ns, sv = .own (intsD ns) ∧ okN ns) ∧ R .tok) RX
theorem dx_tok (lk : LkInts LK okN) (he : DX X LK W ff e ta) : DX X LK W ff e (eTok okN ta) :=
  pe_imp he fun σ H Q ⟨G, L, δ, R, RX, rel, r, q, qx⟩ => ⟨G, L, δ, _, _, rel, r, fun sv v L' H' hw st rel' res => by
    obtain ⟨⟨ns, rfl, hn⟩, hR⟩ := hw
    obtain ⟨⟨a, vs, rfl, e1, e2⟩, fresh⟩ := res
    have na := fresh rfl rfl a rfl
    have hN := hid_le _ _ _ _ (fz_le _ _ _ _ _ _ (nw_le _ _ _ _ e1))
    have st2 : Step L H (fun b => L' b || decide (b = a)) H' := ⟨fun b o hb => by
      have hne : b ≠ a := fun z => by rw [z, na] at hb; cases hb
      have := st.1 _ _ hb
      exact hid_of (by simp [hid_nl this, hne]) (hid_le _ _ _ _ this) (hid_nt this), fun b hb => by simp [st.2 b hb]⟩
    have lk2 : LkOk LK (fun b => L' b || decide (b = a)) H' := ⟨fun b hb => by
      by_cases z : b = a
      · subst z
        exact ⟨_, hN, by rw [ints_v e2]; exact lk.into ns hn⟩
      · exact rel'.lk.1 b (by simpa [z] using hb), rel'.lk.2⟩
    exact q .tok (.ref a) _ H' hR st2 (rel.step st2 lk2) ⟨⟨a, rfl, by simp⟩, fun _ z => nomatch z⟩, qx⟩
end
section
variable {P : Program} {w : World} {K : PySem.W.Frag} {mg : Str → Option Value} {base : Heap} {LK : Lk} {okN : List Int → Prop}
/-- at the end the list stands well -/
def finT (okN : List Int → Prop) (b : Addr) (δ' : DS) (sv : SV) (R : SV → Prop) : Prop := ∃ ns, δ'[0]? = some (some (.tk b (intsD ns))) ∧ okN ns ∧ (∃ x, sv = .d x ∧ nolist x = true) ∧ R sv
theorem rel_startT {L : Ls} {N : List Str} {args : List SV} {vs : List V} {H : Hp} {b : Addr} {ns : List Int} (lk : LkOk LK L H) (lb : L b = true) (hb : H b = some (.lst (ns.map V.int))) (pa : Paired (fun v sv => SvOk K (hid L H) L v sv ∧ isData sv = true) vs args) (nt : ∀ s ∈ args, s ≠ .tok) :
    Rel K LK (gd1 L H) (fun a => L a && !decide (a = b)) (startD N (.tk b (intsD ns) :: args)) (L2.start N (.ref b :: vs)) H := by
  have get : ∀ {i sv}, (startD N (.tk b (intsD ns) :: args))[i]? = some (some sv) → (i = 0 ∧ sv = .tk b (intsD ns)) ∨ ∃ j, i = j + 1 ∧ args[j]? = some sv := fun {i sv} h => by
    have := startD_get h
    cases i with
    | zero => simp at this; exact .inl ⟨rfl, this.symm⟩
    | succ j => exact .inr ⟨j, rfl, by simpa using this⟩
  have gs : ∀ {j v}, vs[j]? = some v → (L2.start N (.ref b :: vs))[j + 1]? = some (some v) := fun {j v} h => by
    unfold L2.start
    rw [List.map_cons, List.cons_append, List.getElem?_cons_succ, List.getElem?_append_left (by rw [List.length_map]; exact (List.getElem?_eq_some_iff.mp h).1), List.getElem?_map, h]; rfl
  have own : ∀ a, OwnA (startD N (.tk b (intsD ns) :: args)) (L2.start N (.ref b :: vs)) a → a = b := by
    rintro a ⟨i, sv, h1, h2, h3⟩
    rcases get h1 with ⟨rfl, rfl⟩ | ⟨j, rfl, hj⟩
    · unfold L2.start at h3
      simp at h3; exact h3.symm
    · obtain ⟨v, _, _, hd⟩ := paired_get pa hj
      cases sv <;> simp [isOwn, isData] at h2 hd
  have nb : hid L H b = none := by
    cases z : hid L H b with
    | none => rfl
    | some o => have := hid_nl z; rw [lb] at this; cases this
  have same : Same (hid L H) (fz (fun a => L a && !decide (a = b)) (startD N (.tk b (intsD ns) :: args)) (L2.start N (.ref b :: vs)) H) := fun a o h => by
    have hne : a ≠ b := fun z => by rw [z, nb] at h; cases h
    exact fz_of (hid_of (by simp [hid_nl h]) (hid_le _ _ _ _ h) (hid_nt h)) fun z => hne (own a z)
  refine ⟨Same.refl _, same, ⟨fun a la => lk.1 a (by simp at la; exact la.1), lk.2⟩, fun i sv h => ?_, fun i j a si sj hij h1 h2 o1 o2 e1 e2 => ?_, ?_⟩
  · rcases get h with ⟨rfl, rfl⟩ | ⟨j, rfl, hj⟩
    · refine ⟨.ref b, by unfold L2.start; simp, _, rfl, hid_of (by simp) hb rfl, ints_dp ns⟩
    · obtain ⟨v, hv, ok, hd⟩ := paired_get pa hj
      refine ⟨v, gs hv, ?_⟩
      have ntk := nt sv (List.mem_of_getElem? hj)
      have ok2 := svOk_mono (L' := L) same (fun _ z => z) ok
      cases sv with
      | own _ => simp [isData] at hd
      | oK _ => simp [isData] at hd
      | oT _ => simp [isData] at hd
      | tk _ _ => simp [isData] at hd
      | tok => exact absurd rfl ntk
      | d _ => exact ok2
      | rK _ => exact ok2
      | rT _ => exact ok2
      | fn _ _ => exact ok2
      | xn _ _ _ _ => exact ok2
  · rcases get h1 with ⟨rfl, rfl⟩ | ⟨i', rfl, hi'⟩
    · rcases get h2 with ⟨rfl, rfl⟩ | ⟨j', rfl, hj'⟩
      · exact hij rfl
      · obtain ⟨v, _, _, hd⟩ := paired_get pa hj'
        cases sj <;> simp [isOwn, isData] at o2 hd
    · obtain ⟨v, _, _, hd⟩ := paired_get pa hi'
      cases si <;> simp [isOwn, isData] at o1 hd
  · unfold startD L2.start
    have := paired_len pa
    simp [this]
theorem fnT_ok {x qual : Str} {params : Arguments} {body : List Stmt} {scope : Scope} {dvs : List V} {kws : List (Str × V)} {f : Addr} {fd : FuncData} {N ps : List Str} {k : Nat} {C : Ctr} {ts : TDs} (lk : LkInts LK okN) (F : FunD K x qual params body scope dvs kws f fd) (S : FnScope N ps scope)
    (hb : ∀ (cdv : Value) (A : Around) (outer : List Env) (s : Shared) (H : Hp) (E : XK), Room k (A.deeper (envOfC qual scope s.heap.objs.size f cdv)) → Ds (cx P w K mg base N qual scope f cdv A outer s H E) LK (WD E) body ts)
    (hc : ∀ svs R RX, C svs R RX → ∃ args, svs = .tok :: args ∧ (∀ s ∈ args, s ≠ .tok) ∧ ∀ b ns, okN ns → ts (startD N (.tk b (intsD ns) :: args)) { nx := fun δ' => finT okN b δ' (.d .none) R, rt := fun δ' sv => finT okN b δ' sv R, xc := fun _ _ => False }) : FnOk P w K mg base (L2.CX P w) (k + 1) f fd ps (spD K LK ps.length C) := by
  refine F.ok S (fun vs H Q E ⟨_, _, _, _, h, _⟩ => h) fun cdv A outer s H vs Q E hr h => ⟨_, hb cdv A outer s H E hr, ?_⟩
  obtain ⟨L, svs, R, RX, hl, lkk, pa, hC, q, qx⟩ := h
  obtain ⟨args, rfl, nt, ht⟩ := hc svs R RX hC
  cases pa with
  | @cons v0 _ vs' _ p0 pa =>
    obtain ⟨⟨b, rfl, lb⟩, _⟩ := p0
    obtain ⟨o, hob, oko⟩ := lkk.1 b lb
    obtain ⟨ns, rfl, hn⟩ := lk.out o oko
    have out : ∀ (δ' : DS) (L' : Ls) (σ' : L2.St) (H' : Hp) (gk : Hp) (sv : SV) (v : V), finT okN b δ' sv R → (∀ a, (L a && !decide (a = b)) = true → L' a = true) → Rel K LK ⟨(gd1 L H).n, gk⟩ L' δ' σ' H' → SvOk K (nw (gd1 L H) (hid L' H')) L' v sv → Q v H' := fun δ' L' σ' H' gk sv v fin l rel ok => by
      obtain ⟨ns', h0, hn', ⟨x, rfl, nx⟩, hR⟩ := fin
      obtain ⟨vb, hσ, vs2, rfl, e1, e2⟩ := rel.sl 0 _ h0
      have eb : hid L' H' b = some (.lst (ns'.map V.int)) := by rw [e1, ints_v e2]
      have nb : hid L H b = none := by
        cases z : hid L H b with
        | none => rfl
        | some o => have := hid_nl z; rw [lb] at this; cases this
      have sm : Same (hid L H) (hid L' H') := rel.gF.trans (fz_le _ _ _ _)
      have st : Step L H (fun a => L' a || decide (a = b)) H' := ⟨fun a o h => by
        have hne : a ≠ b := fun z => by rw [z, nb] at h; cases h
        have := sm _ _ h
        exact hid_of (by simp [hid_nl this, hne]) (hid_le _ _ _ _ this) (hid_nt this), fun a la => by
        by_cases z : a = b
        · simp [z]
        · simp [l a (by simp [la, z])]⟩
      refine q (.d x) v _ H' hR st ⟨fun a la => ?_, rel.lk.2⟩ ?_
      · by_cases z : a = b
        · subst z
          exact ⟨_, hid_le _ _ _ _ eb, lk.into _ hn'⟩
        · exact rel.lk.1 a (by simpa [z] using la)
      · refine dp_nolist (fun a xs s => rd_sqT (fun c u mu e => ?_) s) _ _ nx ok
        have e' := nw_le _ _ _ _ e
        have hne : c ≠ b := fun z => by rw [z, eb] at e'; cases e'; cases mu
        exact nw_imm (hid_of (by simp [hid_nl e', hne]) (hid_le _ _ _ _ e') (hid_nt e')) mu
    exact ⟨gd1 L H, _, _, _, rel_startT lkk lb hob pa nt, ht b ns hn, ⟨fun δ' L' σ' H' h l rel => out δ' L' σ' H' _ _ _ h l rel Dp.non, fun _ _ _ _ h => h.elim, fun _ _ _ _ h => h.elim, fun sv v δ' L' σ' H' gk h l rel ok => out δ' L' σ' H' gk sv v h l rel ok, fun _ _ _ _ _ _ _ h => h.elim⟩⟩
end
end DL

namespace DL
open PySem PySem.Spec PyProof.Rows L2

/-! ### methods of texts -/
def isStrV (sv : SV) : Bool := match sv with
  | .d (.str _) => true
  | _ => false
@[simp] theorem isStrV_str (s : Str) : isStrV (.d (.str s)) = true := rfl
theorem isStrV_ok {K : PySem.W.Frag} {M : Hp} {L : Ls} {v : V} {sv : SV} (h : isStrV sv = true) (o : SvOk K M L v sv) : ∃ a, v = .str a ∧ sv = .d (.str a) := by
  unfold isStrV at h
  split at h
  · cases o; exact ⟨_, rfl, rfl⟩
  · cases h
section
variable {X : Cx} {LK : Lk} {W : WX} {fl fa fb' : Fl} {e a b c o : Expr} {es : List Expr} {pos p apos : Pos} {ta tb tc : TDe} {tt tu : TDt} {tas : TDa}
@[simp] def eSm (g : SV → SV → (SV → Prop) → Prop) (ta tb : TDe) : TDe := fun δ R RX => ta δ (fun x => isStrV x = true ∧ tb δ (fun y => g x y R) RX) RX
theorem dx_sm {id : String} {name : Str} {r : V → List V → Hp → VK → Prop} {g : SV → SV → (SV → Prop) → Prop} (slot : Slot "str" name id) (ty : typeOf (.builtin id) = pure (.type "method_descriptor")) (rule : MtR X id r) (ad : Adeq X LK (fun x y H Q => r x [y] H Q) g) (ho : DX X LK W fa o ta) (he : DX X LK W fb' e tb)
    (hs : starEach [e] X.env = [(false, eval e X.env)] := by rfl) (hbase : attributeBase o name X.env (eval o X.env) = eval o X.env := by rfl) (hline : (apos.endLine == pos.line) = true := by rfl) :
    DX X LK W ff (.Call (.Attribute o name apos) [e] [] pos) (eSm g ta tb) :=
  pe_imp (pe_m1 slot ty rule ho he hs hbase hline) fun σ H Q ⟨G, L, δ, R, RX, rel, r, q, qx⟩ => ⟨G, L, δ, _, _, rel, r, fun sx x L1 H1 hw st1 rel1 res1 => by
    obtain ⟨hs, hw⟩ := hw
    obtain ⟨s, e1, e2⟩ := isStrV_ok hs res1.1
    refine ⟨⟨s, e1⟩, G, L1, δ, _, _, rel1, hw, fun sy y L2' H2 hw2 st2 rel2 res2 => ?_, fun x c d L' H' h st lk ex => qx x c d L' H' h (st1.trans st) lk ex⟩
    exact ad G L2' δ σ H2 x y sx sy R Q rel2 ((res1.step st2).b (fz_le _ _ _ _)) (res2.b (fz_le _ _ _ _)) hw2 fun sz z H3 hz st3 rel3 res3 => q sz z L2' H3 hz (st1.trans (st2.trans st3)) rel3 (Res.back res3 (st1.trans st2)), fun x c d L' H' h st lk ex => qx x c d L' H' h st lk ex⟩
def ssI (f : Str → Str → Int) : BinD := fun x y R => match x, y with
  | .str i, .str j => R (.d (.int (f i j)))
  | _, _ => False
def ssB (f : Str → Str → Bool) : BinD := fun x y R => match x, y with
  | .str i, .str j => R (.d (.bool (f i j)))
  | _, _ => False
def indexD : BinD := fun x y R => match x, y with
  | .str i, .str j => ∃ k rest, Builtin.Str.occurrences i j 0 i.length 1 = k :: rest ∧ R (.d (.int (k : Nat)))
  | _, _ => False
@[simp] theorem ssI_str (f : Str → Str → Int) (i j : Str) (R : SV → Prop) : ssI f (.str i) (.str j) R = R (.d (.int (f i j))) := rfl
@[simp] theorem ssB_str (f : Str → Str → Bool) (i j : Str) (R : SV → Prop) : ssB f (.str i) (.str j) R = R (.d (.bool (f i j))) := rfl
@[simp] theorem indexD_str (i j : Str) (R : SV → Prop) : indexD (.str i) (.str j) R = ∃ k rest, Builtin.Str.occurrences i j 0 i.length 1 = k :: rest ∧ R (.d (.int (k : Nat))) := rfl
theorem adeq_ss {r : R2} {g : BinD} (hr : ∀ i j H (Q : VK) R, g (.str i) (.str j) R → (∀ z v, R (.d z) → (∀ M, Dp X.K M v z) → Q v H) → r (.str i) (.str j) H Q) (hn : ∀ x y R, g x y R → ∃ i j, x = .str i ∧ y = .str j) : Adeq X LK r (opD g) := fun G L δ σ H x y sx sy R Q rel hx hy h q => by
  obtain ⟨dx, ex, k⟩ := wD_out h
  clear h
  obtain ⟨dy, ey, h⟩ := wD_out k
  clear k
  have h1 := asD_ok ex hx
  have h2 := asD_ok ey hy
  obtain ⟨i, j, rfl, rfl⟩ := hn _ _ _ h
  cases h1; cases h2
  exact hr i j H Q R h fun z v hz hv => q (.d z) v H hz (Step.refl _ _) rel ⟨hv _, fun _ z => nomatch z⟩
theorem ss_only {g : BinD} (h : ∀ x y R, g x y R → (match x, y with | .str _, .str _ => True | _, _ => False)) : ∀ x y R, g x y R → ∃ i j, x = .str i ∧ y = .str j := fun x y R k => by
  have := h x y R k
  split at this
  · exact ⟨_, _, rfl, rfl⟩
  · exact this.elim
theorem ssI_only {f : Str → Str → Int} : ∀ x y R, ssI f x y R → ∃ i j, x = .str i ∧ y = .str j := ss_only fun x y R k => by
  unfold ssI at k
  split at k
  · trivial
  · exact k.elim
theorem ssB_only {f : Str → Str → Bool} : ∀ x y R, ssB f x y R → ∃ i j, x = .str i ∧ y = .str j := ss_only fun x y R k => by
  unfold ssB at k
  split at k
  · trivial
  · exact k.elim
theorem index_only : ∀ x y R, indexD x y R → ∃ i j, x = .str i ∧ y = .str j := ss_only fun x y R k => by
  unfold indexD at k
  split at k
  · trivial
  · exact k.elim
theorem dx_find (ho : DX X LK W fa o ta) (he : DX X LK W fb' e tb) (hs : starEach [e] X.env = [(false, eval e X.env)] := by rfl) (hbase : attributeBase o "find" X.env (eval o X.env) = eval o X.env := by rfl) (hline : (apos.endLine == pos.line) = true := by rfl) : DX X LK W ff (.Call (.Attribute o "find" apos) [e] [] pos) (eSm (opD (ssI Txt.find)) ta tb) :=
  dx_sm F.slot_str_find F.type_str_find mt_find (adeq_ss (fun i j H Q R h q => ⟨i, j, rfl, rfl, q _ _ h fun _ => Dp.int _⟩) ssI_only) ho he hs hbase hline
theorem dx_rfind (ho : DX X LK W fa o ta) (he : DX X LK W fb' e tb) (hs : starEach [e] X.env = [(false, eval e X.env)] := by rfl) (hbase : attributeBase o "rfind" X.env (eval o X.env) = eval o X.env := by rfl) (hline : (apos.endLine == pos.line) = true := by rfl) : DX X LK W ff (.Call (.Attribute o "rfind" apos) [e] [] pos) (eSm (opD (ssI Txt.rfind)) ta tb) :=
  dx_sm F.slot_str_rfind F.type_str_rfind mt_rfind (adeq_ss (fun i j H Q R h q => ⟨i, j, rfl, rfl, q _ _ h fun _ => Dp.int _⟩) ssI_only) ho he hs hbase hline
theorem dx_count (ho : DX X LK W fa o ta) (he : DX X LK W fb' e tb) (hs : starEach [e] X.env = [(false, eval e X.env)] := by rfl) (hbase : attributeBase o "count" X.env (eval o X.env) = eval o X.env := by rfl) (hline : (apos.endLine == pos.line) = true := by rfl) : DX X LK W ff (.Call (.Attribute o "count" apos) [e] [] pos) (eSm (opD (ssI Txt.count)) ta tb) :=
  dx_sm F.slot_str_count F.type_str_count mt_count (adeq_ss (fun i j H Q R h q => ⟨i, j, rfl, rfl, q _ _ h fun _ => Dp.int _⟩) ssI_only) ho he hs hbase hline
theorem dx_startswith (ho : DX X LK W fa o ta) (he : DX X LK W fb' e tb) (hs : starEach [e] X.env = [(false, eval e X.env)] := by rfl) (hbase : attributeBase o "startswith" X.env (eval o X.env) = eval o X.env := by rfl) (hline : (apos.endLine == pos.line) = true := by rfl) : DX X LK W ff (.Call (.Attribute o "startswith" apos) [e] [] pos) (eSm (opD (ssB Txt.startswith)) ta tb) :=
  dx_sm F.slot_str_startswith F.type_str_startswith mt_startswith (adeq_ss (fun i j H Q R h q => ⟨i, j, rfl, rfl, q _ _ h fun _ => Dp.bl _⟩) ssB_only) ho he hs hbase hline
theorem dx_endswith (ho : DX X LK W fa o ta) (he : DX X LK W fb' e tb) (hs : starEach [e] X.env = [(false, eval e X.env)] := by rfl) (hbase : attributeBase o "endswith" X.env (eval o X.env) = eval o X.env := by rfl) (hline : (apos.endLine == pos.line) = true := by rfl) : DX X LK W ff (.Call (.Attribute o "endswith" apos) [e] [] pos) (eSm (opD (ssB Txt.endswith)) ta tb) :=
  dx_sm F.slot_str_endswith F.type_str_endswith mt_endswith (adeq_ss (fun i j H Q R h q => ⟨i, j, rfl, rfl, q _ _ h fun _ => Dp.bl _⟩) ssB_only) ho he hs hbase hline
theorem dx_index (ho : DX X LK W fa o ta) (he : DX X LK W fb' e tb) (hs : starEach [e] X.env = [(false, eval e X.env)] := by rfl) (hbase : attributeBase o "index" X.env (eval o X.env) = eval o X.env := by rfl) (hline : (apos.endLine == pos.line) = true := by rfl) : DX X LK W ff (.Call (.Attribute o "index" apos) [e] [] pos) (eSm (opD indexD) ta tb) :=
  dx_sm F.slot_str_index F.type_str_index mt_sindex (adeq_ss (fun i j H Q R ⟨k, rest, h0, h⟩ q => ⟨i, j, k, rest, rfl, rfl, h0, q _ _ h fun _ => Dp.int _⟩) index_only) ho he hs hbase hline
/-! join, split -/
def strsD : List PyData → Option (List Str)
  | [] => some []
  | .str s :: r => (strsD r).map (s :: ·)
  | _ :: _ => none
@[simp] theorem strsD_nil : strsD [] = some [] := rfl
theorem strsD_map (l : List Str) : strsD (l.map .str) = some l := by
  induction l with
  | nil => rfl
  | cons s r ih => simp [strsD, ih]
theorem strsD_ok {K : PySem.W.Frag} {M : Hp} : ∀ {vs : List V} {ds : List PyData} {ys : List Str}, DpAll K M vs ds → strsD ds = some ys → vs = ys.map V.str
  | _, [], ys, h, e => by cases h; simp [strsD] at e; subst e; rfl
  | _, d :: ds, ys, h, e => by
    cases h with
    | cons h1 h2 =>
      cases d <;> simp [strsD] at e
      obtain ⟨zs, e1, e2⟩ := e
      subst e2
      cases h1
      rw [strsD_ok h2 e1]; rfl
def joinV (x y : SV) (R : SV → Prop) : Prop := wD x fun d => wD y fun e => match d, e with
  | .str i, .list ds => ∃ ys, strsD ds = some ys ∧ (ys.map (·.length)).sum + ys.length * i.length ≤ 16777216 ∧ R (.d (.str (Txt.join i ys)))
  | .str i, .tuple ds => ∃ ys, strsD ds = some ys ∧ (ys.map (·.length)).sum + ys.length * i.length ≤ 16777216 ∧ R (.d (.str (Txt.join i ys)))
  | _, _ => False
@[simp] theorem joinV_own (i : Str) (ds : List PyData) (R : SV → Prop) : joinV (.d (.str i)) (.own ds) R = ∃ ys, strsD ds = some ys ∧ (ys.map (·.length)).sum + ys.length * i.length ≤ 16777216 ∧ R (.d (.str (Txt.join i ys))) := rfl
theorem dx_join (ho : DX X LK W fa o ta) (he : DX X LK W fb' e tb) (hs : starEach [e] X.env = [(false, eval e X.env)] := by rfl) (hbase : attributeBase o "join" X.env (eval o X.env) = eval o X.env := by rfl) (hline : (apos.endLine == pos.line) = true := by rfl) : DX X LK W ff (.Call (.Attribute o "join" apos) [e] [] pos) (eSm joinV ta tb) :=
  dx_sm F.slot_str_join F.type_str_join mt_join (fun G L δ σ H x y sx sy R Q rel hx hy h q => by
    obtain ⟨dx, ex, k⟩ := wD_out h
    clear h
    obtain ⟨dy, ey, h⟩ := wD_out k
    clear k
    have h1 := asD_ok ex hx
    have h2 := asD_ok ey hy
    cases h1 <;> first | exact h.elim | skip
    cases h2 <;> first | exact h.elim | skip
    · obtain ⟨ys, e1, e2, e3⟩ := h
      rename_i s d
      exact ⟨_, _, ys, rfl, rfl, .inl (by rw [← strsD_ok d e1]; exact hid_sqL s), e2, q _ _ H e3 (Step.refl _ _) rel (res_sc fun _ => Dp.str _)⟩
    · obtain ⟨ys, e1, e2, e3⟩ := h
      rename_i s d
      exact ⟨_, _, ys, rfl, rfl, .inr (by rw [← strsD_ok d e1]; exact hid_sqT s), e2, q _ _ H e3 (Step.refl _ _) rel (res_sc fun _ => Dp.str _)⟩) ho he hs hbase hline
theorem dp_strs {K : PySem.W.Frag} {M : Hp} : ∀ (l : List Str), DpAll K M (l.map V.str) (l.map .str)
  | [] => .nil
  | s :: r => .cons (.str s) (dp_strs r)
def splitV (x y : SV) (R : SV → Prop) : Prop := wD x fun d => wD y fun e => match d, e with
  | .str i, .str j => (j.length == 0) = false ∧ i.length + 2 ≤ sizeLine ∧ R (.own ((Txt.split i j).map .str))
  | _, _ => False
@[simp] theorem splitV_str (i j : Str) (R : SV → Prop) : splitV (.d (.str i)) (.d (.str j)) R = ((j.length == 0) = false ∧ i.length + 2 ≤ sizeLine ∧ R (.own ((Txt.split i j).map .str))) := rfl
theorem dx_split (ho : DX X LK W fa o ta) (he : DX X LK W fb' e tb) (hs : starEach [e] X.env = [(false, eval e X.env)] := by rfl) (hbase : attributeBase o "split" X.env (eval o X.env) = eval o X.env := by rfl) (hline : (apos.endLine == pos.line) = true := by rfl) : DX X LK W ff (.Call (.Attribute o "split" apos) [e] [] pos) (eSm splitV ta tb) :=
  dx_sm F.slot_str_split F.type_str_split mt_split (fun G L δ σ H x y sx sy R Q rel hx hy h q => by
    obtain ⟨dx, ex, k⟩ := wD_out h
    clear h
    obtain ⟨dy, ey, h⟩ := wD_out k
    clear k
    have h1 := asD_ok ex hx
    have h2 := asD_ok ey hy
    cases h1 <;> cases h2 <;> first | exact h.elim | skip
    obtain ⟨e1, e2, e3⟩ := h
    exact ⟨_, _, rfl, rfl, e1, e2, fun p hp => q _ _ _ e3 (rel.stepNew hp) (rel.new hp) (res_new rel hp ⟨p, _, rfl, new_at rel hp, dp_strs _⟩)⟩) ho he hs hbase hline
/-! powers of constants, int of a text -/
def powD : BinD := fun x y R => match x, y with | .int i, .int j => CPow i j ∧ R (.d (.int (i ^ j.toNat))) | _, _ => False
@[simp] theorem powD_int (i j : Int) (R : SV → Prop) : powD (.int i) (.int j) R = (CPow i j ∧ R (.d (.int (i ^ j.toNat)))) := rfl
theorem dx_pow (ha : DX X LK W fa a ta) (hb : DX X LK W fb' b tb) : DX X LK W ff (.BinOp a .Pow b pos) (eB (opD powD) ta tb) :=
  pe_imp (pe_op op_pow ha hb) fun _ _ _ h => tOp_dx (adeq_int (C := CPow) (g := fun i j => .int (i ^ j.toNat)) (gd := fun i j => .int (i ^ j.toNat)) (fun _ _ _ => Dp.int _)) h
end
end DL

namespace DL
open PySem PySem.Spec PyProof.Rows L2

theorem Room.u1 {k : Nat} {A : Around} (r : Room k A) : A.units + 1 < cLine := by have := r.un; omega
@[simp] def eDNewK : TDe := fun _ R _ => R (.oK [])
@[simp] def augA : SV → SV → (SV → Prop) → Prop := fun a b R => match a, b with | .d (.int i), .d (.int j) => R (.d (.int (i + j))) | _, _ => False
@[simp] def augS : SV → SV → (SV → Prop) → Prop := fun a b R => match a, b with | .d (.int i), .d (.int j) => R (.d (.int (i - j))) | _, _ => False
/-! ### a def that makes functions: its code object is known -/
section
variable {P : Program} {w : World} {K : PySem.W.Frag} {mg : Str → Option Value} {base : Heap} {LK : Lk}
theorem fn_okC {p : He.Defn} {x qual : Str} {params : Arguments} {body : List Stmt} {scope : Scope} {dvs : List V} {kws : List (Str × V)} {fd : FuncData} {N ps : List Str} {k : Nat} {C : Ctr} {ts : TDs} (F : FunD K x qual params body scope dvs kws (He.fAd K p) fd) (S : FnScope N ps scope)
    (hb : ∀ (A : Around) (outer : List Env) (s : Shared) (H : Hp) (E : XK), Room k (A.deeper (envOfC qual scope s.heap.objs.size (He.fAd K p) (.ref (He.codeOf K p)))) → Ds (cx P w K mg base N qual scope (He.fAd K p) (.ref (He.codeOf K p)) A outer s H E) LK (WD E) body ts)
    (hc : ∀ args R RX, args.length = ps.length → C args R RX → ts (startD N args) { nx := fun _ => R (.d .none), rt := fun _ => R, xc := fun _ => RX }) : FnOk P w K mg base (L2.CX P w) (k + 1) (He.fAd K p) fd ps (spD K LK ps.length C) := by
  obtain ⟨oc, od, dV, kV, doc, pm, an, cdv, ct, osl, rfl, lk, hcd, _, _⟩ := F.ex
  obtain ⟨c, rfl⟩ := He.codeIn_ref hcd
  have e : He.codeOf K p = c := He.codeOf_eq lk rfl
  subst e
  refine fn_of lk hcd S (fun vs H Q E ⟨_, _, _, _, h, _⟩ => h) fun A outer s H vs Q E hr h => ⟨_, hb A outer s H E hr, ?_⟩
  obtain ⟨L, args, R, RX, hl, lk, pa, hC, q, qx⟩ := h
  refine ⟨gd1 L H, L, startD N args, _, rel_start lk pa, hc args R RX ((paired_len pa).symm.trans hl) hC, ⟨fun δ' L' σ' H' h l rel => ?_, fun _ _ _ _ h => h.elim, fun _ _ _ _ h => h.elim, fun sv v δ' L' σ' H' gk h l rel ok => ?_, fun x c d δ' L' σ' H' h l rel ex => ?_⟩⟩
  · exact q _ _ L' H' h ⟨rel.gF.trans (fz_le _ _ _ _), l⟩ rel.lk Dp.non
  · exact q _ _ L' H' h ⟨rel.gF.trans (fz_le _ _ _ _), l⟩ rel.lk ok
  · exact qx x c d L' H' h ⟨rel.gF.trans (fz_le _ _ _ _), l⟩ rel.lk ex
theorem tab_u {T : List (Addr × Str)} {P : Addr} {q : Str} (nd : (T.map (·.1)).Nodup) (hm : (P, q) ∈ T) : ∀ p ∈ T, p.1 = P → p.2 = q := by
  induction T with
  | nil => cases hm
  | cons t r ih =>
    rw [List.map_cons, List.nodup_cons] at nd
    intro p hp e
    rcases List.mem_cons.mp hp with rfl | hp2
    · rcases List.mem_cons.mp hm with h | h
      · rw [← h]
      · exact absurd (List.mem_map.mpr ⟨_, h, e.symm⟩) nd.1
    · rcases List.mem_cons.mp hm with h | h
      · subst h
        exact (nd.1 (List.mem_map.mpr ⟨p, hp2, e⟩)).elim
      · exact ih nd.2 h p hp2 e
end
/-! ### enumerate -/
section
set_option maxHeartbeats 1000000 in
theorem meets_enum1 {v : Value} {o : Obj} {H : Heap → Prop} (B : Begins v o H) :
    Meets (Builtin.«enumerate.__new__» ⟨[.type "enumerate", v], []⟩) (fun _ R s => H s.heap ∧
      R (.ok (.ret (.ref (s.heap.push o).objs.size))) { s with heap := (s.heap.push o).push { cls := .type "enumerate", data := .fields #[.none, .bool false, .ref s.heap.objs.size, rawInt 0, .none, .none] } }) :=
  .of_wp fun prog w A R s h => by
    obtain ⟨hp, g, d, tk, os⟩ := s
    obtain ⟨h1, h⟩ := h
    have hsub := sub_enumerate
    have q1 : ∀ {A' : Around} {E : Value → Shared → Prop} {Q : Value → Shared → Prop}, Q (.ref hp.objs.size) ⟨hp.push o, g, d, tk, os⟩ → wpAny (model prog w) A' (pyIter v) Q E ⟨hp, g, d, tk, os⟩ := fun q => B.iter prog w _ _ ⟨hp, g, d, tk, os⟩ _ h1 q
    wp_walk using q1
    refine wpAny_stack_any fun st => wpAny_pure ?_
    split
    · rename_i c _ _ _ _ _
      cases (c == Value.type "enumerate") <;> (wp_walk using q1; exact ⟨_, rfl, h⟩)
    · wp_walk using q1
      exact ⟨_, rfl, h⟩
theorem enum1_begins {prog : Program} {w : World} {A : Around} {E : Value → Shared → Prop} {s : Shared} {v : Value} {o : Obj} {H : Heap → Prop} {Q : Value → Shared → Prop} (B : Begins v o H) (h1 : H s.heap)
    (h : ∀ h', IsEnum h' (s.heap.objs.size + 1) s.heap.objs.size 0 .none → h'.get? s.heap.objs.size = some o → (∀ b o, s.heap.get? b = some o → h'.get? b = some o) → Q (.ref (s.heap.objs.size + 1)) { s with heap := h' }) :
    wpAny (model prog w) A (call (.type "enumerate") [v]) Q E s := by
  refine callType_new F.called_enumerate (by decide) (F.typeCall_enumerate_1 _) (F.newCall_enumerate_1 _) (fun obj => F.args_object_init_2 obj _) F.entry_enumerate_new (meets_enum1 B) ⟨h1, ?_⟩
  have hz : (s.heap.push o).objs.size = s.heap.objs.size + 1 := Heap.size_push ..
  have he : IsEnum ((s.heap.push o).push { cls := .type "enumerate", data := .fields #[.none, .bool false, .ref s.heap.objs.size, rawInt 0, .none, .none] }) (s.heap.objs.size + 1) s.heap.objs.size 0 .none := by
    have := Heap.get?_push_size (s.heap.push o) (o := { cls := .type "enumerate", data := .fields #[.none, .bool false, .ref s.heap.objs.size, rawInt 0, .none, .none] }) rfl
    rw [hz] at this
    exact this
  show _ ∧ _
  rw [hz]
  exact ⟨⟨_, he, rfl⟩, h _ he (Heap.get?_push_of_some _ (Heap.get?_push_size _ B.free)) fun b o x => Heap.get?_push_of_some _ (Heap.get?_push_of_some _ x)⟩
/-- the tuple at a, each item in a new pair -/
def IteT (K : PySem.W.Frag) (a : Addr) : It :=
  ⟨fun i H => ∃ (xs : List V) (x : V), SqT K H a xs ∧ xs[i]? = some x, fun i H v H' => ∃ T x, v = .ref T ∧ H T = none ∧ H' = upd H T (.tup [.int (i : Nat), x]) ∧ ∀ xs, SqT K H a xs → xs[i]? = some x, fun i H => ∃ xs : List V, SqT K H a xs ∧ xs.length = i⟩
theorem tup_ne_it {h : Heap} {a it t : Addr} {i : Nat} {its : Array Value} (p : h.IsTuple a its) (q : h.IsTupleIter it t i) : a ≠ it := fun z => by
  obtain ⟨o, e, c, _⟩ := p
  obtain ⟨o', e', c', _⟩ := q
  rw [z, e'] at e
  cases e
  rw [c] at c'
  exact absurd (Value.type.inj c') (by decide)
theorem tup_ne_en {h : Heap} {a e it : Addr} {i : Int} {old : Value} {its : Array Value} (p : h.IsTuple a its) (q : IsEnum h e it i old) : a ≠ e := fun z => by
  obtain ⟨o, e1, c, _⟩ := p
  rw [z] at e1
  have q' : h.get? e = some _ := q
  rw [q'] at e1
  cases e1
  exact absurd (Value.type.inj c) (by decide)
theorem turn_enumT {P : Program} {w : World} {K : PySem.W.Frag} {elts : List Expr} {kk : Nat} {tpos : Pos} (a e it : Addr) :
    Turn P w K (.Tuple elts kk tpos) (IteT K a) [e, it] e (fun i h => (∃ old, IsEnum h e it ((i : Nat) : Int) old) ∧ h.IsTupleIter it a i ∧ e ≠ it) where
  mem := by simp
  obj := fun i h st b hb => by
    obtain ⟨⟨old, he⟩, ⟨o, ho, hc, hd⟩, _⟩ := st
    rcases (show b = e ∨ b = it by simpa using hb) with rfl | rfl
    · exact ⟨_, he, fun v q => nomatch q⟩
    · exact ⟨o, ho, fun v q => by rw [hd] at q; cases q⟩
  keep := fun i h h' st k => ⟨⟨_, k e (by simp) _ st.1.choose_spec⟩, st.2.1.at fun o q => k it (by simp) o q, st.2.2⟩
  item := by
    intro X hP hw hK hc i pins s σ H E I hf st hg
    subst hP hw hK
    obtain ⟨⟨old, he⟩, hit, hne⟩ := st
    obtain ⟨xs, x, hq, hx⟩ := hg
    obtain ⟨its, rv, p, hz⟩ := I.tuple hq
    have pt : s.heap.IsTuple a its.toArray := p
    obtain ⟨u, hu, ru⟩ := rv.get hx
    have hel : e < s.heap.objs.size := Heap.lt_size he
    have hil : it < s.heap.objs.size := by obtain ⟨_, q, _⟩ := hit; exact Heap.lt_size q
    have ai := tup_ne_it pt hit
    have ae := tup_ne_en pt he
    have hlt : i < its.toArray.size := by
      have := (List.getElem?_eq_some_iff.mp hu).1
      simpa using this
    have hd : X.A.in1.handled = none := I.ok.hd hc
    refine wpAny_pyNext_enum_itemD (Draws.tuple (prog := X.prog) (w := X.w) hd it a ai its.toArray) he ⟨hit, pt⟩ hlt hne (by simp [hne, Ne.symm ae]) fun x' h' tk hx' ho hst' hT hsz hk => ?_
    have ex : x' = u := by
      have h1 : its[i]? = some x' := by simpa using hx'
      rw [hu] at h1
      exact (Option.some.inj h1).symm
    subst ex
    refine ⟨_, rfl, wpAny_letOwnedTupleGo_enum (s := { s with heap := h', toks := tk + 1 }) ho fun h'' he' sb => ?_⟩
    have hT2 := (sb.2 _ (Nat.ne_of_gt hel)).trans hT
    have new : ObjOk X.prog X.w (upd H s.heap.objs.size (.tup [.int (i : Nat), x])) h'' s.heap.objs.size (.tup [.int (i : Nat), x]) :=
      ⟨by show 2 ≤ sizeLine; decide, [.int i tk, x'], .cons ⟨_, rfl⟩ (.cons ru .nil), ⟨_, hT2, rfl, _, rfl⟩⟩
    have I1 : Inv X pins σ (upd H s.heap.objs.size (.tup [.int (i : Nat), x])) { s with heap := h'', toks := tk + 1 } :=
      I.turnedNew (ch := [e, it]) (fun b ob hb q => (sb.2 b (fun z => hb (by simp [z]))).trans (hk b ob (fun z => hb (by simp [z])) (fun z => hb (by simp [z])) q)) hf (Nat.le_refl _) new
    refine ⟨.ref s.heap.objs.size, _, I1, rfl, ⟨_, x, rfl, I.hok.fresh (Nat.le_refl _), rfl, fun ys hy => by rw [I.tuple_inj hy hq]; exact hx⟩, ⟨⟨x', ?_⟩, hst'.1.at fun o q => (sb.2 it (Ne.symm hne)).trans q, hne⟩, fun b hb => ?_⟩
    · rw [show ((i + 1 : Nat) : Int) = (i : Int) + 1 by omega]
      exact he'
    · have hb' : b < s.heap.objs.size := by
        rcases (show b = e ∨ b = it by simpa using hb) with rfl | rfl
        · exact hel
        · exact hil
      rw [upd_ne (Nat.ne_of_lt hb')]
      exact (hf b hb).1
  done := by
    intro X hP hw hK hc i pins s σ H E I hf st hg
    subst hP hw hK
    obtain ⟨⟨old, he⟩, hit, hne⟩ := st
    obtain ⟨xs, hq, hx⟩ := hg
    obtain ⟨its, rv, p, hz⟩ := I.tuple hq
    have pt : s.heap.IsTuple a its.toArray := p
    obtain ⟨f0, f1, f2, f3, f4, f5⟩ := hf it (by simp)
    have hl := rv.length
    subst hx
    have hit' : s.heap.IsTupleIter it a its.toArray.size := by
      have e : its.toArray.size = xs.length := by simp [hl]
      rw [e]; exact hit
    exact wpAny_pyNext_enum_endD (Draws.tuple (prog := X.prog) (w := X.w) (A := X.A.in1) (I.ok.hd hc) it a (tup_ne_it pt hit) its.toArray) he ⟨hit', pt⟩ fun h' eb => ⟨rfl, I.turned (t' := s.toks) (fun b o hb q => eb b o hb q) f0 f1 f3 f4 f5⟩
  self := fun A i s Q E st h => let ⟨⟨_, he⟩, _⟩ := st; wpAny_pyIter_enum he h
def iEnumA (K : PySem.W.Frag) (ta : TA) : TI := fun σ H R => ta σ H fun vs H1 => ∃ a xs, vs = [.ref a] ∧ ((SqL K H1 a xs ∧ R (Ite K a) H1) ∨ (SqT K H1 a xs ∧ R (IteT K a) H1))
theorem pi_enumA {X : Cx} {e : Expr} {ta : TA} {p pos tpos : Pos} {elts : List Expr} {kk : Nat} (hg : Gl X "enumerate") (hm : X.mg "enumerate" = none) (ha : PA X [e] ta) (hs : starEach [e] X.env = [(false, eval e X.env)] := by rfl) :
    PI X (.Tuple elts kk tpos) (.Call (.Name "enumerate" p) [e] [] pos) (iEnumA X.K ta) := by
  refine ⟨fun pins s σ H R I h => ?_⟩
  refine Call_ (ld_blt I hg hm boot_enumerate (PyProof.Rows.callWith_type1 (thn (ha.run pos pins s σ H _ I h) fun us s1 ⟨vs, H1, I1, r1, q1⟩ => ?_) hs rfl))
  obtain ⟨a, xs, ex, q⟩ := q1
  subst ex
  cases r1 with
  | cons r rr =>
    cases rr
    cases r
    have two : ∀ b, b ∈ [s1.heap.objs.size + 1, s1.heap.objs.size] → s1.heap.objs.size ≤ b := fun b hb => by
      rcases (show b = s1.heap.objs.size + 1 ∨ b = s1.heap.objs.size by simpa using hb) with z | z
      · omega
      · omega
    rcases q with ⟨hq, q⟩ | ⟨hq, q⟩
    · obtain ⟨its, rv, p', hz⟩ := I1.list hq
      refine call_enumerate_list p'.isList fun h' he hit hsz hk => wpAny_pyIter_enum he ?_
      exact ⟨s1.heap.objs.size + 1, [s1.heap.objs.size + 1, s1.heap.objs.size], _, _, H1, rfl, I1.kept (t' := s1.toks) hk, turn_enum a (s1.heap.objs.size + 1) s1.heap.objs.size, ⟨⟨.none, he⟩, hit, Nat.succ_ne_self _⟩, fun b hb => I1.fpOk (two b hb) (I1.hok.fresh (two b hb)), q⟩
    · obtain ⟨its, rv, p', hz⟩ := I1.tuple hq
      have pt : s1.heap.IsTuple a its.toArray := p'
      refine enum1_begins (begins_tuple a its.toArray) pt fun h' he hit hk => wpAny_pyIter_enum he ?_
      exact ⟨s1.heap.objs.size + 1, [s1.heap.objs.size + 1, s1.heap.objs.size], _, _, H1, rfl, I1.kept (t' := s1.toks) hk, turn_enumT a (s1.heap.objs.size + 1) s1.heap.objs.size, ⟨⟨.none, he⟩, ⟨_, hit, rfl, rfl⟩, Nat.succ_ne_self _⟩, fun b hb => I1.fpOk (two b hb) (I1.hok.fresh (two b hb)), q⟩
end
section
variable {X : Cx} {LK : Lk} {W : WX} {fl : Fl} {e : Expr} {pos p tpos : Pos} {ta : TDe} {elts : List Expr} {kk : Nat}
def pairsD (ds : List PyData) : List PyData := (List.range ds.length).zipWith (fun (k : Nat) d => .tuple [.int k, d]) ds
theorem pairs_len (ds : List PyData) : (pairsD ds).length = ds.length := by simp [pairsD]
theorem pairs_get {ds : List PyData} {i : Nat} {d : PyData} (h : ds[i]? = some d) : (pairsD ds)[i]? = some (.tuple [.int (i : Nat), d]) := by
  have hi := (List.getElem?_eq_some_iff.mp h).1
  unfold pairsD
  rw [List.getElem?_zipWith, h]
  simp [hi]
theorem itOk_enumL {K : PySem.W.Frag} {ad : Addr} {vs : List V} {ds : List PyData} {MS MI : Hp} (s : SqL K MS ad vs) (d : DpAll K MI vs ds) : ItOk K (pairsD ds) (Ite K ad) MS MI := by
  have hl := dpA_len d
  refine ⟨fun i H sm hi => ⟨vs, vs[i]'(by rw [pairs_len] at hi; omega), sm.seq s, by rw [pairs_len] at hi; simp [hl, hi]⟩, fun i H sm hi => ⟨vs, sm.seq s, by rw [pairs_len] at hi; omega⟩, fun i H x H' sm hi h => ?_⟩
  obtain ⟨T, y, rfl, n, rfl, h⟩ := h
  obtain ⟨dd, h1, h2⟩ := dpA_get d (h vs (sm.seq s))
  exact ⟨_, pairs_get h1, .inr ⟨T, _, _, n, rfl, rfl, rfl, .cons (.int _) (.cons h2 .nil)⟩⟩
theorem itOk_enumT {K : PySem.W.Frag} {ad : Addr} {vs : List V} {ds : List PyData} {MS MI : Hp} (s : SqT K MS ad vs) (d : DpAll K MI vs ds) : ItOk K (pairsD ds) (IteT K ad) MS MI := by
  have hl := dpA_len d
  refine ⟨fun i H sm hi => ⟨vs, vs[i]'(by rw [pairs_len] at hi; omega), same_sqT sm s, by rw [pairs_len] at hi; simp [hl, hi]⟩, fun i H sm hi => ⟨vs, same_sqT sm s, by rw [pairs_len] at hi; omega⟩, fun i H x H' sm hi h => ?_⟩
  obtain ⟨T, y, rfl, n, rfl, h⟩ := h
  obtain ⟨dd, h1, h2⟩ := dpA_get d (h vs (same_sqT sm s))
  exact ⟨_, pairs_get h1, .inr ⟨T, _, _, n, rfl, rfl, rfl, .cons (.int _) (.cons h2 .nil)⟩⟩
/-- a list or a tuple that is data -/
def enumV (sv : SV) (R : List PyData → Prop) : Prop := wD sv fun d => match d with
  | .list ds => R ds
  | .tuple ds => R ds
  | _ => False
@[simp] theorem enumV_lst (xs : List PyData) (R : List PyData → Prop) : enumV (.d (.list xs)) R = R xs := rfl
@[simp] theorem enumV_own (xs : List PyData) (R : List PyData → Prop) : enumV (.own xs) R = R xs := rfl
@[simp] theorem enumV_tup (xs : List PyData) (R : List PyData → Prop) : enumV (.d (.tuple xs)) R = R xs := rfl
@[simp] def iEnumD (fl : Fl) (ta : TDe) : TDi := fun δ R RX => ta δ (fun sv => enumV sv fun ds => R (pairsD ds)) RX
theorem di_enum (o : Bool) (hg : Gl X "enumerate") (hm : X.mg "enumerate" = none) (he : DX X LK W fl e ta) (ho : fl.o = true := by decide) (hs : starEach [e] X.env = [(false, eval e X.env)] := by rfl) (hs' : starEach [e] X.env = (false, eval e X.env) :: starEach [] X.env := by rfl) :
    DI X LK W o (.Tuple elts kk tpos) (.Call (.Name "enumerate" p) [e] [] pos) (iEnumD fl ta) :=
  pi_imp (pi_enumA hg hm (pa_cons he pa_nil hs') hs) fun σ H Q ⟨G, L, δ, R, RX, rel, r, q, qx⟩ => ⟨G, L, δ, _, _, rel, r, fun sv v L' H' hw st rel' res => by
    obtain ⟨d, ed, hR⟩ := wD_out hw
    have dF := dp_mono (pk_o ho) _ _ (asD_ok ed res.1)
    have toH : Same (fz L' δ σ H') H' := (fz_le _ _ _ _).trans (hid_le _ _)
    have ok : ∀ {items J}, ItOk X.K items J (fz L' δ σ H') (fz L' δ σ H') → ItOk X.K items J (if o = true then fz L' δ σ H' else hid L' H') (fz L' δ σ H') := fun {items J} h => by
      cases o with
      | true => exact h
      | false => exact ⟨fun i H sm => h.1 i H ((fz_le _ _ _ _).trans sm), fun i H sm => h.2.1 i H ((fz_le _ _ _ _).trans sm), fun i H x H2 sm => h.2.2 i H x H2 ((fz_le _ _ _ _).trans sm)⟩
    cases d <;> first | exact hR.elim | skip
    · cases dF with | lst s dd => exact ⟨_, _, rfl, .inl ⟨toH.seq s, q _ _ L' H' hR st rel' (ok (itOk_enumL s dd))⟩⟩
    · cases dF with | tup s dd => exact ⟨_, _, rfl, .inr ⟨same_sqT toH s, q _ _ L' H' hR st rel' (ok (itOk_enumT s dd))⟩⟩, qx⟩
end
end DL
namespace DL
open PySem PySem.Spec L2
/-- the pieces of a def that writes a loose list keep its contract -/
def AdT (okN : List Int → Prop) (C : Ctr) (ts : TDs) (N : List Str) : Prop := ∀ (svs : List SV) (R : SV → Prop) (RX : Exn → Prop), C svs R RX → ∃ args, svs = .tok :: args ∧ (∀ s ∈ args, s ≠ .tok) ∧ ∀ b ns, okN ns → ts (startD N (.tk b (intsD ns) :: args)) { nx := fun δ' => finT okN b δ' (.d .none) R, rt := fun δ' sv => finT okN b δ' sv R, xc := fun _ _ => False }
end DL
namespace DL
open PySem PySem.Spec PyProof.Rows L2
section
variable {X : Cx} {LK : Lk} {W : WX} {pos : Pos}
theorem dx_glob_tup {x : Str} {a : Addr} {d : PyData} (hg : Gl X x) (hm : X.mg x = some (.ref a)) (hv : ∀ M, Dp X.K M (.ref a) d) (hd : (x == ("__debug__" : Str)) = false := by decide) : DX X LK W ff (.Name x pos) (eC d) := dx_glob (v := .ref a) hg hm rfl hv hd
theorem dx_call0 {k : Nat} {f : Addr} {fd : FuncData} {ps : List Str} {C : Ctr} {n : Nat} {x : Str} {p : Pos} (F : FnOk X.prog X.w X.K X.mg X.base (L2.CX X.prog X.w) k f fd ps (spD X.K LK n C)) (tk : Takes X W) (hr : Room k X.A) (hg : Gl X x) (hm : X.mg x = some (.ref f))
    (hk : PySem.W.keepIn X.K (.ref f) = true) (hb : Binds X.K fd ps []) (hdb : (x == ("__debug__" : Str)) = false := by decide) : DX X LK W ff (.Call (.Name x p) [] [] pos) (eCall n C aNil) := by
  refine ⟨fun pins s σ H Q I h => ?_⟩
  obtain ⟨G, L, δ, R, RX, rel, ⟨hl, hc⟩, q, qx⟩ := h
  refine wpAny_Call_Name_kw (ld_glob I hg hm ?_ hdb)
  refine PySem.W.callWith_K0 I.kIn hk (run_fnS (us := []) (vs := []) (E := WE W) F hr hb (passAt tk σ) I .nil ?_)
  exact ⟨L, [], R, RX, hl, rel.lk, .nil, hc, fun sv v L' H' hR st lk ok => q sv v L' H' hR st (rel.step st lk) (new_res rel st ok), fun x c d L' H' hx st lk ex => qx x c d L' H' hx st lk (exOk_call rel ex)⟩
/-- x.extend(e) -/
def seqD (sv : SV) (R : List PyData → Prop) : Prop := wD sv fun d => match d with
  | .list ds => R ds
  | .tuple ds => R ds
  | _ => False
end
end DL

namespace DL
open PySem PySem.Spec PyProof.Rows L2

/-! ### defs that may run while an exception is handled: they raise nothing -/
/-- the body's context, whatever is handled -/
abbrev cxW (P : Program) (w : World) (K : PySem.W.Frag) (mg : Str → Option Value) (base : Heap) (N : List Str) (qual : Str) (scope : Scope) (f : Addr) (cd : Value) (A : Around) (outer : List Env) (s : Shared) (H : Hp) (E : XK) : Cx :=
  { cxOf CXF P w K mg base N qual scope f cd A outer s H E with calm := false }
structure FnWk (P : Program) (w : World) (K : PySem.W.Frag) (mg : Str → Option Value) (base : Heap) (k : Nat) (f : Addr) (fd : FuncData) (ps : List Str) (sp : Sp) : Prop where
  len : ∀ vs H Q E, sp vs H Q E → vs.length = ps.length
  run : ∀ (A : Around) (outer : List Env) (s : Shared) (H : Hp) (args : Args) (us : List Value) (vs : List V) (Q : VK), L2H.RoomH k A → Env0 P w K mg base A outer s H → BindsTo s fd args (ps.zip us) → Vals vs us → sp vs H Q (fun _ _ _ => False) →
    codeAny (model P w) A (.call (.ref f) args) (CR CXF outer P w H s Q (fun _ _ _ => False)) s
theorem roomM {k j : Nat} {A : Around} {v : Option Value} (hr : Room j A) (h : k ≤ j) : L2H.RoomH k (A.mark v) := ⟨(hr.mono h).dp, (hr.mono h).un⟩
section
variable {P : Program} {w : World} {K : PySem.W.Frag} {mg : Str → Option Value} {base : Heap} {LK : Lk}
theorem fnW_ok {x qual : Str} {params : Arguments} {body : List Stmt} {scope : Scope} {dvs : List V} {kws : List (Str × V)} {f : Addr} {fd : FuncData} {N ps : List Str} {k : Nat} {C : Ctr} {ts : TDs} (F : FunD K x qual params body scope dvs kws f fd) (S : FnScope N ps scope)
    (hb : ∀ (cdv : Value) (A : Around) (outer : List Env) (s : Shared) (H : Hp) (E : XK), L2H.RoomH k (A.deeper (envOfC qual scope s.heap.objs.size f cdv)) → Ds (cxW P w K mg base N qual scope f cdv A outer s H E) LK (fun _ _ _ _ => False) body ts)
    (hc : ∀ args R RX, args.length = ps.length → C args R RX → ts (startD N args) { nx := fun _ => R (.d .none), rt := fun _ => R, xc := fun _ => RX }) : FnWk P w K mg base (k + 1) f fd ps (spD K LK ps.length fun args R RX => C args R RX ∧ ∀ x, ¬ RX x) := by
  obtain ⟨oc, od, dV, kV, doc, pm, an, cdv, ct, osl, rfl, lk, hcd, _, _⟩ := F.ex
  refine ⟨fun vs H Q E ⟨_, _, _, _, h, _⟩ => h, fun A outer s H args us vs Q hr e0 hbd r hsp => ?_⟩
  obtain ⟨L, svs, R, RX, hl, lkk, pa, ⟨hC, nx⟩, q, qx⟩ := hsp
  have KX : K.In s.heap := e0.mod.kin.keeps fun b o e => (e0.bs b o e).1
  have lim : s.heap.NoLimit := e0.mod.nolimit.keeps fun b o e => (e0.bs b o e).1
  have hkind : ∀ y ∈ ps.zip us, scope.names.lookup y.1 = some .local ∨ (scope.names.lookup y.1 = some .cell ∧ ((cellsFrom (s.heap.objs.size + 1) scope.names []).lookup y.1).isSome = true) := fun ⟨n, v⟩ hy =>
    (S.par n (List.of_mem_zip hy).1).imp id fun z => ⟨z, PySem.W.cellsFrom_some _ _ _ (.inl z)⟩
  refine codeAny_call_function hr.depth (KX _ _ lk) rfl S.co S.gen rfl (PySem.W.codeRec_of KX hcd) (hbd _ _ _ _ ?_)
  refine wpAny_newFunctionEnv_cells S.kind hkind fun env he s1 x => ?_
  subst he
  refine ⟨lim.keeps x.toInCall.keep, codeAny_func ?_⟩
  have eC : Env0 P w K mg base { A with handled := none } outer s H := ⟨e0.frames, e0.mod, e0.bs, e0.bsz, e0.funs, e0.frf, e0.hok, e0.bare⟩
  have I' : Inv (cxOf CXF P w K mg base N qual scope f cdv { A with handled := none } outer s H (fun _ _ _ => False)) [] (L2.start N vs) H s1 := inv_start S rfl eC hl r x
  have I : Inv (cxW P w K mg base N qual scope f cdv A outer s H (fun _ _ _ => False)) [] (L2.start N vs) H s1 :=
    ⟨⟨I'.ok.mod, I'.ok.kind, I'.ok.glob, I'.ok.blt, I'.ok.above, I'.ok.inj, I'.ok.has, I'.ok.cab, (fun z => nomatch z), Around.frames_deeper e0.frames, I'.ok.stk, I'.ok.exf, I'.ok.bs, I'.ok.bsz, I'.ok.noex, I'.ok.exfs, I'.ok.funs, I'.ok.frf⟩,
      I'.os, I'.bare, I'.base, I'.loc, I'.cell, I'.free, I'.freeC, I'.pin, I'.hok, I'.len⟩
  have hq : liftS K LK (fun _ _ _ _ => False) ts { nx := fun _ H' => Q .non H', rt := Q } (L2.start N vs) H :=
    ⟨gd1 L H, L, startD N svs, _, rel_start lkk pa, hc svs R RX ((paired_len pa).symm.trans hl) hC, ⟨fun δ' L' σ' H' h l rel => q _ _ L' H' h ⟨rel.gF.trans (fz_le _ _ _ _), l⟩ rel.lk Dp.non, fun _ _ _ _ h => h.elim, fun _ _ _ _ h => h.elim, fun sv v δ' L' σ' H' gk h l rel ok => q _ _ L' H' h ⟨rel.gF.trans (fz_le _ _ _ _), l⟩ rel.lk ok, fun x c d δ' L' σ' H' h l rel ex => nx x h⟩⟩
  refine wpAny_mono ((hb cdv A outer s H (fun _ _ _ => False) (hr.deeper _)).run [] s1 (L2.start N vs) H _ I hq) (fun fl s' hs => ?_) fun e s' hs => hs
  have fin : ∀ {σ' : L2.St} {H' : Hp} {v : V} {u : Value}, Inv (cxW P w K mg base N qual scope f cdv A outer s H (fun _ _ _ => False)) [] σ' H' s' → RelV v u → Q v H' → CE outer P w H s Q u s' := fun {σ' H' v u} J rv q => ⟨v, H', J.os, J.bare, J.base, J.hok, rv, q⟩
  cases fl with
  | ret u => exact let ⟨v, σ', H', J, rv, q⟩ := hs; fin J rv q
  | next => exact let ⟨σ', H', J, q⟩ := hs; fin (v := V.non) (u := Value.none) J rfl q
  | brk => exact let ⟨_, _, _, q⟩ := hs; False.elim q
  | cont => exact let ⟨_, _, _, q⟩ := hs; False.elim q
/-- a def of the text that may run so, by name -/
def HasW (P : Program) (w : World) (K : PySem.W.Frag) (mg : Str → Option Value) (base : Heap) (LK : Lk) (x : Str) (k : Nat) (ps : List Str) (C : Ctr) : Prop :=
  ∃ fd : FuncData, FnWk P w K mg base k (He.ga K x) fd ps (spD K LK ps.length fun args R RX => C args R RX ∧ ∀ x, ¬ RX x) ∧ Binds K fd ps [] ∧ mg x = some (.ref (He.ga K x)) ∧ PySem.W.keepIn K (.ref (He.ga K x)) = true
end
section
variable {X : Cx} {LK : Lk} {W : WX} {e : Expr} {es : List Expr} {pos p : Pos} {tas : TDa}
@[simp] def eCallW (n : Nat) (C : Ctr) (tas : TDa) : TDe := fun δ R RX => tas δ (fun svs => svs.length = n ∧ C (svs.map toArg) R (fun _ => False)) RX
theorem dx_callW {k n : Nat} {ps : List Str} {C : Ctr} {x : Str} (Fw : HasW X.prog X.w X.K X.mg X.base LK x k ps C) (hr : L2H.RoomH k X.A) (hg : Gl X x) (ha : DA X LK W fb (e :: es) tas) (hn : ps.length = n := by rfl) (hdb : (x == ("__debug__" : Str)) = false := by decide) (he : starEach (e :: es) X.env = (false, eval e X.env) :: starEach es X.env := by rfl)
    (hpl : (backTo pos (starEach es X.env)).any (·.1) = false := by rfl) : DX X LK W ff (.Call (.Name x p) (e :: es) [] pos) (eCallW n C tas) := by
  obtain ⟨fd, F, hb, hm, hk⟩ := Fw
  refine ⟨fun pins s σ H Q I h => ?_⟩
  obtain ⟨G, L, δ, R, RX, rel, r, q, qx⟩ := h
  refine wpAny_Call_Name_kw (ld_glob I hg hm ?_ hdb)
  refine PySem.W.callWith_K (h₀ := X.base) I.ok.mod.kin hk (thn (ha.run pos pins s σ H (fun vs H1 => ∃ svs L1, Step L H L1 H1 ∧ Rel X.K LK G L1 δ σ H1 ∧ ResA X.K G fb (hid L H) (fz L1 δ σ H1) (hid L1 H1) L1 vs svs ∧ svs.length = n ∧ C (svs.map toArg) R (fun _ => False)) I ?_) fun us s1 ⟨vs, H1, I1, rv, svs, L1, st1, rel1, res1, hl, hc⟩ => ⟨I1.kIn, ?_⟩) he hpl
  · exact ⟨G, L, δ, _, _, rel, r, fun svs vs L1 H1 hw st1 rel1 res1 => ⟨svs, L1, st1, rel1, res1, hw⟩, fun x c d L' H' hx st lk ex => qx x c d L' H' hx st lk ex⟩
  · have hlv : vs.length = ps.length := by rw [hn]; exact (paired_len res1).trans hl
    have hlu : us.length = ps.length := by rw [← rv.length]; exact hlv
    have b := hb s1 us I1.kIn (by rw [List.append_nil]; exact hlu)
    rw [List.append_nil] at b
    show wpAny _ _ (call _ us) _ _ _
    refine wpAny_call (codeAny_mono (F.run X.A X.stack s1 H1 ⟨us, []⟩ us vs Q hr I1.env0 b rv ⟨L1, svs.map toArg, R, fun _ => False, hlv, rel1.lk, paired_map (G := fun v sv => SvOk X.K (hid L1 H1) L1 v sv ∧ isData sv = true) (g := toArg) (fun v sv z => toArg_ok (z.b (fz_le _ _ _ _))) res1, ⟨hc, fun _ z => z⟩,
      fun sv v L2' H2 hR st2 lk ok => q sv v L2' H2 hR (st1.trans st2) (rel1.step st2 lk) ((new_res rel1 st2 ok).back st1), fun _ _ _ _ _ z => z.elim⟩) fun r s' hq => ?_)
    cases r with
    | error e => exact (show False from hq).elim
    | ok fl =>
      cases fl with
      | ret u => exact I1.after hq
      | next => exact False.elim hq
      | brk => exact False.elim hq
      | cont => exact False.elim hq
end
end DL

namespace DL
open PySem PySem.Spec PyProof.Rows L2
section
variable {X : Cx} {LK : Lk} {W : WX} {fl fa fb' : Fl} {es : List Expr} {pos : Pos} {ts : TDa}
/-- a list display that is used at once: its items may be lists -/
theorem dx_lstB (h : DA X LK W fb es ts) : DX X LK W fb (.List es pos) (eLst ts) :=
  pe_imp (pe_lst h) fun σ H Q ⟨G, L, δ, R, RX, rel, r, q, qx⟩ => ⟨G, L, δ, _, RX, rel, r, fun svs vs L' H' hx st rel' res => by
    unfold wDs at hx
    split at hx
    · rename_i ds e
      have d := asDs_ok e res
      refine ⟨by rw [dpA_len d]; exact Nat.le_trans hx.1 (by decide), fun p hp => ?_⟩
      have ns : Same (hid L' H') (hid L' (upd H' p (.lst vs))) := (rel'.stepNew hp).1
      refine q _ _ L' _ hx.2 (st.trans (rel'.stepNew hp)) (rel'.new hp) ⟨⟨p, vs, rfl, ?_, dpA_mono ns _ _ d⟩, fun z => nomatch z⟩
      show hid L' (upd H' p (.lst vs)) p = some (.lst vs)
      rw [hid_upd (rel'.loose hp)]
      exact upd_same
    · exact hx.elim, qx⟩
/-- .. a tuple display -/
theorem dx_tupB {z} (h : DA X LK W fb es ts) : DX X LK W fb (.Tuple es z pos) (eTup ts) :=
  pe_imp (pe_tup h) fun σ H Q ⟨G, L, δ, R, RX, rel, r, q, qx⟩ => ⟨G, L, δ, _, RX, rel, r, fun svs vs L' H' hx st rel' res => by
    unfold wDs at hx
    split at hx
    · rename_i ds e
      have d := asDs_ok e res
      refine ⟨by rw [dpA_len d]; exact Nat.le_trans hx.1 (by decide), fun p hp => ?_⟩
      have ns : Same (hid L' H') (hid L' (upd H' p (.tup vs))) := (rel'.stepNew hp).1
      refine q _ _ L' _ hx.2 (st.trans (rel'.stepNew hp)) (rel'.new hp) ⟨?_, fun z => nomatch z⟩
      refine Dp.tup (SqT.of ?_) (dpA_mono ns _ _ d)
      show hid L' (upd H' p (.tup vs)) p = some (.tup vs)
      rw [hid_upd (rel'.loose hp)]
      exact upd_same
    · exact hx.elim, qx⟩
end
end DL

namespace DL
open PySem PySem.Spec PyProof.Rows L2
@[simp] theorem svAt_zero (s : SV) (r : DS) (R : SV → Prop) : svAt (some s :: r) 0 R = R s := rfl
@[simp] theorem svAt_succ (o : Option SV) (r : DS) (n : Nat) (R : SV → Prop) : svAt (o :: r) (n + 1) R = svAt r n R := by simp [svAt]
@[simp] theorem retV_true (sv : SV) (R : SV → Prop) : retV true sv R = R sv := by simp [retV]
@[simp] theorem retV_false (x : PyData) (R : SV → Prop) : retV false (.d x) R = (nolist x = true ∧ R (.d x)) := by simp [retV, nolS]
@[simp] theorem storeV_fb (x : PyData) (k : SV → Prop) : storeV fb (.d x) k = (nolist x = true ∧ k (.d x)) := by simp [storeV]
@[simp] theorem nolist_int (i : Int) : nolist (.int i) = true := rfl
@[simp] theorem nolist_bool (i : Bool) : nolist (.bool i) = true := rfl
@[simp] theorem nolist_str (i : Str) : nolist (.str i) = true := rfl
@[simp] theorem nolist_none : nolist .none = true := rfl
@[simp] theorem nolist_tup (xs : List PyData) : nolist (.tuple xs) = nolistA xs := rfl
@[simp] theorem nolistA_nil : nolistA [] = true := rfl
@[simp] theorem nolistA_cons (x : PyData) (xs : List PyData) : nolistA (x :: xs) = (nolist x && nolistA xs) := rfl
theorem startD_eq (N : List Str) (args : List SV) : startD N args = args.map some ++ List.replicate (N.length - args.length) none := rfl
@[simp] theorem eqD_int (i j : Int) (R : SV → Prop) : eqD (.int i) (.int j) R = R (.d (.bool (decide (i = j)))) := by
  have : PyData.eqv (.int i) (.int j) = decide (i = j) := by rw [PyData.eqv]; exact (Bool.beq_eq_decide_eq i j)
  simp [eqD, eqOk, scalD, this]
@[simp] theorem neD_int (i j : Int) (R : SV → Prop) : neD (.int i) (.int j) R = R (.d (.bool (!decide (i = j)))) := by
  have : PyData.eqv (.int i) (.int j) = decide (i = j) := by rw [PyData.eqv]; exact (Bool.beq_eq_decide_eq i j)
  simp [neD, eqOk, scalD, this]
theorem str_beq (i j : Str) : (i == j) = decide (i = j) := by
  by_cases h : i = j
  · subst h; simp
  · simp [h]
@[simp] theorem eqD_str (i j : Str) (R : SV → Prop) : eqD (.str i) (.str j) R = R (.d (.bool (decide (i = j)))) := by
  have : PyData.eqv (.str i) (.str j) = decide (i = j) := by rw [PyData.eqv]; exact str_beq i j
  simp [eqD, eqOk, scalD, this]
@[simp] theorem neD_str (i j : Str) (R : SV → Prop) : neD (.str i) (.str j) R = R (.d (.bool (!decide (i = j)))) := by
  have : PyData.eqv (.str i) (.str j) = decide (i = j) := by rw [PyData.eqv]; exact str_beq i j
  simp [neD, eqOk, scalD, this]
theorem inD_tup (neg : Bool) (x : PyData) (ds : List PyData) (R : SV → Prop) : inD neg x (.tuple ds) R = (inOk x ds ∧ R (.d (.bool (if neg then !anyEq x ds else anyEq x ds)))) := by cases x <;> rfl
theorem inD_lst (neg : Bool) (x : PyData) (ds : List PyData) (R : SV → Prop) : inD neg x (.list ds) R = ((inOk x ds ∨ inOkD x ds) ∧ R (.d (.bool (if neg then !anyEq x ds else anyEq x ds)))) := by cases x <;> rfl
@[simp] theorem inD_chr (neg : Bool) (c : Nat) (t : Str) (R : SV → Prop) : inD neg (.str ⟨#[c]⟩) (.str t) R = R (.d (.bool (if neg then !decide (c ∈ t.cps.toList) else decide (c ∈ t.cps.toList)))) := by
  simp [inD]
theorem anyEq_strs (w : Str) (l : List Str) : anyEq (.str w) (l.map .str) = decide (w ∈ l) := by
  induction l with
  | nil => rfl
  | cons a r ih =>
    have e : PyData.eqv (.str a) (.str w) = decide (w = a) := by
      rw [PyData.eqv]
      have := str_beq a w
      rw [this]
      by_cases h : a = w
      · subst h; simp
      · simp [h, Ne.symm h]
    unfold anyEq at ih ⊢
    rw [List.map_cons, List.any_cons, ih, e]
    by_cases h : w = a <;> simp [h]
theorem inOk_strs (w : Str) (l : List Str) : inOk (.str w) (l.map .str) := by
  refine ⟨rfl, ?_⟩
  simp [List.all_map, flatD]
/-- a text among texts -/
theorem inD_strs (neg : Bool) (w : Str) (l : List Str) (R : SV → Prop) : inD neg (.str w) (.tuple (l.map .str)) R = R (.d (.bool (if neg then !decide (w ∈ l) else decide (w ∈ l)))) := by
  rw [inD_tup, anyEq_strs]
  simp [inOk_strs]
theorem inD_strsL (neg : Bool) (w : Str) (l : List Str) (R : SV → Prop) : inD neg (.str w) (.list (l.map .str)) R = R (.d (.bool (if neg then !decide (w ∈ l) else decide (w ∈ l)))) := by
  rw [inD_lst, anyEq_strs]
  simp [inOk_strs]
def isTupD : PyData → Bool
  | .tuple _ => true
  | _ => false
def isStrD : PyData → Bool
  | .str _ => true
  | _ => false
def isIntD : PyData → Bool
  | .int _ => true
  | _ => false
def okD : PyData → Bool
  | .dict _ => false
  | _ => true
def inRD (x : PyData) (lo hi : Int) : Bool := match x with
  | .int i => decide (lo ≤ i) && decide (i ≤ hi)
  | _ => false
@[simp] theorem isD_d (x : PyData) : isD (.d x) = okD x := by cases x <;> rfl
@[simp] theorem isTupS_d (x : PyData) : isTupS (.d x) = isTupD x := by cases x <;> rfl
@[simp] theorem isStrS_d (x : PyData) : isStrS (.d x) = isStrD x := by cases x <;> rfl
@[simp] theorem okD_tup (x : List PyData) : okD (.tuple x) = true := rfl
@[simp] theorem okD_str (x : Str) : okD (.str x) = true := rfl
@[simp] theorem okD_int (x : Int) : okD (.int x) = true := rfl
@[simp] theorem okD_bool (x : Bool) : okD (.bool x) = true := rfl
@[simp] theorem okD_none : okD .none = true := rfl
@[simp] theorem okD_lst (x : List PyData) : okD (.list x) = true := rfl
@[simp] theorem isTupD_tup (x : List PyData) : isTupD (.tuple x) = true := rfl
@[simp] theorem isStrD_str (x : Str) : isStrD (.str x) = true := rfl
theorem okD_nol {x : PyData} (h : nolist x = true) : okD x = true := by cases x <;> simp [nolist, okD] at h ⊢
theorem gT_tup (n : Nat) (gs : TDgs) (ds : List PyData) (δ : DS) (R : DS → Prop) : gT n gs (.tuple ds) δ R = (ds.length = n ∧ gs ds δ R) := rfl
@[simp] theorem gT_3 (a b c : PyData) (i j k : Nat) (δ : DS) (R : DS → Prop) : gT 3 (gsCons (gN i) (gsCons (gN j) (gsCons (gN k) gsNil))) (.tuple [a, b, c]) δ R = R (((δ.set i (some (.d a))).set j (some (.d b))).set k (some (.d c))) := by simp [gT, gsCons, gN, gsNil]
@[simp] theorem gT_2 (a b : PyData) (i j : Nat) (δ : DS) (R : DS → Prop) : gT 2 (gsCons (gN i) (gsCons (gN j) gsNil)) (.tuple [a, b]) δ R = R ((δ.set i (some (.d a))).set j (some (.d b))) := by simp [gT, gsCons, gN, gsNil]
def pairsFrom : Nat → List PyData → List PyData
  | _, [] => []
  | k, d :: r => .tuple [.int (k : Nat), d] :: pairsFrom (k + 1) r
theorem pairsFrom_get : ∀ (ds : List PyData) (k i : Nat), (pairsFrom k ds)[i]? = (ds[i]?).map fun d => .tuple [.int ((k + i : Nat) : Int), d]
  | [], k, i => by simp [pairsFrom]
  | d :: r, k, 0 => by simp [pairsFrom]
  | d :: r, k, i + 1 => by
    rw [pairsFrom, List.getElem?_cons_succ, List.getElem?_cons_succ, pairsFrom_get r (k + 1) i]
    congr 1
    funext d
    have : k + 1 + i = k + (i + 1) := by omega
    rw [this]
theorem pairsD_eq (ds : List PyData) : pairsD ds = pairsFrom 0 ds := by
  apply List.ext_getElem?
  intro i
  rw [pairsFrom_get]
  cases h : ds[i]? with
  | none =>
    have hi : ds.length ≤ i := List.getElem?_eq_none_iff.mp h
    exact List.getElem?_eq_none_iff.mpr (by rw [pairs_len]; exact hi)
  | some d =>
    rw [pairs_get h]
    simp
@[simp] theorem ixV_tup (ds : List PyData) (i : Int) (R : SV → Prop) : ixV (.d (.tuple ds)) (.d (.int i)) R = (match atI ds i with | some z => R (.d z) | none => False) := rfl
@[simp] theorem ixV_lst (ds : List PyData) (i : Int) (R : SV → Prop) : ixV (.d (.list ds)) (.d (.int i)) R = (match atI ds i with | some z => R (.d z) | none => False) := rfl
@[simp] theorem ixV_own (ds : List PyData) (i : Int) (R : SV → Prop) : ixV (.own ds) (.d (.int i)) R = (match atI ds i with | some z => R (.d z) | none => False) := rfl
@[simp] theorem ixV_str (s : Str) (i : Int) (R : SV → Prop) : ixV (.d (.str s)) (.d (.int i)) R = (s.length ≤ sizeLine ∧ (match atI s.cps.toList i with | some z => R (.d (.str ⟨#[z]⟩)) | none => False)) := rfl
@[simp] theorem atI_0 {α : Type} (x : α) (r : List α) : atI (x :: r) 0 = some x := by simp [atI, ixN]
@[simp] theorem forL_nil (g : TDg) (t : TDs) (δ : DS) (E : EndsD) : forL g t [] δ E = E.nx δ := rfl
theorem forL_cons (g : TDg) (t : TDs) (d : PyData) (r : List PyData) (δ : DS) (E : EndsD) : forL g t (d :: r) δ E = g d δ fun δ1 => t δ1 { nx := fun δ2 => forL g t r δ2 E, rt := E.rt, xc := E.xc, bk := E.nx, ct := fun δ2 => forL g t r δ2 E } := rfl
@[simp] theorem wDs_ds (svs : List SV) (R : List PyData → Prop) : wDs svs R = (match asDs svs with | some ds => ds.length ≤ 64 ∧ R ds | none => False) := rfl
@[simp] theorem nolS_d (x : PyData) : nolS (.d x) = (nolist x = true) := rfl
@[simp] theorem nolS_tok : nolS .tok = True := rfl
@[simp] theorem asDs_nil : asDs [] = some [] := rfl
@[simp] theorem asDs_d (x : PyData) (r : List SV) : asDs (.d x :: r) = (asDs r).map (x :: ·) := by
  have e : asDs (.d x :: r) = (match asD (.d x), asDs r with | some d, some ds => some (d :: ds) | _, _ => none) := rfl
  rw [e]
  cases asDs r <;> rfl
@[simp] theorem asDs_own (x : List PyData) (r : List SV) : asDs (.own x :: r) = (asDs r).map (.list x :: ·) := by
  have e : asDs (.own x :: r) = (match asD (.own x), asDs r with | some d, some ds => some (d :: ds) | _, _ => none) := rfl
  rw [e]
  cases asDs r <;> rfl
@[simp] theorem isData_d (x : PyData) : isData (.d x) = true := rfl
@[simp] theorem isData_tok : isData .tok = true := rfl
@[simp] theorem isOwn_own (x : List PyData) : isOwn (.own x) = true := rfl
@[simp] theorem isOwn_tk (b : Addr) (x : List PyData) : isOwn (.tk b x) = true := rfl
@[simp] theorem isOwn_d (x : PyData) : isOwn (.d x) = false := rfl
/-- a comprehension whose turns are plain -/
theorem lcL_ok {g : TDg} {tt : TDt} {te : TDe} {δ : DS} (f : PyData → Option PyData) : ∀ (items acc : List PyData) (R : List PyData → Prop),
    (∀ d ∈ items, ∀ (k1 : PyData → Prop) (k0 : Prop), (match f d with | some x => k1 x | none => k0) → g d δ fun δ1 => tt δ1 (fun b => if b = true then te δ1 (fun sv => itemV sv k1) (fun _ => False) else k0) (fun _ => False)) → R (acc ++ items.filterMap f) → lcL g tt te δ items acc R
  | [], acc, R, _, h => by have h' : R acc := by simpa using h
                           exact h'
  | d :: r, acc, R, hs, h => by
    refine hs d (by simp) _ _ ?_
    cases e : f d with
    | none => exact lcL_ok f r acc R (fun d hd => hs d (by simp [hd])) (by simpa [e] using h)
    | some x => exact lcL_ok f r (acc ++ [x]) R (fun d hd => hs d (by simp [hd])) (by simpa [e] using h)
theorem lcL_map {g : TDg} {tt : TDt} {te : TDe} {δ : DS} (f : PyData → PyData) (items acc : List PyData) (R : List PyData → Prop)
    (hs : ∀ d ∈ items, ∀ (k1 : PyData → Prop) (k0 : Prop), k1 (f d) → g d δ fun δ1 => tt δ1 (fun b => if b = true then te δ1 (fun sv => itemV sv k1) (fun _ => False) else k0) (fun _ => False)) (h : R (acc ++ items.map f)) : lcL g tt te δ items acc R :=
  lcL_ok (fun d => some (f d)) items acc R hs (by simpa using h)
@[simp] theorem gN_at (i : Nat) (d : PyData) (δ : DS) (R : DS → Prop) : gN i d δ R = R (δ.set i (some (.d d))) := rfl
def numS (i : Int) : Str := Str.ofString (toString i)
@[simp high] theorem strD_num (i : Int) (R : SV → Prop) : strD (.int i) R = (i.natAbs.log2 < 1920 ∧ R (.d (.str (numS i)))) := rfl
theorem tab400 : ∀ n : Fin 401, (numS ((n.val : Nat) : Int)).length ≤ 3 := by decide +kernel
theorem numS_len {i : Int} (h0 : 0 ≤ i) (h1 : i ≤ 400) : (numS i).length ≤ 3 := by
  have := tab400 ⟨i.toNat, by omega⟩
  rwa [show (((⟨i.toNat, by omega⟩ : Fin 401).val : Nat) : Int) = i by simp; omega] at this
theorem log2_small {i : Int} (h0 : 0 ≤ i) (h1 : i ≤ 400) : i.natAbs.log2 < 1920 := by
  have : i.natAbs ≤ 400 := by omega
  have h2 : i.natAbs.log2 ≤ i.natAbs := Nat.log2_le_self _
  omega
theorem line_big : 1000 ≤ sizeLine := by decide
end DL

namespace N49
/-! ## Plain mathematics of log texts: lists of codes -/
def isDig (c : Nat) : Bool := decide (48 ≤ c ∧ c ≤ 57)
/-- the digits of a number -/
def nd (i : Nat) : List Nat := if h : i < 10 then [48 + i] else nd (i / 10) ++ [48 + i % 10]
termination_by i
decreasing_by omega
theorem nd_lt {i : Nat} (h : i < 10) : nd i = [48 + i] := by rw [nd]; simp [h]
theorem nd_ge {i : Nat} (h : 10 ≤ i) : nd i = nd (i / 10) ++ [48 + i % 10] := by
  conv => lhs; rw [nd]
  have : ¬ i < 10 := by omega
  simp [this]
theorem nd_ne (i : Nat) : nd i ≠ [] := by
  by_cases h : i < 10
  · rw [nd_lt h]; simp
  · rw [nd_ge (by omega)]; simp
theorem nd_dig : ∀ (n i : Nat), i ≤ n → ∀ c ∈ nd i, isDig c = true
  | n, i, hn, c, hc => by
    by_cases h : i < 10
    · rw [nd_lt h] at hc
      simp at hc
      subst hc
      simp [isDig]; omega
    · rw [nd_ge (by omega)] at hc
      rcases List.mem_append.mp hc with hc | hc
      · cases n with
        | zero => omega
        | succ n => exact nd_dig n (i / 10) (by omega) c hc
      · simp at hc
        subst hc
        simp [isDig]; omega
theorem nd_digs {i c : Nat} (h : c ∈ nd i) : isDig c = true := nd_dig i i (Nat.le_refl _) c h
def val (l : List Nat) : Nat := l.foldl (fun v c => v * 10 + (c - 48)) 0
theorem val_nd : ∀ (n i : Nat), i ≤ n → val (nd i) = i
  | n, i, hn => by
    by_cases h : i < 10
    · rw [nd_lt h]; simp [val]
    · rw [nd_ge (by omega)]
      have : val (nd (i / 10)) = i / 10 := by
        cases n with
        | zero => omega
        | succ n => exact val_nd n (i / 10) (by omega)
      unfold val at this ⊢
      rw [List.foldl_append, this]
      simp; omega
theorem nd_inj {a b : Nat} (h : nd a = nd b) : a = b := by
  rw [← val_nd a a (Nat.le_refl _), ← val_nd b b (Nat.le_refl _), h]
/-- what a number's digits begin with -/
theorem nd_prefix : ∀ (n m : Nat), m ≤ n → ∀ {s : List Nat}, s ≠ [] → s <+: nd m → ∃ j, s = nd (m / 10 ^ j) ∧ (j = 0 ∨ 1 ≤ m / 10 ^ j)
  | n, m, hn, s, hs, hp => by
    by_cases h : m < 10
    · rw [nd_lt h] at hp
      refine ⟨0, ?_, .inl rfl⟩
      simp
      rw [nd_lt h]
      rcases s with _ | ⟨c, r⟩
      · exact absurd rfl hs
      · obtain ⟨t, e⟩ := hp
        simp at e
        simp [e.1, e.2.1]
    · rw [nd_ge (by omega)] at hp
      by_cases hl : s.length ≤ (nd (m / 10)).length
      · have : s <+: nd (m / 10) := List.prefix_of_prefix_length_le hp (List.prefix_append _ _) hl
        cases n with
        | zero => omega
        | succ n =>
          obtain ⟨j, e, hj⟩ := nd_prefix n (m / 10) (by omega) hs this
          refine ⟨j + 1, ?_, .inr ?_⟩
          · rw [e, Nat.pow_succ, Nat.mul_comm, Nat.div_div_eq_div_mul]
          · rw [Nat.pow_succ, Nat.mul_comm, ← Nat.div_div_eq_div_mul]
            rcases hj with rfl | hj
            · simp; omega
            · exact hj
      · refine ⟨0, ?_, .inl rfl⟩
        simp
        rw [nd_ge (by omega)]
        exact hp.eq_of_length_le (by simp; omega)
theorem nd_prefix_of : ∀ (j m : Nat), (j = 0 ∨ 1 ≤ m / 10 ^ j) → nd (m / 10 ^ j) <+: nd m
  | 0, m, _ => by simp
  | j + 1, m, h => by
    have h1 : 1 ≤ m / 10 ^ (j + 1) := by omega
    have e : m / 10 ^ (j + 1) = m / 10 ^ j / 10 := by rw [Nat.div_div_eq_div_mul, Nat.pow_succ]
    rw [e] at h1 ⊢
    have h2 : 10 ≤ m / 10 ^ j := by omega
    have ih := nd_prefix_of j m (.inr (by omega))
    rw [nd_ge h2] at ih
    exact (List.prefix_append _ _).trans ih
/-- can the digits of n begin a number from lo to hi -/
theorem can_some {n lo hi j m : Nat} (h1 : lo ≤ m) (h2 : m ≤ hi) (h : n = m / 10 ^ j) : n * 10 ^ j ≤ hi ∧ lo ≤ n * 10 ^ j + (10 ^ j - 1) := by
  subst h
  have p : 0 < 10 ^ j := Nat.pow_pos (by omega)
  have a := Nat.div_mul_le_self m (10 ^ j)
  have b := Nat.div_add_mod m (10 ^ j)
  have c := Nat.mod_lt m p
  rw [Nat.mul_comm] at b
  generalize m / 10 ^ j * 10 ^ j = x at a b ⊢
  generalize 10 ^ j = y at p b c ⊢
  omega
theorem can_of {n lo hi j : Nat} (h0 : lo ≤ hi) (h1 : n * 10 ^ j ≤ hi) (h2 : lo ≤ n * 10 ^ j + (10 ^ j - 1)) : ∃ m, lo ≤ m ∧ m ≤ hi ∧ n = m / 10 ^ j := by
  have p : 0 < 10 ^ j := Nat.pow_pos (by omega)
  refine ⟨max lo (n * 10 ^ j), by omega, by omega, ?_⟩
  symm
  apply (Nat.div_eq_iff p).mpr
  generalize n * 10 ^ j = x at *
  generalize 10 ^ j = y at *
  omega
/-! ### reading a number -/
def canF (n lo hi : Int) : Nat → Int → Int → Bool
  | 0, _, _ => false
  | f + 1, a, b => if a ≤ hi then if lo ≤ b then true else if n = 0 then false else canF n lo hi f (a * 10) (b * 10 + 9) else false
def canB (n lo hi : Int) : Bool := canF n lo hi 4 n n
theorem canF_iff (n lo hi : Nat) (hn : 1 ≤ n) : ∀ (f : Nat) (j : Nat), (canF n lo hi f ((n * 10 ^ j : Nat) : Int) ((n * 10 ^ j + (10 ^ j - 1) : Nat) : Int) = true ↔ ∃ i, i < f ∧ n * 10 ^ (j + i) ≤ hi ∧ lo ≤ n * 10 ^ (j + i) + (10 ^ (j + i) - 1))
  | 0, j => by simp [canF]
  | f + 1, j => by
    have ih := canF_iff n lo hi hn f (j + 1)
    have p : 0 < 10 ^ j := Nat.pow_pos (by omega)
    have e1 : ((n * 10 ^ j : Nat) : Int) * 10 = ((n * 10 ^ (j + 1) : Nat) : Int) := by rw [Nat.pow_succ, ← Nat.mul_assoc]; omega
    have e2 : ((n * 10 ^ j + (10 ^ j - 1) : Nat) : Int) * 10 + 9 = ((n * 10 ^ (j + 1) + (10 ^ (j + 1) - 1) : Nat) : Int) := by
      rw [Nat.pow_succ, ← Nat.mul_assoc]
      generalize n * 10 ^ j = x
      generalize 10 ^ j = y at *
      omega
    rw [canF, e1, e2]
    have n0 : ¬ (n : Int) = 0 := by omega
    simp only [Int.ofNat_le, n0, if_false]
    have mono : ∀ i, n * 10 ^ j ≤ n * 10 ^ (j + i) := fun i => Nat.mul_le_mul_left _ (Nat.pow_le_pow_right (by omega) (by omega))
    by_cases h1 : n * 10 ^ j ≤ hi
    · rw [if_pos h1]
      by_cases h2 : lo ≤ n * 10 ^ j + (10 ^ j - 1)
      · rw [if_pos h2]
        simp only [true_iff]
        exact ⟨0, by omega, h1, h2⟩
      · rw [if_neg h2, ih]
        constructor
        · rintro ⟨i, a, b, c⟩
          exact ⟨i + 1, by omega, by rw [show j + (i + 1) = j + 1 + i by omega]; exact b, by rw [show j + (i + 1) = j + 1 + i by omega]; exact c⟩
        · rintro ⟨i, a, b, c⟩
          cases i with
          | zero => exact absurd c h2
          | succ i => exact ⟨i, by omega, by rw [show j + 1 + i = j + (i + 1) by omega]; exact b, by rw [show j + 1 + i = j + (i + 1) by omega]; exact c⟩
    · rw [if_neg h1]
      simp only [Bool.false_eq_true, false_iff]
      rintro ⟨i, a, b, c⟩
      have := mono i
      omega
theorem canB_iff {n lo hi : Nat} (h0 : lo ≤ hi) (h400 : hi ≤ 400) (hn : 1 ≤ n) : canB n lo hi = true ↔ ∃ m j, lo ≤ m ∧ m ≤ hi ∧ n = m / 10 ^ j := by
  have := canF_iff n lo hi hn 4 0
  simp only [Nat.pow_zero, Nat.mul_one, Nat.sub_self, Nat.add_zero, Nat.zero_add] at this
  unfold canB
  rw [this]
  constructor
  · rintro ⟨i, _, b, c⟩
    obtain ⟨m, x, y, z⟩ := can_of h0 b c
    exact ⟨m, i, x, y, z⟩
  · rintro ⟨m, j, x, y, z⟩
    obtain ⟨b, c⟩ := can_some x y z
    refine ⟨j, ?_, b, c⟩
    rcases Nat.lt_or_ge j 4 with g | g
    · exact g
    · have : 10 ^ 4 ≤ 10 ^ j := Nat.pow_le_pow_right (by omega) g
      have : n * 10 ^ 4 ≤ n * 10 ^ j := Nat.mul_le_mul_left _ this
      omega
theorem canB_zero {lo hi : Nat} : canB (0 : Nat) lo hi = decide (lo = 0) := by
  simp [canB, canF]
def digV (n : Int) (c : Nat) : Int := n * 10 + ((c - 48 : Nat) : Int)
def rdEnd (lo n : Int) (k : Nat) : Option Int × Nat := if k = 0 ∨ n < lo then (none, k) else (some n, k)
def rdN (lo hi : Int) : List Nat → Int → Nat → Option Int × Nat
  | [], n, k => rdEnd lo n k
  | c :: r, n, k => if isDig c = true then if (0 < k ∧ n = 0) ∨ canB (digV n c) lo hi = false then (none, k) else rdN lo hi r (digV n c) (k + 1) else rdEnd lo n k
/-- s begins a number from lo to hi with its end x -/
def NumP (lo hi x : Nat) (s : List Nat) : Prop := ∃ m, lo ≤ m ∧ m ≤ hi ∧ s <+: nd m ++ [x]
theorem pre_snoc {α : Type} {s a : List α} {c x : α} (h : s ++ [c] <+: a ++ [x]) : s ++ [c] <+: a ∨ (s = a ∧ c = x) := by
  by_cases hl : (s ++ [c]).length ≤ a.length
  · exact .inl (List.prefix_of_prefix_length_le h (List.prefix_append _ _) hl)
  · right
    have e : s ++ [c] = a ++ [x] := h.eq_of_length_le (by simp at hl ⊢; omega)
    have := List.append_inj' e rfl
    exact ⟨this.1, by simpa using this.2⟩
theorem rdN_spec {lo hi x : Nat} (h0 : lo ≤ hi) (h400 : hi ≤ 400) (hx : isDig x = false) : ∀ (l q : List Nat) (n : Nat), (q = [] ∧ n = 0 ∨ q = nd n ∧ ∃ m, lo ≤ m ∧ m ≤ hi ∧ q <+: nd m) →
    (∃ m t r, rdN lo hi l n q.length = (some ((m : Nat) : Int), (q ++ t).length) ∧ l = t ++ r ∧ q ++ t = nd m ∧ lo ≤ m ∧ m ≤ hi ∧ (∀ c r', r = c :: r' → isDig c = false)) ∨
    (∃ t r, rdN lo hi l n q.length = (none, (q ++ t).length) ∧ l = t ++ r ∧ (∀ c ∈ t, isDig c = true) ∧ (∃ m, lo ≤ m ∧ m ≤ hi ∧ q ++ t <+: nd m) ∧ (∀ c r', r = c :: r' → ¬ NumP lo hi x (q ++ t ++ [c])))
  | l, q, n, h => by
    have lenq : q.length = 0 ↔ q = [] := List.length_eq_zero_iff
    have bound : ∃ m, lo ≤ m ∧ m ≤ hi ∧ q <+: nd m := by
      rcases h with ⟨rfl, _⟩ | ⟨_, h⟩
      · exact ⟨lo, Nat.le_refl _, h0, List.nil_prefix⟩
      · exact h
    have stop : ∀ r, (∀ c r', r = c :: r' → isDig c = false) → 
      (∃ m t r', rdEnd lo n q.length = (some ((m : Nat) : Int), (q ++ t).length) ∧ r = t ++ r' ∧ q ++ t = nd m ∧ lo ≤ m ∧ m ≤ hi ∧ (∀ c r'', r' = c :: r'' → isDig c = false)) ∨
      (∃ t r', rdEnd lo n q.length = (none, (q ++ t).length) ∧ r = t ++ r' ∧ (∀ c ∈ t, isDig c = true) ∧ (∃ m, lo ≤ m ∧ m ≤ hi ∧ q ++ t <+: nd m) ∧ (∀ c r'', r' = c :: r'' → ¬ NumP lo hi x (q ++ t ++ [c]))) := by
      intro r hr
      unfold rdEnd
      by_cases he : q.length = 0 ∨ (n : Int) < lo
      · right
        refine ⟨[], r, by rw [if_pos he]; simp, rfl, by simp, by simpa using bound, ?_⟩
        rintro c r' rfl ⟨m, m1, m2, hp⟩
        have hc := hr c r' rfl
        rw [List.append_nil] at hp
        rcases pre_snoc hp with g | ⟨g, _⟩
        · have := nd_digs (g.subset (by simp : c ∈ q ++ [c]))
          rw [hc] at this; cases this
        · rcases h with ⟨rfl, _⟩ | ⟨e, _⟩
          · exact nd_ne m g.symm
          · rw [e] at g
            have := nd_inj g
            rcases he with he | he
            · rw [lenq.mp he] at e
              exact nd_ne n e.symm
            · omega
      · left
        rcases h with ⟨rfl, _⟩ | ⟨e, m, m1, m2, hp⟩
        · exact absurd (.inl rfl) he
        · refine ⟨n, [], r, by rw [if_neg he]; simp, rfl, by simpa using e, by omega, ?_, hr⟩
          obtain ⟨j, ej, _⟩ := nd_prefix m m (Nat.le_refl _) (by rw [e]; exact nd_ne n) hp
          rw [e] at ej
          have := nd_inj ej
          have := Nat.div_le_self m (10 ^ j)
          omega
    cases l with
    | nil => rw [rdN]; exact stop [] (fun c r' e => nomatch e)
    | cons c l =>
      rw [rdN]
      cases hd : isDig c with
      | false =>
        simp only [Bool.false_eq_true, if_false]
        exact stop (c :: l) (fun c' r' e => by cases e; exact hd)
      | true =>
        simp only [if_true]
        have hc : 48 ≤ c ∧ c ≤ 57 := by simpa [isDig] using hd
        have dv : digV n c = ((n * 10 + (c - 48) : Nat) : Int) := by unfold digV; omega
        have cx : c ≠ x := fun e => by rw [e, hx] at hd; cases hd
        have snoc : ¬ (0 < q.length ∧ n = 0) → q ++ [c] = nd (n * 10 + (c - 48)) := by
          intro hz
          rcases h with ⟨rfl, rfl⟩ | ⟨e, _⟩
          · rw [nd_lt (by omega)]; simp; omega
          · have n1 : n ≠ 0 := fun e0 => hz ⟨by rw [e]; exact List.length_pos_iff.mpr (nd_ne n), e0⟩
            rw [nd_ge (by omega), e]
            have : (n * 10 + (c - 48)) / 10 = n := by omega
            have : (n * 10 + (c - 48)) % 10 = c - 48 := by omega
            simp [*]
        have key : (0 < q.length ∧ n = 0) ∨ canB (digV n c) lo hi = false ∨ ∃ m, lo ≤ m ∧ m ≤ hi ∧ q ++ [c] <+: nd m := by
          by_cases hz : 0 < q.length ∧ n = 0
          · exact .inl hz
          · right
            cases hb : canB (digV n c) lo hi with
            | false => exact .inl rfl
            | true =>
              right
              rw [snoc hz]
              rw [dv] at hb
              by_cases h1 : n * 10 + (c - 48) = 0
              · rw [h1] at hb ⊢
                rw [canB_zero] at hb
                simp at hb
                exact ⟨0, by omega, by omega, List.prefix_refl _⟩
              · obtain ⟨m, j, m1, m2, e⟩ := (canB_iff h0 h400 (by omega)).mp hb
                exact ⟨m, m1, m2, by rw [e]; exact nd_prefix_of j m (.inr (by omega))⟩
        have bad : (0 < q.length ∧ n = 0) ∨ canB (digV n c) lo hi = false → ¬ NumP lo hi x (q ++ [c]) := by
          rintro hb ⟨m, m1, m2, hp⟩
          rcases pre_snoc hp with g | ⟨_, g⟩
          · obtain ⟨j, ej, hj⟩ := nd_prefix m m (Nat.le_refl _) (by simp) g
            by_cases hz : 0 < q.length ∧ n = 0
            · rcases h with ⟨rfl, _⟩ | ⟨e, _⟩
              · simp at hz
              · generalize m / 10 ^ j = y at ej
                by_cases hy : y < 10
                · rw [nd_lt hy] at ej
                  have := congrArg List.length ej
                  simp at this
                  rw [this] at hz; simp at hz
                · rw [nd_ge (by omega)] at ej
                  have := (List.append_inj' ej rfl).1
                  rw [e, hz.2] at this
                  have := nd_inj this
                  omega
            · rcases hb with hb | hb
              · exact hz hb
              · rw [snoc hz] at ej
                have ey := nd_inj ej
                rw [dv] at hb
                by_cases h1 : n * 10 + (c - 48) = 0
                · rw [h1, canB_zero] at hb
                  have hm : m = 0 := by
                    rcases hj with rfl | hj
                    · simp at ey; omega
                    · omega
                  simp at hb; omega
                · have := (canB_iff h0 h400 (by omega)).mpr ⟨m, j, m1, m2, ey⟩
                  rw [this] at hb; cases hb
          · exact cx g
        by_cases hb : (0 < q.length ∧ n = 0) ∨ canB (digV n c) lo hi = false
        · right
          have hb' : (0 < q.length ∧ (n : Int) = 0) ∨ canB (digV n c) lo hi = false := hb.imp_left fun z => ⟨z.1, by omega⟩
          rw [if_pos hb']
          refine ⟨[], c :: l, by simp, rfl, by simp, by simpa using bound, ?_⟩
          intro c' r' e
          cases e
          simpa using bad hb
        · have hb' : ¬ ((0 < q.length ∧ (n : Int) = 0) ∨ canB (digV n c) lo hi = false) := fun z => hb (z.imp_left fun z => ⟨z.1, by omega⟩)
          rw [if_neg hb']
          have hz : ¬ (0 < q.length ∧ n = 0) := fun z => hb (.inl z)
          have nx : ∃ m, lo ≤ m ∧ m ≤ hi ∧ q ++ [c] <+: nd m := by
            rcases key with k | k | k
            · exact absurd k hz
            · exact absurd (.inr k) hb
            · exact k
          have ih := rdN_spec h0 h400 hx l (q ++ [c]) (n * 10 + (c - 48)) (.inr ⟨snoc hz, nx⟩)
          rw [dv]
          have ll : (q ++ [c]).length = q.length + 1 := by simp
          rw [ll] at ih
          rcases ih with ⟨m, t, r, e, el, e2, m1, m2, hr⟩ | ⟨t, r, e, el, ht, hm, hr⟩
          · exact .inl ⟨m, c :: t, r, by rw [e]; simp, by rw [el]; rfl, by simpa using e2, m1, m2, hr⟩
          · refine .inr ⟨c :: t, r, by rw [e]; simp, by rw [el]; rfl, ?_, by simpa using hm, by simpa using hr⟩
            intro c' hc'
            rcases List.mem_cons.mp hc' with rfl | hc'
            · exact hd
            · exact ht c' hc'
termination_by l => l.length
/-! ### words -/
def comm : List Nat → List Nat → Nat
  | a :: r, b :: t => if a = b then comm r t + 1 else 0
  | _, _ => 0
theorem comm_take : ∀ (l m : List Nat), l.take (comm l m) <+: m
  | [], _ => by simp
  | _ :: _, [] => by simp [comm]
  | a :: r, b :: t => by
    unfold comm
    have := comm_take r t
    split
    · rename_i e
      subst e
      simpa using this
    · simp
theorem comm_ge : ∀ {s l m : List Nat}, s <+: l → s <+: m → s.length ≤ comm l m
  | [], _, _, _, _ => by simp
  | c :: s, l, m, h1, h2 => by
    cases l with
    | nil => simp at h1
    | cons a l =>
      cases m with
      | nil => simp at h2
      | cons b m =>
        rw [List.cons_prefix_cons] at h1 h2
        have := comm_ge h1.2 h2.2
        simp [comm, ← h1.1, ← h2.1, this]
theorem comm_le' : ∀ (l m : List Nat), comm l m ≤ l.length ∧ comm l m ≤ m.length
  | [], _ => by simp [comm]
  | _ :: _, [] => by simp [comm]
  | a :: r, b :: t => by
    unfold comm
    have := comm_le' r t
    split <;> simp <;> omega
theorem comm_full {l m : List Nat} : comm l m = m.length ↔ m <+: l := by
  constructor
  · intro h
    have h1 := comm_take l m
    have h2 := (comm_le' l m).1
    have : l.take (comm l m) = m := h1.eq_of_length_le (by rw [List.length_take]; omega)
    rw [← this]
    exact List.take_prefix _ _
  · intro h
    have := comm_ge h (List.prefix_refl m)
    have := (comm_le' l m).2
    omega
def rdW (l : List Nat) : List (List Nat) → Nat → Option (List Nat) × Nat
  | [], far => (none, far)
  | e :: es, far => if comm l e = e.length then (some e, far) else rdW l es (max far (comm l e))
theorem rdW_spec (l : List Nat) (E : List (List Nat)) : ∀ (es : List (List Nat)) (far : Nat), (∀ e ∈ es, e ∈ E) → (far ≤ l.length ∧ ∃ e ∈ E, l.take far <+: e) → (∀ e ∈ E, e ∈ es ∨ (¬ e <+: l ∧ comm l e ≤ far)) →
    (∃ e f, rdW l es far = (some e, f) ∧ e ∈ E ∧ e <+: l) ∨ (∃ f, rdW l es far = (none, f) ∧ f ≤ l.length ∧ (∃ e ∈ E, l.take f <+: e) ∧ ∀ e ∈ E, ¬ e <+: l ∧ comm l e ≤ f)
  | [], far, _, h1, h2 => .inr ⟨far, rfl, h1.1, h1.2, fun e he => (h2 e he).resolve_left (by simp)⟩
  | e :: es, far, h0, h1, h2 => by
    rw [rdW]
    by_cases h : comm l e = e.length
    · rw [if_pos h]
      exact .inl ⟨e, far, rfl, h0 e (by simp), comm_full.mp h⟩
    · rw [if_neg h]
      refine rdW_spec l E es _ (fun e' h' => h0 e' (by simp [h'])) ?_ fun e' h' => ?_
      · have := (comm_le' l e).1
        refine ⟨by omega, ?_⟩
        rcases Nat.le_total far (comm l e) with g | g
        · rw [Nat.max_eq_right g]; exact ⟨e, h0 e (by simp), comm_take l e⟩
        · rw [Nat.max_eq_left g]; exact h1.2
      · rcases h2 e' h' with g | g
        · rcases List.mem_cons.mp g with rfl | g
          · exact .inr ⟨fun z => h (comm_full.mpr z), by omega⟩
          · exact .inl g
        · exact .inr ⟨g.1, by omega⟩
def ew : List (List Nat) := [[97, 115, 107, 32], [97, 114, 114, 105, 118, 101, 32], [100, 111, 32], [97, 103, 97, 105, 110, 32], [104, 101, 97, 114, 32], [108, 97, 116, 101, 32], [99, 114, 97, 115, 104, 10], [103, 105, 118, 101, 32, 117, 112, 10]]
def numE : List (List Nat) := [[97, 115, 107, 32], [97, 114, 114, 105, 118, 101, 32], [100, 111, 32], [97, 103, 97, 105, 110, 32], [104, 101, 97, 114, 32], [108, 97, 116, 101, 32]]
theorem ew_free : ∀ a ∈ ew, ∀ b ∈ ew, a <+: b → a = b := by decide
theorem ew_last : ∀ a ∈ ew, 10 ∉ a.dropLast := by decide
theorem ew_num : ∀ a ∈ numE, a ∈ ew ∧ 10 ∉ a := by decide
theorem ew_plain : ∀ a ∈ ew, a ∉ numE → a.getLast? = some 10 ∧ a ≠ [] := by decide
/-! ### a line -/
def Tail (e : List Nat) (n : Int) (u : List Nat) : Prop := (e ∈ ew ∧ e ∉ numE ∧ u = [] ∧ n = -1) ∨ (e ∈ numE ∧ ∃ j : Nat, j ≤ 39 ∧ u = nd j ++ [10] ∧ n = j)
def VL (low t : Nat) (e : List Nat) (n : Int) (v : List Nat) : Prop := low ≤ t ∧ t ≤ 400 ∧ ∃ u, Tail e n u ∧ v = nd t ++ 32 :: (e ++ u)
def Pre (low : Nat) (s : List Nat) : Prop := ∃ t e n v, VL low t e n v ∧ s <+: v
theorem Pre.mono {low : Nat} {s s' : List Nat} (h : Pre low s) (p : s' <+: s) : Pre low s' :=
  let ⟨t, e, n, v, a, b⟩ := h; ⟨t, e, n, v, a, p.trans b⟩
/-- a number ends where its end is -/
theorem cancel {P : Nat → Bool} {x y : Nat} (hx : P x = false) (hy : P y = false) : ∀ {a b s s' : List Nat}, (∀ c ∈ a, P c = true) → (∀ c ∈ b, P c = true) → a ++ x :: s <+: b ++ y :: s' → a = b ∧ x = y ∧ s <+: s'
  | [], [], s, s', _, _, h => by
    simp only [List.nil_append, List.cons_prefix_cons] at h
    exact ⟨rfl, h⟩
  | [], d :: b, s, s', _, hb, h => by
    simp only [List.nil_append, List.cons_append, List.cons_prefix_cons] at h
    have := hb d (by simp)
    rw [← h.1, hx] at this; cases this
  | d :: a, [], s, s', ha, _, h => by
    simp only [List.nil_append, List.cons_append, List.cons_prefix_cons] at h
    have := ha d (by simp)
    rw [h.1, hy] at this; cases this
  | c :: a, d :: b, s, s', ha, hb, h => by
    simp only [List.cons_append, List.cons_prefix_cons] at h
    obtain ⟨e1, e2, e3⟩ := cancel hx hy (fun c' h' => ha c' (by simp [h'])) (fun c' h' => hb c' (by simp [h'])) h.2
    exact ⟨by rw [h.1, e1], e2, e3⟩
theorem numP_of {x m : Nat} {q rest : List Nat} {c : Nat} (hx : isDig x = false) (hq : ∀ c ∈ q, isDig c = true) (h : q ++ [c] <+: nd m ++ x :: rest) : q ++ [c] <+: nd m ++ [x] := by
  have e : nd m ++ x :: rest = (nd m ++ [x]) ++ rest := by simp
  rw [e] at h
  by_cases hl : (q ++ [c]).length ≤ (nd m ++ [x]).length
  · exact List.prefix_of_prefix_length_le h (List.prefix_append _ _) hl
  · have h2 : nd m ++ [x] <+: q ++ [c] := List.prefix_of_prefix_length_le (List.prefix_append _ _) h (by omega)
    have h3 : nd m ++ [x] <+: q := List.prefix_of_prefix_length_le h2 (List.prefix_append _ _) (by simp at hl ⊢; omega)
    have := hq x (h3.subset (by simp))
    rw [hx] at this; cases this
def rdL (low : Int) (l : List Nat) : Option (Int × List Nat × Int) × Nat := match rdN low 400 l 0 0 with
  | (none, k) => (none, k)
  | (some t, k) => if (l.drop k)[0]? = some 32 then match rdW (l.drop (k + 1)) ew 0 with
    | (none, far) => (none, k + 1 + far)
    | (some e, _) => if e ∈ numE then match rdN 0 39 (l.drop (k + 1 + e.length)) 0 0 with
        | (none, j) => (none, k + 1 + e.length + j)
        | (some n, j) => if (l.drop (k + 1 + e.length + j))[0]? = some 10 then (some (t, e, n), k + 1 + e.length + j + 1) else (none, k + 1 + e.length + j)
      else (some (t, e, -1), k + 1 + e.length)
    else (none, k)
theorem dig32 : isDig 32 = false := by decide
theorem dig10 : isDig 10 = false := by decide
/-- how the reading of a line ends -/
def LineOk (low : Nat) (l : List Nat) (r : Option (Int × List Nat × Int) × Nat) : Prop :=
  (∃ (t : Nat) (e : List Nat) (n : Int) (v r' : List Nat), r = (some ((t : Int), e, n), (v ++ [10]).length) ∧ l = v ++ 10 :: r' ∧ 10 ∉ v ∧ VL low t e n (v ++ [10])) ∨
  (∃ q r' : List Nat, r = (none, q.length) ∧ l = q ++ r' ∧ 10 ∉ q ∧ Pre low q ∧ ∀ c r'', r' = c :: r'' → ¬ Pre low (q ++ [c]))
theorem no10_dig {q : List Nat} (h : ∀ c ∈ q, isDig c = true) : 10 ∉ q := fun z => by
  have := h 10 z; rw [dig10] at this; cases this
theorem drop_at {q l r : List Nat} (h : l = q ++ r) : l.drop q.length = r := by rw [h]; simp
theorem head_of {r : List Nat} {c : Nat} (h : r[0]? = some c) : ∃ r', r = c :: r' := by
  cases r with
  | nil => simp at h
  | cons a r => simp at h; exact ⟨r, by rw [h]⟩
theorem tailW : Tail [97, 115, 107, 32] 0 (nd 0 ++ [10]) := .inr ⟨by decide, 0, by omega, rfl, rfl⟩
theorem rdL_spec {low : Nat} (h400 : low ≤ 400) (l : List Nat) : LineOk low l (rdL low l) := by
  unfold rdL
  have s1 := rdN_spec (x := 32) h400 (Nat.le_refl 400) dig32 l [] 0 (.inl ⟨rfl, rfl⟩)
  simp only [List.nil_append, List.length_nil] at s1
  rcases s1 with ⟨t, q, r, e1, el, eq, t1, t2, hr⟩ | ⟨q, r, e1, el, hq, ⟨m, m1, m2, hm⟩, hr⟩
  · subst eq
    rw [show ((0 : Nat) : Int) = 0 from rfl, show ((400 : Nat) : Int) = 400 from rfl] at e1
    rw [e1]
    simp only [drop_at el]
    have lk := drop_at el
    by_cases h32 : r[0]? = some 32
    · rw [if_pos h32]
      obtain ⟨r, rfl⟩ := head_of h32
      have el2 : l = (nd t ++ [32]) ++ r := by rw [el]; simp
      have d2 : l.drop ((nd t).length + 1) = r := by have := drop_at el2; simpa using this
      rw [d2]
      have s2 := rdW_spec r ew ew 0 (fun _ h => h) ⟨by omega, [97, 115, 107, 32], by decide, List.nil_prefix⟩ (fun e h => .inl h)
      rcases s2 with ⟨e, f, e2, he, hp⟩ | ⟨f, e2, hf, ⟨e, he, hp⟩, hn⟩
      · rw [e2]
        simp only
        obtain ⟨r2, er⟩ := hp
        have el3 : l = (nd t ++ 32 :: e) ++ r2 := by rw [el, ← er]; simp
        have d3 : l.drop ((nd t).length + 1 + e.length) = r2 := by
          have := drop_at el3
          rwa [show (nd t ++ 32 :: e).length = (nd t).length + 1 + e.length by simp; omega] at this
        by_cases hnum : e ∈ numE
        · rw [if_pos hnum, d3]
          have s3 := rdN_spec (x := 10) (lo := 0) (hi := 39) (by omega) (by omega) dig10 r2 [] 0 (.inl ⟨rfl, rfl⟩)
          simp only [List.nil_append, List.length_nil] at s3
          have e10 := (ew_num e hnum).2
          rcases s3 with ⟨j, q, r3, e3, el4, eq, j1, j2, hr3⟩ | ⟨q, r3, e3, el4, hq, ⟨m, m1, m2, hm⟩, hr3⟩
          · subst eq
            rw [show ((0 : Nat) : Int) = 0 from rfl, show ((39 : Nat) : Int) = 39 from rfl] at e3
            rw [e3]
            simp only
            have el5 : l = (nd t ++ 32 :: (e ++ nd j)) ++ r3 := by rw [el3, el4]; simp
            have len5 : (nd t ++ 32 :: (e ++ nd j)).length = (nd t).length + 1 + e.length + (nd j).length := by simp; omega
            have d5 : l.drop ((nd t).length + 1 + e.length + (nd j).length) = r3 := by
              have := drop_at el5
              rwa [len5] at this
            rw [d5]
            have no10 : 10 ∉ nd t ++ 32 :: (e ++ nd j) := by
              intro z
              simp only [List.mem_append, List.mem_cons] at z
              rcases z with z | z | z | z
              · exact no10_dig (fun _ h => nd_digs h) z
              · omega
              · exact e10 z
              · exact no10_dig (fun _ h => nd_digs h) z
            by_cases h10 : r3[0]? = some 10
            · rw [if_pos h10]
              obtain ⟨r3, rfl⟩ := head_of h10
              refine .inl ⟨t, e, j, nd t ++ 32 :: (e ++ nd j), r3, ?_, el5, no10, t1, t2, nd j ++ [10], .inr ⟨hnum, j, j2, rfl, rfl⟩, by simp⟩
              rw [List.length_append, len5]; rfl
            · rw [if_neg h10]
              refine .inr ⟨_, r3, by rw [len5], el5, no10, ⟨t, e, j, _, ⟨t1, t2, nd j ++ [10], .inr ⟨hnum, j, j2, rfl, rfl⟩, rfl⟩, ?_⟩, ?_⟩
              · exact ⟨[10], by simp⟩
              · rintro c r'' rfl ⟨t', e', n', v, ⟨a1, a2, u, hu, rfl⟩, hv⟩
                have hv' : nd t ++ 32 :: (e ++ (nd j ++ [c])) <+: nd t' ++ 32 :: (e' ++ u) := by simpa using hv
                obtain ⟨_, _, hv2⟩ := cancel dig32 dig32 (fun _ h => nd_digs h) (fun _ h => nd_digs h) hv'
                have he' : e' ∈ ew := by rcases hu with hu | hu; exact hu.1; exact (ew_num e' hu.1).1
                have ee : e = e' := by
                  rcases Nat.le_total e.length e'.length with g | g
                  · exact ew_free e he e' he' (List.prefix_of_prefix_length_le ((List.prefix_append _ _).trans hv2) (List.prefix_append _ _) g)
                  · exact (ew_free e' he' e he (List.prefix_of_prefix_length_le (List.prefix_append _ _) ((List.prefix_append _ _).trans hv2) g)).symm
                subst ee
                rw [List.prefix_append_right_inj] at hv2
                rcases hu with hu | ⟨_, j', _, rfl, _⟩
                · exact hu.2.1 hnum
                · have := (cancel (s := []) (hr3 c r'' rfl) dig10 (fun _ h => nd_digs h) (fun _ h => nd_digs h) hv2).2.1
                  exact h10 (by rw [this]; rfl)
          · rw [show ((0 : Nat) : Int) = 0 from rfl, show ((39 : Nat) : Int) = 39 from rfl] at e3
            rw [e3]
            simp only
            have el5 : l = (nd t ++ 32 :: (e ++ q)) ++ r3 := by rw [el3, el4]; simp
            have len5 : (nd t ++ 32 :: (e ++ q)).length = (nd t).length + 1 + e.length + q.length := by simp; omega
            refine .inr ⟨_, r3, by rw [len5], el5, ?_, ⟨t, e, m, _, ⟨t1, t2, nd m ++ [10], .inr ⟨hnum, m, m2, rfl, rfl⟩, rfl⟩, ?_⟩, ?_⟩
            · intro z
              simp only [List.mem_append, List.mem_cons] at z
              rcases z with z | z | z | z
              · exact no10_dig (fun _ h => nd_digs h) z
              · omega
              · exact e10 z
              · exact no10_dig hq z
            · obtain ⟨w, hw⟩ := hm
              exact ⟨w ++ [10], by rw [← hw]; simp⟩
            · rintro c r'' rfl ⟨t', e', n', v, ⟨a1, a2, u, hu, rfl⟩, hv⟩
              have hv' : nd t ++ 32 :: (e ++ (q ++ [c])) <+: nd t' ++ 32 :: (e' ++ u) := by simpa using hv
              obtain ⟨_, _, hv2⟩ := cancel dig32 dig32 (fun _ h => nd_digs h) (fun _ h => nd_digs h) hv'
              have he' : e' ∈ ew := by rcases hu with hu | hu; exact hu.1; exact (ew_num e' hu.1).1
              have ee : e = e' := by
                rcases Nat.le_total e.length e'.length with g | g
                · exact ew_free e he e' he' (List.prefix_of_prefix_length_le ((List.prefix_append _ _).trans hv2) (List.prefix_append _ _) g)
                · exact (ew_free e' he' e he (List.prefix_of_prefix_length_le (List.prefix_append _ _) ((List.prefix_append _ _).trans hv2) g)).symm
              subst ee
              rw [List.prefix_append_right_inj] at hv2
              rcases hu with hu | ⟨_, j', hj', rfl, _⟩
              · exact hu.2.1 hnum
              · exact hr3 c r'' rfl ⟨j', by omega, hj', hv2⟩
        · rw [if_neg hnum]
          obtain ⟨g1, g2⟩ := ew_plain e he hnum
          have ed : e = e.dropLast ++ [10] := by
            have := List.dropLast_concat_getLast g2
            rw [List.getLast?_eq_some_getLast g2] at g1
            rw [Option.some.inj g1] at this
            exact this.symm
          refine .inl ⟨t, e, -1, nd t ++ 32 :: e.dropLast, r2, ?_, ?_, ?_, t1, t2, [], .inl ⟨he, hnum, rfl, rfl⟩, ?_⟩
          · congr 1
            have := congrArg List.length ed
            simp at this ⊢; omega
          · rw [el3]
            conv => lhs; rw [ed]
            simp
          · intro z
            simp only [List.mem_append, List.mem_cons] at z
            rcases z with z | z | z
            · exact no10_dig (fun _ h => nd_digs h) z
            · omega
            · exact ew_last e he z
          · conv => rhs; rw [ed]
            simp
      · rw [e2]
        simp only
        have lt : (r.take f).length = f := by rw [List.length_take]; omega
        refine .inr ⟨nd t ++ 32 :: r.take f, r.drop f, ?_, ?_, ?_, ?_, ?_⟩
        · congr 1
          simp; omega
        · rw [el]; simp
        · have ne : r.take f ≠ e := fun z => (hn e he).1 (by rw [← z]; exact List.take_prefix _ _)
          have : r.take f <+: e.dropLast := by
            have hl : (r.take f).length < e.length := by
              rcases Nat.lt_or_ge (r.take f).length e.length with g | g
              · exact g
              · exact absurd (hp.eq_of_length_le g) ne
            exact List.prefix_of_prefix_length_le hp (List.dropLast_prefix e) (by rw [List.length_dropLast]; omega)
          intro z
          simp only [List.mem_append, List.mem_cons] at z
          rcases z with z | z | z
          · exact no10_dig (fun _ h => nd_digs h) z
          · omega
          · exact ew_last e he (this.subset z)
        · have : ∃ n u, Tail e n u := by
            by_cases hnum : e ∈ numE
            · exact ⟨0, _, .inr ⟨hnum, 0, by omega, rfl, rfl⟩⟩
            · exact ⟨_, _, .inl ⟨he, hnum, rfl, rfl⟩⟩
          obtain ⟨n, u, hu⟩ := this
          refine ⟨t, e, n, _, ⟨t1, t2, u, hu, rfl⟩, ?_⟩
          rw [List.prefix_append_right_inj, List.cons_prefix_cons]
          exact ⟨rfl, hp.trans (List.prefix_append _ _)⟩
        · rintro c r'' er ⟨t', e', n', v, ⟨a1, a2, u, hu, rfl⟩, hv⟩
          have hv' : nd t ++ 32 :: (r.take f ++ [c]) <+: nd t' ++ 32 :: (e' ++ u) := by simpa using hv
          obtain ⟨_, _, hv2⟩ := cancel dig32 dig32 (fun _ h => nd_digs h) (fun _ h => nd_digs h) hv'
          have he' : e' ∈ ew := by rcases hu with hu | hu; exact hu.1; exact (ew_num e' hu.1).1
          have hpr : r.take f ++ [c] <+: r := ⟨r'', by rw [List.append_assoc, List.singleton_append, ← er, List.take_append_drop]⟩
          obtain ⟨n1, n2⟩ := hn e' he'
          by_cases g : (r.take f ++ [c]).length ≤ e'.length
          · have := comm_ge hpr (List.prefix_of_prefix_length_le hv2 (List.prefix_append _ _) g)
            rw [List.length_append, lt] at this
            simp at this; omega
          · exact n1 ((List.prefix_of_prefix_length_le (List.prefix_append _ _) hv2 (by omega)).trans hpr)
    · rw [if_neg h32]
      refine .inr ⟨nd t, r, rfl, el, no10_dig (fun _ h => nd_digs h), ⟨t, _, _, _, ⟨t1, t2, _, tailW, rfl⟩, List.prefix_append _ _⟩, ?_⟩
      rintro c r'' rfl ⟨t', e', n', v, ⟨a1, a2, u, hu, rfl⟩, hv⟩
      have := (cancel (s := []) (hr c r'' rfl) dig32 (fun _ h => nd_digs h) (fun _ h => nd_digs h) hv).2.1
      exact h32 (by rw [this]; rfl)
  · rw [show ((0 : Nat) : Int) = 0 from rfl, show ((400 : Nat) : Int) = 400 from rfl] at e1
    rw [e1]
    refine .inr ⟨q, r, rfl, el, no10_dig hq, ⟨m, _, _, _, ⟨m1, m2, _, tailW, rfl⟩, hm.trans (List.prefix_append _ _)⟩, ?_⟩
    rintro c r'' rfl ⟨t', e', n', v, ⟨a1, a2, u, hu, rfl⟩, hv⟩
    exact hr c r'' rfl ⟨t', a1, a2, numP_of dig32 hq hv⟩
/-! ### the law's own reading -/
theorem tw_mem {p : Nat → Bool} : ∀ {l : List Nat} {c : Nat}, c ∈ l.takeWhile p → p c = true
  | [], _, h => by simp at h
  | a :: l, c, h => by
    rw [List.takeWhile_cons] at h
    split at h
    · rename_i ha
      rcases List.mem_cons.mp h with rfl | h
      · exact ha
      · exact tw_mem h
    · simp at h
def spl (c : Nat) : List Nat → List (List Nat)
  | [] => [[]]
  | a :: r => if a = c then [] :: spl c r else match spl c r with
    | [] => [[a]]
    | p :: ps => (a :: p) :: ps
theorem spl_app {c : Nat} {r : List Nat} : ∀ {v : List Nat}, c ∉ v → spl c (v ++ c :: r) = v :: spl c r
  | [], _ => by simp [spl]
  | a :: v, h => by
    have h1 : a ≠ c := fun e => h (by simp [e])
    have h2 : c ∉ v := fun e => h (by simp [e])
    rw [List.cons_append, spl, if_neg h1, spl_app h2]
theorem spl_no {c : Nat} : ∀ {v : List Nat}, c ∉ v → spl c v = [v]
  | [], _ => by simp [spl]
  | a :: v, h => by
    have h1 : a ≠ c := fun e => h (by simp [e])
    have h2 : c ∉ v := fun e => h (by simp [e])
    rw [spl, if_neg h1, spl_no h2]
theorem spl_ne (c : Nat) (l : List Nat) : ∃ p ps, spl c l = p :: ps := by
  cases l with
  | nil => exact ⟨_, _, rfl⟩
  | cons a r =>
    rw [spl]
    split
    · exact ⟨_, _, rfl⟩
    · split <;> exact ⟨_, _, rfl⟩
def ticks (low : Nat) : List (List Nat) := (List.range' low (401 - low)).map nd
def enL : List (List Nat) := (ew.filter (fun e => !decide (e ∈ numE))).map List.dropLast ++ numE.flatMap fun e => (List.range 40).map fun j => e ++ nd j
def bg (low : Nat) (s : List Nat) : Bool := match s.dropWhile (· != 32) with
  | [] => (ticks low).any fun t => s.isPrefixOf t
  | _ :: rest => (ticks low).contains (s.takeWhile (· != 32)) && enL.any fun e => rest.isPrefixOf (e ++ [10])
theorem enL_iff {x : List Nat} : (∃ e ∈ enL, x <+: e ++ [10]) ↔ ∃ e n u, Tail e n u ∧ x <+: e ++ u := by
  unfold enL
  constructor
  · rintro ⟨e, he, hx⟩
    rcases List.mem_append.mp he with he | he
    · obtain ⟨e', h1, rfl⟩ := List.mem_map.mp he
      simp only [List.mem_filter, Bool.not_eq_eq_eq_not, Bool.not_true, decide_eq_false_iff_not] at h1
      obtain ⟨g1, g2⟩ := ew_plain e' h1.1 h1.2
      refine ⟨e', -1, [], .inl ⟨h1.1, h1.2, rfl, rfl⟩, ?_⟩
      have := List.dropLast_concat_getLast g2
      rw [List.getLast?_eq_some_getLast g2] at g1
      rw [Option.some.inj g1] at this
      rw [this] at hx
      simpa using hx
    · obtain ⟨e', h1, h2⟩ := List.mem_flatMap.mp he
      obtain ⟨j, h3, rfl⟩ := List.mem_map.mp h2
      exact ⟨e', j, nd j ++ [10], .inr ⟨h1, j, by have := List.mem_range.mp h3; omega, rfl, rfl⟩, by simpa using hx⟩
  · rintro ⟨e, n, u, h, hx⟩
    rcases h with ⟨h1, h2, rfl, _⟩ | ⟨h1, j, h2, rfl, _⟩
    · obtain ⟨g1, g2⟩ := ew_plain e h1 h2
      have := List.dropLast_concat_getLast g2
      rw [List.getLast?_eq_some_getLast g2] at g1
      rw [Option.some.inj g1] at this
      refine ⟨e.dropLast, List.mem_append_left _ (List.mem_map.mpr ⟨e, ?_, rfl⟩), by rw [this]; simpa using hx⟩
      simp [h1, h2]
    · exact ⟨e ++ nd j, List.mem_append_right _ (List.mem_flatMap.mpr ⟨e, h1, List.mem_map.mpr ⟨j, List.mem_range.mpr (by omega), rfl⟩⟩), by simpa using hx⟩
theorem ticks_iff {low : Nat} {x : List Nat} : x ∈ ticks low ↔ ∃ t, low ≤ t ∧ t ≤ 400 ∧ x = nd t := by
  unfold ticks
  simp only [List.mem_map, List.mem_range'_1]
  constructor
  · rintro ⟨t, h, rfl⟩; exact ⟨t, by omega, by omega, rfl⟩
  · rintro ⟨t, h1, h2, rfl⟩; exact ⟨t, by omega, rfl⟩
theorem nd32 {t c : Nat} (h : c ∈ nd t) : (c != 32) = true := by
  have := nd_digs h
  simp [isDig] at this
  simp; omega
theorem bg_iff {low : Nat} (h400 : low ≤ 400) (s : List Nat) : bg low s = true ↔ Pre low s := by
  unfold bg
  have sp := List.takeWhile_append_dropWhile (p := fun c : Nat => c != 32) (l := s)
  cases hd : s.dropWhile (· != 32) with
  | nil =>
    rw [hd, List.append_nil] at sp
    have no : ∀ c ∈ s, (c != 32) = true := fun c hc => by
      rw [← sp] at hc
      exact tw_mem (p := fun c => c != 32) hc
    simp only [List.any_eq_true, List.isPrefixOf_iff_prefix]
    constructor
    · rintro ⟨x, hx, hp⟩
      obtain ⟨t, h1, h2, rfl⟩ := ticks_iff.mp hx
      exact ⟨t, _, _, _, ⟨h1, h2, _, tailW, rfl⟩, hp.trans (List.prefix_append _ _)⟩
    · rintro ⟨t, e, n, v, ⟨h1, h2, u, hu, rfl⟩, hp⟩
      refine ⟨nd t, ticks_iff.mpr ⟨t, h1, h2, rfl⟩, ?_⟩
      rcases Nat.le_total s.length (nd t).length with g | g
      · exact List.prefix_of_prefix_length_le hp (List.prefix_append _ _) g
      · rcases Nat.lt_or_ge (nd t).length s.length with g2 | g2
        · exfalso
          have e1 : nd t ++ 32 :: (e ++ u) = (nd t ++ [32]) ++ (e ++ u) := by simp
          rw [e1] at hp
          have : nd t ++ [32] <+: s := List.prefix_of_prefix_length_le (List.prefix_append _ _) hp (by simp; omega)
          have := no 32 (this.subset (by simp))
          simp at this
        · exact List.prefix_of_prefix_length_le hp (List.prefix_append _ _) g2
  | cons c rest =>
    rw [hd] at sp
    have hc : c = 32 := by
      have := List.head?_dropWhile_not (fun c : Nat => c != 32) s
      rw [hd] at this
      simpa using this
    subst hc
    have no : ∀ c ∈ s.takeWhile (· != 32), (c != 32) = true := fun c hc => tw_mem (p := fun c => c != 32) hc
    generalize s.takeWhile (· != 32) = a at sp no
    rw [Bool.and_eq_true, List.contains_iff_mem, List.any_eq_true]
    simp only [List.isPrefixOf_iff_prefix]
    rw [enL_iff, ticks_iff]
    constructor
    · rintro ⟨⟨t, h1, h2, rfl⟩, e, n, u, hu, hp⟩
      refine ⟨t, e, n, _, ⟨h1, h2, u, hu, rfl⟩, ?_⟩
      rw [← sp, List.prefix_append_right_inj, List.cons_prefix_cons]
      exact ⟨rfl, hp⟩
    · rintro ⟨t, e, n, v, ⟨h1, h2, u, hu, rfl⟩, hp⟩
      rw [← sp] at hp
      obtain ⟨g1, _, g3⟩ := cancel (P := fun c => c != 32) (by rfl) (by rfl) no (fun c hc => nd32 hc) hp
      exact ⟨⟨t, h1, h2, g1⟩, e, n, u, hu, g3⟩
/-- where a line departs -/
def plc (B : List Nat → Bool) (line : List Nat) : Nat := ((List.range line.length).find? fun k => !B (line.take (k + 1))).getD line.length
theorem find_first (p : Nat → Bool) (n k : Nat) (hk : k < n) (h : p k = true) (hb : ∀ j, j < k → p j = false) : (List.range n).find? p = some k := by
  rw [List.find?_range_eq_some]
  refine ⟨h, List.mem_range.mpr hk, fun j hj => by simp [hb j hj]⟩
theorem plc_eq {B : List Nat → Bool} {line q r : List Nat} (e : line = q ++ r) (hq : ∀ s, s <+: q → B s = true) (hr : ∀ c r', r = c :: r' → B (q ++ [c]) = false) : plc B line = q.length := by
  unfold plc
  have pre : ∀ k, k < q.length → B (line.take (k + 1)) = true := fun k hk => by
    rw [e, List.take_append_of_le_length (by omega)]
    exact hq _ (List.take_prefix _ _)
  cases r with
  | nil =>
    have : (List.range line.length).find? (fun k => !B (line.take (k + 1))) = none := by
      rw [List.find?_eq_none]
      intro k hk
      have := pre k (by have := List.mem_range.mp hk; rw [e] at this; simpa using this)
      simp [this]
    rw [this, e]; simp
  | cons c r =>
    rw [find_first _ _ q.length (by rw [e]; simp) ?_ fun j hj => by simp [pre j hj]]
    · rfl
    · have : line.take (q.length + 1) = q ++ [c] := by rw [e, List.take_append, List.take_of_length_le (by omega)]; simp
      rw [this, hr c r rfl]; rfl
abbrev Ev := Int × List Nat × Int
def lawGo (ev : List Nat → Ev) : List (List Nat) → Nat → Nat → List Ev → Option (List Ev) × Nat × Nat
  | [], _, _, _ => (none, 0, 0)
  | [last], low, k, acc => if last = [] then (some acc, 0, 0) else (none, k + 1, 1 + plc (bg low) last)
  | line :: l2 :: rest, low, k, acc => if bg low (line ++ [10]) = true then lawGo ev (l2 :: rest) (ev line).1.toNat (k + 1) (acc ++ [ev line]) else (none, k + 1, 1 + plc (bg low) (line ++ [10]))
def rdLg (l : List Nat) : Nat → Int → Nat → List Ev → Option (List Ev) × Nat
  | 0, _, a, _ => (none, a)
  | f + 1, low, a, acc => if a < l.length then match rdL low (l.drop a) with
      | (none, k) => (none, a + k)
      | (some x, k) => rdLg l f x.1 (a + k) (acc ++ [x])
    else (some acc, 0)
theorem log_spec {ev : List Nat → Ev} (hev : ∀ low t e n v, VL low t e n (v ++ [10]) → 10 ∉ v → ev v = ((t : Int), e, n)) (s : List Nat) : ∀ (fuel : Nat) (d l : List Nat) (low : Nat) (acc : List Ev), s = d ++ l → l.length < fuel → low ≤ 400 → (d = [] ∨ d.getLast? = some 10) →
    (∃ xs z, rdLg s fuel low d.length acc = (some xs, z) ∧ lawGo ev (spl 10 l) low (d.count 10) acc = (some xs, 0, 0)) ∨
    (∃ d' q r, s = d' ++ q ++ r ∧ 10 ∉ q ∧ (d' = [] ∨ d'.getLast? = some 10) ∧ rdLg s fuel low d.length acc = (none, (d' ++ q).length) ∧ lawGo ev (spl 10 l) low (d.count 10) acc = (none, d'.count 10 + 1, 1 + q.length))
  | 0, d, l, low, acc, _, h, _, _ => by omega
  | f + 1, d, l, low, acc, hs, hf, h400, hd => by
    rw [rdLg]
    cases l with
    | nil =>
      left
      refine ⟨acc, 0, ?_, ?_⟩
      · rw [if_neg (by rw [hs]; simp)]
      · simp [spl, lawGo]
    | cons c0 l0 =>
      rw [if_pos (by rw [hs]; simp)]
      generalize hl : c0 :: l0 = l at *
      have dr : s.drop d.length = l := by rw [hs]; simp
      rw [dr]
      have ne : l ≠ [] := by rw [← hl]; simp
      rcases rdL_spec h400 l with ⟨t, e, n, v, r', e1, e2, e3, e4⟩ | ⟨q, r', e1, e2, e3, e4, e5⟩
      · rw [e1]
        simp only
        have hv := hev low t e n v e4 e3
        have hb : bg low (v ++ [10]) = true := (bg_iff h400 _).mpr ⟨t, e, n, _, e4, List.prefix_refl _⟩
        have hd' : (d ++ v ++ [10]).getLast? = some 10 := by simp
        have t4 : t ≤ 400 := e4.2.1
        have ih := log_spec hev s f (d ++ v ++ [10]) r' t (acc ++ [((t : Int), e, n)]) (by rw [hs, e2]; simp) (by rw [e2] at hf; simp at hf; omega) t4 (.inr hd')
        have len : (d ++ v ++ [10]).length = d.length + (v ++ [10]).length := by simp [Nat.add_assoc]
        have cnt : (d ++ v ++ [10]).count 10 = d.count 10 + 1 := by
          simp only [List.count_append, List.count_eq_zero_of_not_mem e3]; simp
        rw [len, cnt] at ih
        have go : lawGo ev (spl 10 l) low (d.count 10) acc = lawGo ev (spl 10 r') t (d.count 10 + 1) (acc ++ [((t : Int), e, n)]) := by
          rw [e2, spl_app e3]
          obtain ⟨p, ps, ep⟩ := spl_ne 10 r'
          rw [ep, lawGo, if_pos hb, hv]
          simp
        rw [go]
        exact ih
      · rw [e1]
        simp only
        right
        refine ⟨d, q, r', by rw [hs, e2]; simp, e3, hd, by simp, ?_⟩
        have hq : ∀ s, s <+: q → bg low s = true := fun s h => (bg_iff h400 _).mpr (e4.mono h)
        have hr : ∀ c r'', r' = c :: r'' → bg low (q ++ [c]) = false := fun c r'' h => by
          have := e5 c r'' h
          rw [← bg_iff h400] at this
          simpa using this
        by_cases h10 : 10 ∈ r'
        · obtain ⟨v, r2, er, hv⟩ := List.append_of_mem h10 |> fun _ => List.eq_append_cons_of_mem h10
          have el : l = (q ++ v) ++ 10 :: r2 := by rw [e2, er]; simp
          have no : 10 ∉ q ++ v := by
            intro z
            rcases List.mem_append.mp z with z | z
            · exact e3 z
            · exact hv z
          rw [el, spl_app no]
          obtain ⟨p, ps, ep⟩ := spl_ne 10 r2
          have line : q ++ v ++ [10] = q ++ (v ++ [10]) := by simp
          have hr' : ∀ c r'', v ++ [10] = c :: r'' → bg low (q ++ [c]) = false := fun c r'' h => by
            cases v with
            | nil =>
              simp at h
              rw [← h.1]
              exact hr 10 r2 (by rw [er]; rfl)
            | cons a v =>
              simp at h
              rw [← h.1]
              exact hr a (v ++ 10 :: r2) (by rw [er]; rfl)
          have nb : ¬ bg low (q ++ v ++ [10]) = true := fun z => by
            rw [bg_iff h400] at z
            obtain ⟨c, r3, e⟩ : ∃ c r3, v ++ [10] = c :: r3 := by cases v with
              | nil => exact ⟨_, _, rfl⟩
              | cons a v => exact ⟨_, _, rfl⟩
            have := hr' c r3 e
            rw [line, e] at z
            have z2 := z.mono (s' := q ++ [c]) ⟨r3, by simp⟩
            rw [(bg_iff h400 _).mpr z2] at this
            cases this
          rw [ep, lawGo, if_neg nb, plc_eq line hq hr']
        · have no : 10 ∉ l := by
            intro z
            rw [e2] at z
            rcases List.mem_append.mp z with z | z
            · exact e3 z
            · exact h10 z
          rw [spl_no no, lawGo, if_neg ne, plc_eq e2 hq hr]
end N49

namespace DL
open PySem PySem.Spec PyProof.Rows L2
/-! ## Tools for plain proofs: loops by an invariant -/
theorem forL_inv {g : TDg} {t : TDs} {E : EndsD} (I : List PyData → DS → Prop) (hs : ∀ d r δ (K : DS → Prop), (∀ δ', I r δ' → K δ') → I (d :: r) δ → g d δ fun δ1 => t δ1 { nx := K, rt := E.rt, xc := E.xc, bk := E.nx, ct := K }) (he : ∀ δ, I [] δ → E.nx δ) :
    ∀ (items : List PyData) (δ : DS), I items δ → forL g t items δ E
  | [], δ, h => he δ h
  | d :: r, δ, h => hs d r δ _ (fun δ' h' => forL_inv I hs he r δ' h') h
theorem whileD_inv {tt : TDt} {tb : TDs} {E : EndsD} {δ : DS} (I : Nat → DS → Prop) (h0 : ∃ n, I n δ) (hs : ∀ n δ (K : DS → Prop), (∀ m δ', m < n → I m δ' → K δ') → I n δ → tt δ (fun b => if b = true then tb δ { E with nx := K, ct := K, bk := E.nx } else E.nx δ) (E.xc δ)) : whileD tt tb δ E :=
  ⟨I, h0, fun n δ h => hs n δ (fun δ' => ∃ m, m < n ∧ I m δ') (fun m δ' hm h => ⟨m, hm, h⟩) h⟩
theorem rangeD_zero (lo : Int) : rangeD lo 0 = [] := rfl
theorem rangeD_succ (lo : Int) (n : Nat) : rangeD lo (n + 1) = .int lo :: rangeD (lo + 1) n := by
  unfold rangeD
  rw [List.range_succ_eq_map, List.map_cons, List.map_map]
  congr 1
  · simp
  · apply List.map_congr_left
    intro a _
    simp only [Function.comp]
    congr 1
    omega
theorem forL_range {g : TDg} {t : TDs} {E : EndsD} (I : Nat → DS → Prop) (lo : Int) (n : Nat) (hs : ∀ i δ (K : DS → Prop), i < n → (∀ δ', I (i + 1) δ' → K δ') → I i δ → g (.int (lo + i)) δ fun δ1 => t δ1 { nx := K, rt := E.rt, xc := E.xc, bk := E.nx, ct := K }) (he : ∀ δ, I n δ → E.nx δ) :
    ∀ (δ : DS), I 0 δ → forL g t (rangeD lo n) δ E := by
  have go : ∀ (k i : Nat) (δ : DS), i + k = n → I i δ → forL g t (rangeD (lo + i) k) δ E := by
    intro k
    induction k with
    | zero => intro i δ e h; rw [Nat.add_zero] at e; subst e; exact he δ h
    | succ k ih =>
      intro i δ e h
      rw [rangeD_succ, forL_cons]
      refine hs i δ _ (by omega) (fun δ' h' => ?_) h
      have := ih (i + 1) δ' (by omega) h'
      rwa [show lo + ((i + 1 : Nat) : Int) = lo + i + 1 by omega] at this
  intro δ h
  have := go n 0 δ (by omega) h
  simpa using this
theorem forL_list {g : TDg} {t : TDs} {E : EndsD} (xs : List PyData) (I : Nat → DS → Prop) (hs : ∀ i d δ (K : DS → Prop), xs[i]? = some d → (∀ δ', I (i + 1) δ' → K δ') → I i δ → g d δ fun δ1 => t δ1 { nx := K, rt := E.rt, xc := E.xc, bk := E.nx, ct := K }) (he : ∀ δ, I xs.length δ → E.nx δ) :
    ∀ (δ : DS), I 0 δ → forL g t xs δ E := by
  have go : ∀ (r pre : List PyData) (δ : DS), xs = pre ++ r → I pre.length δ → forL g t r δ E := by
    intro r
    induction r with
    | nil => intro pre δ e h; rw [List.append_nil] at e; subst e; exact he δ h
    | cons d r ih =>
      intro pre δ e h
      rw [forL_cons]
      refine hs pre.length d δ _ (by rw [e]; simp) (fun δ' h' => ?_) h
      exact ih (pre ++ [d]) δ' (by rw [e]; simp) (by simpa using h')
  intro δ h
  exact go xs [] δ rfl h
theorem forL_enum {g : TDg} {t : TDs} {E : EndsD} (xs : List PyData) (I : Nat → DS → Prop) (hs : ∀ (i : Nat) d δ (K : DS → Prop), xs[i]? = some d → (∀ δ', I (i + 1) δ' → K δ') → I i δ → g (.tuple [.int (i : Nat), d]) δ fun δ1 => t δ1 { nx := K, rt := E.rt, xc := E.xc, bk := E.nx, ct := K }) (he : ∀ δ, I xs.length δ → E.nx δ) :
    ∀ (δ : DS), I 0 δ → forL g t (pairsD xs) δ E := by
  have len : (pairsD xs).length = xs.length := pairs_len xs
  intro δ h
  refine forL_list (pairsD xs) I (fun i d δ K hd hK hI => ?_) (fun δ h => he δ (by rwa [len] at h)) δ h
  rw [pairsD_eq, pairsFrom_get] at hd
  cases e : xs[i]? with
  | none => rw [e] at hd; cases hd
  | some x =>
    rw [e] at hd
    simp at hd
    subst hd
    exact hs i x δ K e hK hI
theorem mem_rangeD {lo : Int} {n : Nat} {d : PyData} : d ∈ rangeD lo n ↔ ∃ k : Nat, k < n ∧ d = .int (lo + k) := by
  unfold rangeD
  simp only [List.mem_map, List.mem_range]
  constructor
  · rintro ⟨k, h, rfl⟩; exact ⟨k, h, rfl⟩
  · rintro ⟨k, h, rfl⟩; exact ⟨k, h, rfl⟩
/-! ## Texts as lists of codes -/
def S (l : List Nat) : Str := ⟨l.toArray⟩
theorem S_codes (l : List Nat) : (S l).cps.toList = l := by simp [S]
theorem S_of (s : Str) : S s.cps.toList = s := by cases s; simp [S]
theorem S_len (l : List Nat) : (S l).length = l.length := by simp [S, Str.length]
theorem S_inj {a b : List Nat} (h : S a = S b) : a = b := by
  have := congrArg (fun s : Str => s.cps.toList) h
  simpa [S] using this
theorem S_app (a b : List Nat) : S a ++ S b = S (a ++ b) := by
  show (⟨_⟩ : Str) = _
  simp [S]
theorem S_eq_iff {s : Str} {l : List Nat} : s = S l ↔ s.cps.toList = l := ⟨fun h => by rw [h, S_codes], fun h => by rw [← h, S_of]⟩
theorem startswith_iff (x y : Str) : Txt.startswith x y = y.cps.toList.isPrefixOf x.cps.toList := by
  unfold Txt.startswith
  rw [Bool.eq_iff_iff, List.isPrefixOf_iff_prefix, StrLaws.subAt_eq]
  simp only [Bool.and_eq_true, decide_eq_true_eq, beq_iff_eq, List.drop_zero, Nat.zero_add]
  constructor
  · rintro ⟨_, h⟩
    rw [← h]; exact List.take_prefix _ _
  · rintro h
    refine ⟨h.length_le, ?_⟩
    exact (List.prefix_iff_eq_take.mp h).symm
theorem find_none {x : Str} {c : Nat} (h : c ∉ x.cps.toList) : Txt.find x ⟨#[c]⟩ = -1 := by
  rcases find_whole x ⟨#[c]⟩ with ⟨e, _⟩ | ⟨i, e, hi, _⟩
  · exact e
  · exact absurd (List.mem_of_getElem? ((StrLaws.subAt_one x c i).mp hi)) h
theorem find_at {x : Str} {c : Nat} {a b : List Nat} (e : x.cps.toList = a ++ c :: b) (h : c ∉ a) : Txt.find x ⟨#[c]⟩ = (a.length : Nat) := by
  have at' : x.cps.toList[a.length]? = some c := by rw [e]; simp
  have bel : ∀ k, k < a.length → x.cps.toList[k]? ≠ some c := fun k hk z => by
    rw [e, List.getElem?_append_left hk] at z
    exact h (List.mem_of_getElem? z)
  rcases find_whole x ⟨#[c]⟩ with ⟨_, hn⟩ | ⟨i, e2, hi, hn⟩
  · exact absurd ((StrLaws.subAt_one x c a.length).mpr at') (hn a.length)
  · have h1 := (StrLaws.subAt_one x c i).mp hi
    have : i = a.length := by
      rcases Nat.lt_trichotomy i a.length with g | g | g
      · exact absurd h1 (bel i g)
      · exact g
      · exact absurd ((StrLaws.subAt_one x c a.length).mpr at') (hn a.length g)
    rw [e2, this]
theorem strKind_pos (x : Str) : 1 ≤ Builtin.Str.strKind x := by
  unfold Builtin.Str.strKind
  split
  · omega
  · split <;> omega
/-! ## Plain facts of texts -/
theorem atI_at {α : Type} (l : List α) (n : Nat) : atI l (n : Int) = l[n]? := by
  unfold atI ixN
  rw [if_pos (by omega)]
  by_cases h : n < l.length
  · rw [if_pos (by omega)]
    simp
  · rw [if_neg (by omega)]
    simp [List.getElem?_eq_none_iff.mpr (Nat.le_of_not_lt h)]
theorem slen (s : Str) : s.length = s.cps.toList.length := rfl
theorem str_ext {s t : Str} (h : s.cps.toList = t.cps.toList) : s = t := by
  cases s; cases t
  exact congrArg Str.mk (Array.toList_inj.mp h)
theorem cutS_nat (s : Str) (a b : Nat) : (cutS s (some (a : Int)) (some (b : Int))).cps.toList = (s.cps.toList.drop a).take (b - a) := by
  unfold cutS
  rw [HT.sIx_nat, HT.sIx_nat, slen]
  by_cases h : a ≤ s.cps.toList.length
  · rw [Nat.min_eq_left h]
    by_cases h2 : b ≤ s.cps.toList.length
    · rw [Nat.min_eq_left h2]
    · rw [Nat.min_eq_right (by omega)]
      simp only [List.toList_toArray]
      rw [List.take_of_length_le (by rw [List.length_drop]; omega), List.take_of_length_le (by rw [List.length_drop]; omega)]
  · rw [List.drop_eq_nil_of_le (show s.cps.toList.length ≤ a by omega)]
    simp only [List.toList_toArray]
    rw [Nat.min_eq_right (show s.cps.toList.length ≤ a by omega), List.drop_eq_nil_of_le (Nat.le_refl _)]
    simp
theorem cutS_to (s : Str) (b : Nat) : (cutS s none (some (b : Int))).cps.toList = s.cps.toList.take b := by
  unfold cutS
  rw [HT.sIx_nat, HT.sIx_none, slen]
  simp only [List.toList_toArray, List.drop_zero, Nat.sub_zero]
  by_cases h2 : b ≤ s.cps.toList.length
  · rw [Nat.min_eq_left h2]
  · rw [Nat.min_eq_right (by omega), List.take_of_length_le (Nat.le_refl _), List.take_of_length_le (by omega)]
theorem cutS_from (s : Str) (a : Nat) : (cutS s (some (a : Int)) none).cps.toList = s.cps.toList.drop a := by
  unfold cutS
  rw [HT.sIx_nat, HT.sIx_none, slen]
  simp only [List.toList_toArray]
  by_cases h2 : a ≤ s.cps.toList.length
  · rw [Nat.min_eq_left h2, List.take_of_length_le (by simp)]
  · rw [Nat.min_eq_right (by omega), List.drop_eq_nil_of_le (Nat.le_refl _), List.drop_eq_nil_of_le (by omega)]
    simp
/-! ## One character sought -/
open PySem.StrLaws Builtin Builtin.Str
def chr1 (c : Nat) : Str := ⟨#[c]⟩
def posFrom (c : Nat) : Nat → List Nat → List Nat
  | _, [] => []
  | k, a :: r => if a = c then k :: posFrom c (k + 1) r else posFrom c (k + 1) r
theorem posFrom_len (c : Nat) : ∀ (l : List Nat) (k : Nat), (posFrom c k l).length = l.count c
  | [], _ => rfl
  | a :: r, k => by
    unfold posFrom
    by_cases h : a = c
    · simp [h, posFrom_len c r]
    · simp [h, posFrom_len c r]
theorem posFrom_filter (c : Nat) : ∀ (l : List Nat) (k : Nat) (f : Nat → Bool), (∀ i, f (k + i) = decide (l[i]? = some c)) → (List.range' k (l.length + 1)).filter f = posFrom c k l
  | [], k, f, h => by
    have := h 0
    simp at this
    simp [posFrom, this]
  | a :: r, k, f, h => by
    have h0 := h 0
    simp at h0
    have ih := posFrom_filter c r (k + 1) f (fun i => by
      have := h (i + 1)
      rw [show k + (i + 1) = k + 1 + i by omega] at this
      simpa using this)
    rw [List.length_cons, List.range'_succ, List.filter_cons, h0, posFrom]
    by_cases e : a = c
    · simp [e, ih]
    · simp [e, ih]
theorem occ_run1 (x : Str) (c limit : Nat) : ∀ (l : List Nat) (acc : Array Nat) (free : Nat), (∀ i ∈ l, free ≤ i) → l.Pairwise (· < ·) → acc.size + l.length ≤ limit →
    (forIn l (acc, free) (occBody x (chr1 c) x.length limit)).run.fst.toList = acc.toList ++ l.filter fun i => decide (x.cps.toList[i]? = some c)
  | [], acc, free, _, _, _ => by simp
  | a :: l, acc, free, hf, hp, hs => by
    rw [List.forIn_cons]
    have ha : free ≤ a := hf a (List.mem_cons_self ..)
    have hp' := List.pairwise_cons.mp hp
    simp only [List.length_cons] at hs
    by_cases hc : a + (chr1 c).length ≤ x.length ∧ subAt x (chr1 c) a = true
    · have eb : occBody x (chr1 c) x.length limit a (acc, free) = pure (ForInStep.yield (acc.push a, a + (chr1 c).length)) := by
        unfold occBody
        rw [if_pos ⟨⟨⟨by show acc.size < limit; omega, ha⟩, hc.1⟩, hc.2⟩]
      rw [eb]
      have e := (subAt_one x c a).mp hc
      have := occ_run1 x c limit l (acc.push a) (a + (chr1 c).length) (fun i hi => hp'.1 i hi) hp'.2 (by simp; omega)
      rw [List.filter_cons_of_pos (by simpa using e)]
      simpa using this
    · have eb : occBody x (chr1 c) x.length limit a (acc, free) = pure (ForInStep.yield (acc, free)) := by
        unfold occBody
        rw [if_neg fun h => hc ⟨h.1.2, h.2⟩]
      rw [eb]
      have e : ¬ x.cps.toList[a]? = some c := fun h => hc ((subAt_one x c a).mpr h)
      have := occ_run1 x c limit l acc free (fun i hi => hf i (List.mem_cons_of_mem _ hi)) hp'.2 (by omega)
      rw [List.filter_cons_of_neg (by simpa using e)]
      exact this
theorem occ_one (x : Str) (c : Nat) : occurrences x (chr1 c) 0 x.length (x.length + 1) = posFrom c 0 x.cps.toList := by
  rw [occ_eq]
  have h1 : (List.range' 0 (x.length + 1)).Pairwise (· < ·) := List.pairwise_lt_range'
  have h2 : (List.range' 0 (x.length + 1)).length ≤ x.length + 1 := Nat.le_of_eq List.length_range'
  have := occ_run1 x c (x.length + 1) (List.range' 0 (x.length + 1 - 0)) #[] 0 (fun _ _ => Nat.zero_le _) h1 (by simpa using h2)
  rw [this]
  have := posFrom_filter c x.cps.toList 0 (fun i => decide (x.cps.toList[i]? = some c)) (fun i => by rw [Nat.zero_add])
  rw [← slen] at this
  simpa only [Array.toList_empty, List.nil_append, Nat.sub_zero] using this
theorem count_one (x : Str) (c : Nat) : Txt.count x (chr1 c) = (x.cps.toList.count c : Nat) := by
  unfold Txt.count
  rw [occ_one, posFrom_len]
/-- where the last one stands -/
theorem rfind_split (x : Str) (c : Nat) (p q : List Nat) (h : x.cps.toList = p ++ q) (hq : c ∉ q) (hp : p = [] ∨ p.getLast? = some c) : Txt.rfind x (chr1 c) = (p.length : Int) - 1 := by
  unfold Txt.rfind
  have out : ∀ i, p.length ≤ i → x.cps.toList[i]? ≠ some c := fun i hi e => by
    rw [h, List.getElem?_append_right hi] at e
    exact hq (List.mem_of_getElem? e)
  rcases last_spec x (chr1 c) with ⟨e, hn⟩ | ⟨i, e, ha, hn⟩
  · rw [e]
    rcases hp with rfl | hp
    · rfl
    · exfalso
      refine hn (p.length - 1) ((subAt_one x c _).mpr ?_)
      have hl : p.length ≠ 0 := fun h0 => by rw [List.length_eq_zero_iff.mp h0] at hp; simp at hp
      rw [h, List.getElem?_append_left (by omega), ← List.getLast?_eq_getElem?]
      exact hp
  · rw [e]
    have hi := (subAt_one x c i).mp ha
    have hlt : i < p.length := by
      rcases Nat.lt_or_ge i p.length with g | g
      · exact g
      · exact absurd hi (out i g)
    rcases hp with rfl | hp
    · simp at hlt
    · have : ¬ i < p.length - 1 := fun g => hn _ g ((subAt_one x c _).mpr (by
        rw [h, List.getElem?_append_left (by omega), ← List.getLast?_eq_getElem?]
        exact hp))
      simp only
      omega
theorem spl_parts (x : Str) (c : Nat) : ∀ (r pre p : List Nat) (a : Nat), x.cps.toList = pre ++ r → a ≤ pre.length → p = pre.drop a → StrLaws.partsFrom x 1 a (posFrom c pre.length r) = (match N49.spl c r with | h :: t => (S (p ++ h)) :: t.map S | [] => [])
  | [], pre, p, a, e, ha, hp => by
    rw [List.append_nil] at e
    simp only [posFrom, StrLaws.partsFrom, N49.spl, List.append_nil, List.map_nil]
    congr 1
    apply S_eq_iff.mpr
    rw [StrLaws.strSub_toList, e, ← hp]
    exact List.take_of_length_le (by rw [hp, List.length_drop, slen, e]; omega)
  | b :: r, pre, p, a, e, ha, hp => by
    have e' : x.cps.toList = (pre ++ [b]) ++ r := by rw [e]; simp
    have ll : (pre ++ [b]).length = pre.length + 1 := by simp
    rw [posFrom, N49.spl]
    by_cases h : b = c
    · rw [if_pos h, if_pos h]
      simp only [StrLaws.partsFrom, List.append_nil]
      have ih := spl_parts x c r (pre ++ [b]) [] (pre.length + 1) e' (by omega) (by simp)
      rw [ll] at ih
      rw [ih]
      obtain ⟨q, qs, eq⟩ := N49.spl_ne c r
      rw [eq]
      simp only [List.nil_append, List.map_cons]
      congr 1
      apply S_eq_iff.mpr
      rw [StrLaws.strSub_toList, e, hp, List.drop_append_of_le_length ha, List.take_left' (by rw [List.length_drop])]
    · rw [if_neg h, if_neg h]
      have ih := spl_parts x c r (pre ++ [b]) (p ++ [b]) a e' (by omega) (by rw [hp, List.drop_append_of_le_length ha])
      rw [ll] at ih
      rw [ih]
      obtain ⟨q, qs, eq⟩ := N49.spl_ne c r
      rw [eq]
      simp
theorem posFrom_nil (c : Nat) : ∀ (l : List Nat) (k : Nat), posFrom c k l = [] → c ∉ l
  | [], _, _ => by simp
  | a :: r, k, h => by
    unfold posFrom at h
    split at h
    · cases h
    · rename_i ha
      have := posFrom_nil c r (k + 1) h
      intro z
      rcases List.mem_cons.mp z with rfl | z
      · exact ha rfl
      · exact this z
theorem split_one (x : Str) {c : Nat} (hc : c < 256) : Txt.split x (chr1 c) = (N49.spl c x.cps.toList).map S := by
  unfold Txt.split
  have k1 : Builtin.Str.strKind (chr1 c) = 1 := by simp [Builtin.Str.strKind, chr1, hc]
  have k2 := strKind_pos x
  split
  · rename_i h
    have : x.length < 1 := by
      simp only [Bool.or_eq_true, decide_eq_true_eq] at h
      rcases h with h | h
      · exact h
      · omega
    have e : x.cps.toList = [] := List.length_eq_zero_iff.mp (by rw [← slen]; omega)
    rw [e]
    simp only [N49.spl, List.map_cons, List.map_nil]
    rw [← S_of x, e]
  · rw [occ_one]
    split
    · rename_i h
      have h' : posFrom c 0 x.cps.toList = [] := List.isEmpty_iff.mp h
      rw [N49.spl_no (posFrom_nil c _ _ h')]
      simp [S_of]
    · rw [StrLaws.partsBetween_eq]
      have := spl_parts x c x.cps.toList [] [] 0 rfl (Nat.le_refl 0) rfl
      simp only [List.length_nil] at this
      rw [show (chr1 c).length = 1 from rfl, this]
      obtain ⟨q, qs, eq⟩ := N49.spl_ne c x.cps.toList
      rw [eq]
      simp
/-! ## Data of small depth: == -/
def shp (n : Nat) (d : PyData) : Prop := PyData.canLay0 d = true ∧ PyData.depth d ≤ n
theorem shp_int (n : Nat) (i : Int) : shp n (.int i) := ⟨by simp [PyData.canLay0], by simp [PyData.depth]⟩
theorem shp_bool (n : Nat) (i : Bool) : shp n (.bool i) := ⟨by simp [PyData.canLay0], by simp [PyData.depth]⟩
theorem shp_none (n : Nat) : shp n .none := ⟨by simp [PyData.canLay0], by simp [PyData.depth]⟩
theorem shp_str (n : Nat) {s : Str} (h : PyData.strOk s = true) : shp n (.str s) := ⟨by simpa [PyData.canLay0] using h, by simp [PyData.depth]⟩
theorem shp_all {n : Nat} : ∀ {xs : List PyData}, (∀ x ∈ xs, shp n x) → PyData.canLayAll0 xs = true ∧ PyData.depthAll xs ≤ n
  | [], _ => ⟨by simp [PyData.canLayAll0], by simp [PyData.depthAll]⟩
  | x :: xs, h => by
    have h1 := h x (by simp)
    have h2 := shp_all (xs := xs) fun y hy => h y (by simp [hy])
    exact ⟨by simp [PyData.canLayAll0, h1.1, h2.1], by simp only [PyData.depthAll]; have := h1.2; have := h2.2; omega⟩
theorem shp_tup {n : Nat} {xs : List PyData} (h : ∀ x ∈ xs, shp n x) : shp (n + 1) (.tuple xs) :=
  ⟨by simpa [PyData.canLay0] using (shp_all h).1, by simp only [PyData.depth]; have := (shp_all h).2; omega⟩
theorem shp_lst {n : Nat} {xs : List PyData} (h : ∀ x ∈ xs, shp n x) : shp (n + 1) (.list xs) :=
  ⟨by simpa [PyData.canLay0] using (shp_all h).1, by simp only [PyData.depth]; have := (shp_all h).2; omega⟩
theorem shp.mono {n m : Nat} {d : PyData} (h : shp n d) (l : n ≤ m) : shp m d := ⟨h.1, Nat.le_trans h.2 l⟩
theorem shp.ok {n : Nat} {d : PyData} (h : shp n d) (l : n ≤ 64) : SeqAt.shaped d = true := by
  unfold SeqAt.shaped
  rw [h.1, Bool.true_and, decide_eq_true_eq]
  exact Nat.le_trans h.2 l
theorem eqD_same {n : Nat} {d : PyData} (h : shp n d) (l : n ≤ 64) (R : SV → Prop) : eqD d d R = R (.d (.bool true)) := by
  have := h.ok l
  simp [eqD, eqOk, this, SeqAt.eqv_refl d h.1]
theorem neD_same {n : Nat} {d : PyData} (h : shp n d) (l : n ≤ 64) (R : SV → Prop) : neD d d R = R (.d (.bool false)) := by
  have := h.ok l
  simp [neD, eqOk, this, SeqAt.eqv_refl d h.1]
@[simp] theorem eqD_nn (R : SV → Prop) : eqD .none .none R = R (.d (.bool true)) := by simp [eqD, eqOk, scalD, PyData.eqv]
@[simp] theorem neD_nn (R : SV → Prop) : neD .none .none R = R (.d (.bool false)) := by simp [neD, eqOk, scalD, PyData.eqv]
@[simp] theorem neD_ni (i : Int) (R : SV → Prop) : neD .none (.int i) R = R (.d (.bool true)) := by simp [neD, eqOk, scalD, PyData.eqv]
@[simp] theorem neD_in (i : Int) (R : SV → Prop) : neD (.int i) .none R = R (.d (.bool true)) := by simp [neD, eqOk, scalD, PyData.eqv]
@[simp] theorem eqD_ni (i : Int) (R : SV → Prop) : eqD .none (.int i) R = R (.d (.bool false)) := by simp [eqD, eqOk, scalD, PyData.eqv]
@[simp] theorem eqD_in (i : Int) (R : SV → Prop) : eqD (.int i) .none R = R (.d (.bool false)) := by simp [eqD, eqOk, scalD, PyData.eqv]
@[simp] theorem eqD_bool (i j : Bool) (R : SV → Prop) : eqD (.bool i) (.bool j) R = R (.d (.bool (i == j))) := by simp [eqD, eqOk, scalD, PyData.eqv]
@[simp] theorem neD_bool (i j : Bool) (R : SV → Prop) : neD (.bool i) (.bool j) R = R (.d (.bool (!(i == j)))) := by simp [neD, eqOk, scalD, PyData.eqv]
@[simp] theorem ixV_tk (b : Addr) (ds : List PyData) (i : Int) (R : SV → Prop) : ixV (.tk b ds) (.d (.int i)) R = (match atI ds i with | some z => R (.d z) | none => False) := rfl
@[simp] theorem setAt_tk (b : Addr) (xs : List PyData) (k : Int) (d : PyData) (R : SV → Prop) : setAt (.tk b xs) k d R = (match ixN xs.length k with | some j => R (.tk b (xs.set j d)) | none => False) := rfl
@[simp] theorem setAt_own (xs : List PyData) (k : Int) (d : PyData) (R : SV → Prop) : setAt (.own xs) k d R = (match ixN xs.length k with | some j => R (.own (xs.set j d)) | none => False) := rfl
theorem cutL_to {α : Type} (xs : List α) (b : Nat) : cutL xs none (some (b : Int)) = xs.take b := by
  unfold cutL
  rw [HT.sIx_none, HT.sIx_nat, List.drop_zero, Nat.sub_zero]
  by_cases h : b ≤ xs.length
  · rw [Nat.min_eq_left h]
  · rw [Nat.min_eq_right (by omega), List.take_of_length_le (Nat.le_refl _), List.take_of_length_le (by omega)]
theorem cutL_from {α : Type} (xs : List α) (a : Nat) : cutL xs (some (a : Int)) none = xs.drop a := by
  unfold cutL
  rw [HT.sIx_none, HT.sIx_nat]
  by_cases h : a ≤ xs.length
  · rw [Nat.min_eq_left h, List.take_of_length_le (by simp)]
  · rw [Nat.min_eq_right (by omega), List.drop_eq_nil_of_le (show xs.length ≤ a by omega), List.drop_eq_nil_of_le (Nat.le_refl _)]; simp
theorem cutL_mid {α : Type} (xs : List α) (a b : Nat) : cutL xs (some (a : Int)) (some (b : Int)) = (xs.drop a).take (b - a) := by
  unfold cutL
  rw [HT.sIx_nat, HT.sIx_nat]
  by_cases h : a ≤ xs.length
  · rw [Nat.min_eq_left h]
    by_cases h2 : b ≤ xs.length
    · rw [Nat.min_eq_left h2]
    · rw [Nat.min_eq_right (by omega), List.take_of_length_le (by simp), List.take_of_length_le (by simp; omega)]
  · rw [Nat.min_eq_right (show xs.length ≤ a by omega), List.drop_eq_nil_of_le (show xs.length ≤ a by omega), List.drop_eq_nil_of_le (Nat.le_refl _)]; simp
theorem cutL_front {α : Type} (xs : List α) : cutL xs none (some (-1)) = xs.dropLast := by
  unfold cutL
  rw [HT.sIx_none, List.drop_zero, Nat.sub_zero, List.dropLast_eq_take]
  congr 1
  simp [HT.sIx]
  omega
end DL

namespace DL
open PySem PySem.Spec PyProof.Rows L2 N49
/-! ## Reading a number -/
def digs : Str := "0123456789"
theorem mem_digs (c : Nat) : c ∈ digs.cps.toList ↔ isDig c = true := by
  have e : digs.cps.toList = [48, 49, 50, 51, 52, 53, 54, 55, 56, 57] := by decide +kernel
  rw [e]
  simp [isDig]
  omega
theorem digs_at : ∀ c : Fin 10, Builtin.Str.occurrences digs ⟨#[48 + c.val]⟩ 0 digs.length 1 = [c.val] := by decide +kernel
theorem digs_ix {c : Nat} (h : isDig c = true) : Builtin.Str.occurrences digs ⟨#[c]⟩ 0 digs.length 1 = [c - 48] := by
  simp [isDig] at h
  have := digs_at ⟨c - 48, by omega⟩
  simpa [show 48 + (c - 48) = c by omega] using this
theorem digV_nn {n : Int} (c : Nat) (h : 0 ≤ n) : 0 ≤ digV n c := by unfold digV; omega
theorem num_tab1 : ∀ n : Fin 10, (numS ((n.val : Nat) : Int)).cps.toList = [48 + n.val] := by decide +kernel
theorem num_tab2 : ∀ n : Fin 401, 10 ≤ n.val → (numS ((n.val : Nat) : Int)).cps.toList = (numS ((n.val / 10 : Nat) : Int)).cps.toList ++ [48 + n.val % 10] := by decide +kernel
theorem num_nd : ∀ (k n : Nat), n ≤ k → n ≤ 400 → (numS (n : Int)).cps.toList = nd n
  | k, n, hk, h => by
    by_cases h1 : n < 10
    · rw [nd_lt h1]; exact num_tab1 ⟨n, h1⟩
    · cases k with
      | zero => omega
      | succ k =>
        rw [nd_ge (by omega), num_tab2 ⟨n, by omega⟩ (by show 10 ≤ n; omega)]
        show (numS ((n / 10 : Nat) : Int)).cps.toList ++ [48 + n % 10] = _
        rw [num_nd k (n / 10) (by omega) (by omega)]
theorem numS_nd {n : Nat} (h : n ≤ 400) : numS (n : Int) = S (nd n) := S_eq_iff.mpr (num_nd n n (Nat.le_refl _) h)
theorem numS_int : ∀ n : Fin 401, PySem.intText? (numS ((n.val : Nat) : Int)) = some ((n.val : Nat) : Int) := by decide +kernel
/-! ## Common beginnings -/
theorem comm_step {l m : List Nat} (c : Nat) (h1 : l[0]? = some c) (h2 : m[0]? = some c) : comm l m = comm (l.drop 1) (m.drop 1) + 1 := by
  cases l <;> cases m <;> simp at h1 h2
  subst h1; subst h2
  simp [comm]
theorem comm_stop {l m : List Nat} (c : Nat) (h1 : ¬ l[0]? = some c) (h2 : m[0]? = some c) : comm l m = 0 := by
  cases l <;> cases m <;> simp at h1 h2
  · rfl
  · subst h2
    simp [comm, h1]
theorem comm_nil (l : List Nat) : comm l [] = 0 := by cases l <;> rfl
def endedW : List Str := ew.map S
def wordS (e : List Nat) : Str := S e.dropLast
def numW : List Str := numE.map wordS
def evD (x : Ev) : PyData := .tuple [.int x.1, .str (wordS x.2.1), .int x.2.2]
theorem word_num : ∀ e ∈ ew, (wordS e ∈ numW ↔ e ∈ numE) := by decide +kernel
theorem word_cut : ∀ e ∈ ew, cutS (S e) none (some (-1)) = wordS e := by decide +kernel
theorem wds : numW = (["ask", "arrive", "do", "again", "hear", "late"] : List Str) := by decide +kernel
theorem rdN_le {lo hi : Int} : ∀ {l : List Nat} {n m : Int} {k j : Nat}, rdN lo hi l n k = (some m, j) → k ≤ j ∧ j ≤ k + l.length := by
  have e0 : ∀ {lo n m : Int} {k j : Nat}, rdEnd lo n k = (some m, j) → k = j := fun {lo n m k j} h => by
    unfold rdEnd at h
    split at h
    · cases h
    · cases h; rfl
  intro l
  induction l with
  | nil => intro n m k j h; have := e0 h; simp; omega
  | cons c r ih =>
    intro n m k j h
    rw [rdN] at h
    split at h
    · split at h
      · cases h
      · have := ih h; simp; omega
    · have := e0 h; simp; omega
theorem rdL_le {low : Nat} (h : low ≤ 400) {l : List Nat} {x : Ev} {k : Nat} (e : rdL low l = (some x, k)) : 1 ≤ k ∧ k ≤ l.length ∧ 0 ≤ x.1 ∧ x.1 ≤ 400 := by
  rcases rdL_spec h l with ⟨t, w, n, v, r, e1, e2, _, e4⟩ | ⟨q, r, e1, _⟩
  · rw [e1] at e
    cases e
    have h4 := e4.2.1
    refine ⟨by simp, by rw [e2]; simp, by simp, by simp; omega⟩
  · rw [e1] at e; cases e
end DL

namespace TK
open PySem PySem.Spec PyProof.Rows L2 DL
def topS (i : Nat) : Stmt := PySem.Challenge.pw_trunkcall_k49_log_texts.main.body.getD i (.Pass ⟨0, 0, 0, 0⟩)
abbrev s_is_int : Stmt := topS 5
abbrev s_is_int_in : Stmt := topS 6
abbrev s_is_event : Stmt := topS 14
abbrev s_check_log : Stmt := topS 15
abbrev s__write_event : Stmt := topS 16
abbrev s_write_log : Stmt := topS 17
abbrev s__refuse : Stmt := topS 18
abbrev s__can_begin : Stmt := topS 19
abbrev s__read_number : Stmt := topS 20
abbrev s__read_char : Stmt := topS 21
abbrev s__common : Stmt := topS 22
abbrev s__read_word : Stmt := topS 23
abbrev s_read_log : Stmt := topS 24
abbrev s__ticks : Stmt := topS 26
abbrev s_caller_book : Stmt := topS 27
abbrev s_server_book : Stmt := topS 28
abbrev s__law_source : Stmt := topS 30
abbrev s__law_take : Stmt := topS 31
abbrev s__law_is_int : Stmt := topS 32
abbrev s__law_numbered : Stmt := topS 33
abbrev s__law_event : Stmt := topS 34
abbrev s__law_row : Stmt := topS 35
abbrev s__law_write : Stmt := topS 36
abbrev s__law_endings : Stmt := topS 37
abbrev s__law_begins : Stmt := topS 38
abbrev s__law_place : Stmt := topS 39
abbrev s__law_line : Stmt := topS 40
abbrev s__law_read : Stmt := topS 41
abbrev s__law_same_row : Stmt := topS 42
abbrev s__law_reads : Stmt := topS 43
abbrev s__law_char : Stmt := topS 44
abbrev s__law_odd_text : Stmt := topS 45
abbrev s__law_second_text : Stmt := topS 46
abbrev s__law_odd_thing : Stmt := topS 47
abbrev s__law_is_event : Stmt := topS 48
abbrev s__law_first_bad : Stmt := topS 49
abbrev s__law_is_book : Stmt := topS 50
abbrev s__law_are_books : Stmt := topS 51
abbrev s__law_checks : Stmt := topS 52
abbrev s_law : Stmt := topS 53
abbrev i_BadBook : Stmt := (C8.clsBody (topS 2)).getD 0 (.Pass ⟨0, 0, 0, 0⟩)
abbrev i_BadLine : Stmt := (C8.clsBody (topS 3)).getD 0 (.Pass ⟨0, 0, 0, 0⟩)
abbrev cv_MOST_TICK : PyData := .int 400
abbrev cv_LAST_NUMBER : PyData := .int 39
abbrev cv_NUMBERED : PyData := .tuple [.str "ask", .str "arrive", .str "do", .str "again", .str "hear", .str "late"]
abbrev cv_PLAIN : PyData := .tuple [.str "crash", .str "give up"]
abbrev cv_ENDED : PyData := .tuple [.str "ask ", .str "arrive ", .str "do ", .str "again ", .str "hear ", .str "late ", .str "crash\n", .str "give up\n"]
abbrev cv_DIGITS : PyData := .str "0123456789"
def frees : List Str := ["len", "isinstance", "int", "bool", "str", "tuple", "list", "range", "max", "min", "abs", "ord", "sorted", "sum", "set", "dict", "enumerate", "zip", "reversed", "repr", "ValueError", "next"]
abbrev KN : List Str := ["TrunkError", "BadBook", "BadLine"]
def cm_TrunkError : Str → Bool := fun y => (["TrunkError", "BadBook", "BadLine"] : List Str).contains y
def cm_BadBook : Str → Bool := fun y => (["BadBook"] : List Str).contains y
def cm_BadLine : Str → Bool := fun y => (["BadLine"] : List Str).contains y
def cm_ValueError : Str → Bool := fun _ => true
abbrev kf_part : List Str := ["BadBook"]
abbrev kf_line : List Str := ["BadLine"]
abbrev kf_column : List Str := ["BadLine"]
def tabDefs : List He.Defn := []
def tabs (K : PySem.W.Frag) : List (Addr × Str) := []
def okN : List Int → Prop := fun ns => ns.length = 3
def okP : HO → Prop := fun o => ∃ ns, o = .lst (ns.map V.int) ∧ okN ns
theorem okT : ∀ o, okP o → tblB o = false := fun o ⟨ns, h, _⟩ => by rw [h]; rfl
theorem okT2 : ∀ p, ¬ okP (.ext p) := fun p ⟨ns, h, _⟩ => by cases h
abbrev LK (K : PySem.W.Frag) : Lk := LkT okP (tabs K)
theorem lkI {K : PySem.W.Frag} : LkInts (LK K) okN := ⟨fun o h => h, fun ns h => ⟨ns, rfl, h⟩⟩
def Bq (K : PySem.W.Frag) (mg : Str → Option Value) (base : Heap) : Prop := ∀ p ∈ tabDefs, LamX.TabB base mg (He.cT K p).1 (He.cT K p).2
structure Tx (K : PySem.W.Frag) (mg : Str → Option Value) : Prop where
  fr : ∀ x : Str, frees.contains x = true → mg x = none
  d_is_int : ∃ fd : FuncData, FunD K "is_int" "is_int" (defArgs s_is_int) (defBody s_is_int) (defScope s_is_int) [] [] (He.ga K "is_int") fd
  g_is_int : mg "is_int" = some (.ref (He.ga K "is_int"))
  d_is_int_in : ∃ fd : FuncData, FunD K "is_int_in" "is_int_in" (defArgs s_is_int_in) (defBody s_is_int_in) (defScope s_is_int_in) [] [] (He.ga K "is_int_in") fd
  g_is_int_in : mg "is_int_in" = some (.ref (He.ga K "is_int_in"))
  d_is_event : ∃ fd : FuncData, FunD K "is_event" "is_event" (defArgs s_is_event) (defBody s_is_event) (defScope s_is_event) [] [] (He.ga K "is_event") fd
  g_is_event : mg "is_event" = some (.ref (He.ga K "is_event"))
  d_check_log : ∃ fd : FuncData, FunD K "check_log" "check_log" (defArgs s_check_log) (defBody s_check_log) (defScope s_check_log) [] [] (He.ga K "check_log") fd
  g_check_log : mg "check_log" = some (.ref (He.ga K "check_log"))
  d__write_event : ∃ fd : FuncData, FunD K "_write_event" "_write_event" (defArgs s__write_event) (defBody s__write_event) (defScope s__write_event) [] [] (He.ga K "_write_event") fd
  g__write_event : mg "_write_event" = some (.ref (He.ga K "_write_event"))
  d_write_log : ∃ fd : FuncData, FunD K "write_log" "write_log" (defArgs s_write_log) (defBody s_write_log) (defScope s_write_log) [] [] (He.ga K "write_log") fd
  g_write_log : mg "write_log" = some (.ref (He.ga K "write_log"))
  d__refuse : ∃ fd : FuncData, FunD K "_refuse" "_refuse" (defArgs s__refuse) (defBody s__refuse) (defScope s__refuse) [] [] (He.ga K "_refuse") fd
  g__refuse : mg "_refuse" = some (.ref (He.ga K "_refuse"))
  d__can_begin : ∃ fd : FuncData, FunD K "_can_begin" "_can_begin" (defArgs s__can_begin) (defBody s__can_begin) (defScope s__can_begin) [] [] (He.ga K "_can_begin") fd
  g__can_begin : mg "_can_begin" = some (.ref (He.ga K "_can_begin"))
  d__read_number : ∃ fd : FuncData, FunD K "_read_number" "_read_number" (defArgs s__read_number) (defBody s__read_number) (defScope s__read_number) [] [] (He.ga K "_read_number") fd
  g__read_number : mg "_read_number" = some (.ref (He.ga K "_read_number"))
  d__read_char : ∃ fd : FuncData, FunD K "_read_char" "_read_char" (defArgs s__read_char) (defBody s__read_char) (defScope s__read_char) [] [] (He.ga K "_read_char") fd
  g__read_char : mg "_read_char" = some (.ref (He.ga K "_read_char"))
  d__common : ∃ fd : FuncData, FunD K "_common" "_common" (defArgs s__common) (defBody s__common) (defScope s__common) [] [] (He.ga K "_common") fd
  g__common : mg "_common" = some (.ref (He.ga K "_common"))
  d__read_word : ∃ fd : FuncData, FunD K "_read_word" "_read_word" (defArgs s__read_word) (defBody s__read_word) (defScope s__read_word) [] [] (He.ga K "_read_word") fd
  g__read_word : mg "_read_word" = some (.ref (He.ga K "_read_word"))
  d_read_log : ∃ fd : FuncData, FunD K "read_log" "read_log" (defArgs s_read_log) (defBody s_read_log) (defScope s_read_log) [] [] (He.ga K "read_log") fd
  g_read_log : mg "read_log" = some (.ref (He.ga K "read_log"))
  d__ticks : ∃ fd : FuncData, FunD K "_ticks" "_ticks" (defArgs s__ticks) (defBody s__ticks) (defScope s__ticks) [] [] (He.ga K "_ticks") fd
  g__ticks : mg "_ticks" = some (.ref (He.ga K "_ticks"))
  d_caller_book : ∃ fd : FuncData, FunD K "caller_book" "caller_book" (defArgs s_caller_book) (defBody s_caller_book) (defScope s_caller_book) [] [] (He.ga K "caller_book") fd
  g_caller_book : mg "caller_book" = some (.ref (He.ga K "caller_book"))
  d_server_book : ∃ fd : FuncData, FunD K "server_book" "server_book" (defArgs s_server_book) (defBody s_server_book) (defScope s_server_book) [] [] (He.ga K "server_book") fd
  g_server_book : mg "server_book" = some (.ref (He.ga K "server_book"))
  d__law_source : ∃ fd : FuncData, FunD K "_law_source" "_law_source" (defArgs s__law_source) (defBody s__law_source) (defScope s__law_source) [] [] (He.ga K "_law_source") fd
  g__law_source : mg "_law_source" = some (.ref (He.ga K "_law_source"))
  d__law_take : ∃ fd : FuncData, FunD K "_law_take" "_law_take" (defArgs s__law_take) (defBody s__law_take) (defScope s__law_take) [] [] (He.ga K "_law_take") fd
  g__law_take : mg "_law_take" = some (.ref (He.ga K "_law_take"))
  d__law_is_int : ∃ fd : FuncData, FunD K "_law_is_int" "_law_is_int" (defArgs s__law_is_int) (defBody s__law_is_int) (defScope s__law_is_int) [] [] (He.ga K "_law_is_int") fd
  g__law_is_int : mg "_law_is_int" = some (.ref (He.ga K "_law_is_int"))
  d__law_numbered : ∃ fd : FuncData, FunD K "_law_numbered" "_law_numbered" (defArgs s__law_numbered) (defBody s__law_numbered) (defScope s__law_numbered) [] [] (He.ga K "_law_numbered") fd
  g__law_numbered : mg "_law_numbered" = some (.ref (He.ga K "_law_numbered"))
  d__law_event : ∃ fd : FuncData, FunD K "_law_event" "_law_event" (defArgs s__law_event) (defBody s__law_event) (defScope s__law_event) [] [] (He.ga K "_law_event") fd
  g__law_event : mg "_law_event" = some (.ref (He.ga K "_law_event"))
  d__law_row : ∃ fd : FuncData, FunD K "_law_row" "_law_row" (defArgs s__law_row) (defBody s__law_row) (defScope s__law_row) [] [] (He.ga K "_law_row") fd
  g__law_row : mg "_law_row" = some (.ref (He.ga K "_law_row"))
  d__law_write : ∃ fd : FuncData, FunD K "_law_write" "_law_write" (defArgs s__law_write) (defBody s__law_write) (defScope s__law_write) [] [] (He.ga K "_law_write") fd
  g__law_write : mg "_law_write" = some (.ref (He.ga K "_law_write"))
  d__law_endings : ∃ fd : FuncData, FunD K "_law_endings" "_law_endings" (defArgs s__law_endings) (defBody s__law_endings) (defScope s__law_endings) [] [] (He.ga K "_law_endings") fd
  g__law_endings : mg "_law_endings" = some (.ref (He.ga K "_law_endings"))
  d__law_begins : ∃ fd : FuncData, FunD K "_law_begins" "_law_begins" (defArgs s__law_begins) (defBody s__law_begins) (defScope s__law_begins) [] [] (He.ga K "_law_begins") fd
  g__law_begins : mg "_law_begins" = some (.ref (He.ga K "_law_begins"))
  d__law_place : ∃ fd : FuncData, FunD K "_law_place" "_law_place" (defArgs s__law_place) (defBody s__law_place) (defScope s__law_place) [] [] (He.ga K "_law_place") fd
  g__law_place : mg "_law_place" = some (.ref (He.ga K "_law_place"))
  d__law_line : ∃ fd : FuncData, FunD K "_law_line" "_law_line" (defArgs s__law_line) (defBody s__law_line) (defScope s__law_line) [] [] (He.ga K "_law_line") fd
  g__law_line : mg "_law_line" = some (.ref (He.ga K "_law_line"))
  d__law_read : ∃ fd : FuncData, FunD K "_law_read" "_law_read" (defArgs s__law_read) (defBody s__law_read) (defScope s__law_read) [] [] (He.ga K "_law_read") fd
  g__law_read : mg "_law_read" = some (.ref (He.ga K "_law_read"))
  d__law_same_row : ∃ fd : FuncData, FunD K "_law_same_row" "_law_same_row" (defArgs s__law_same_row) (defBody s__law_same_row) (defScope s__law_same_row) [] [] (He.ga K "_law_same_row") fd
  g__law_same_row : mg "_law_same_row" = some (.ref (He.ga K "_law_same_row"))
  d__law_reads : ∃ fd : FuncData, FunD K "_law_reads" "_law_reads" (defArgs s__law_reads) (defBody s__law_reads) (defScope s__law_reads) [] [] (He.ga K "_law_reads") fd
  g__law_reads : mg "_law_reads" = some (.ref (He.ga K "_law_reads"))
  d__law_char : ∃ fd : FuncData, FunD K "_law_char" "_law_char" (defArgs s__law_char) (defBody s__law_char) (defScope s__law_char) [] [] (He.ga K "_law_char") fd
  g__law_char : mg "_law_char" = some (.ref (He.ga K "_law_char"))
  d__law_odd_text : ∃ fd : FuncData, FunD K "_law_odd_text" "_law_odd_text" (defArgs s__law_odd_text) (defBody s__law_odd_text) (defScope s__law_odd_text) [] [] (He.ga K "_law_odd_text") fd
  g__law_odd_text : mg "_law_odd_text" = some (.ref (He.ga K "_law_odd_text"))
  d__law_second_text : ∃ fd : FuncData, FunD K "_law_second_text" "_law_second_text" (defArgs s__law_second_text) (defBody s__law_second_text) (defScope s__law_second_text) [] [] (He.ga K "_law_second_text") fd
  g__law_second_text : mg "_law_second_text" = some (.ref (He.ga K "_law_second_text"))
  d__law_odd_thing : ∃ fd : FuncData, FunD K "_law_odd_thing" "_law_odd_thing" (defArgs s__law_odd_thing) (defBody s__law_odd_thing) (defScope s__law_odd_thing) [] [] (He.ga K "_law_odd_thing") fd
  g__law_odd_thing : mg "_law_odd_thing" = some (.ref (He.ga K "_law_odd_thing"))
  d__law_is_event : ∃ fd : FuncData, FunD K "_law_is_event" "_law_is_event" (defArgs s__law_is_event) (defBody s__law_is_event) (defScope s__law_is_event) [] [] (He.ga K "_law_is_event") fd
  g__law_is_event : mg "_law_is_event" = some (.ref (He.ga K "_law_is_event"))
  d__law_first_bad : ∃ fd : FuncData, FunD K "_law_first_bad" "_law_first_bad" (defArgs s__law_first_bad) (defBody s__law_first_bad) (defScope s__law_first_bad) [] [] (He.ga K "_law_first_bad") fd
  g__law_first_bad : mg "_law_first_bad" = some (.ref (He.ga K "_law_first_bad"))
  d__law_is_book : ∃ fd : FuncData, FunD K "_law_is_book" "_law_is_book" (defArgs s__law_is_book) (defBody s__law_is_book) (defScope s__law_is_book) [] [] (He.ga K "_law_is_book") fd
  g__law_is_book : mg "_law_is_book" = some (.ref (He.ga K "_law_is_book"))
  d__law_are_books : ∃ fd : FuncData, FunD K "_law_are_books" "_law_are_books" (defArgs s__law_are_books) (defBody s__law_are_books) (defScope s__law_are_books) [] [] (He.ga K "_law_are_books") fd
  g__law_are_books : mg "_law_are_books" = some (.ref (He.ga K "_law_are_books"))
  d__law_checks : ∃ fd : FuncData, FunD K "_law_checks" "_law_checks" (defArgs s__law_checks) (defBody s__law_checks) (defScope s__law_checks) [] [] (He.ga K "_law_checks") fd
  g__law_checks : mg "_law_checks" = some (.ref (He.ga K "_law_checks"))
  d_law : ∃ fd : FuncData, FunD K "law" "law" (defArgs s_law) (defBody s_law) (defScope s_law) [] [] (He.ga K "law") fd
  g_law : mg "law" = some (.ref (He.ga K "law"))
  c_MOST_TICK : ∃ t : Tok, mg "MOST_TICK" = some (.int 400 t)
  c_LAST_NUMBER : ∃ t : Tok, mg "LAST_NUMBER" = some (.int 39 t)
  c_NUMBERED : mg "NUMBERED" = some (.ref (He.ga K "NUMBERED")) ∧ ∀ M, Dp K M (.ref (He.ga K "NUMBERED")) cv_NUMBERED
  c_PLAIN : mg "PLAIN" = some (.ref (He.ga K "PLAIN")) ∧ ∀ M, Dp K M (.ref (He.ga K "PLAIN")) cv_PLAIN
  c_ENDED : mg "ENDED" = some (.ref (He.ga K "ENDED")) ∧ ∀ M, Dp K M (.ref (He.ga K "ENDED")) cv_ENDED
  c_DIGITS : ∃ t : Tok, mg "DIGITS" = some (.str "0123456789" t)
  e_TrunkError : ErrC K "TrunkError" []
  g_TrunkError : mg "TrunkError" = some (.ref (He.ga K "TrunkError"))
  xm_TrunkError : ∀ y ∈ KN, PySem.W.exmOne K (.ref (He.ga K y)) (.ref (He.ga K "TrunkError")) = some (cm_TrunkError y)
  is_TrunkError : ∀ y ∈ KN, ExcC K (He.ga K y) ∧ PySem.W.kitOne K (.ref (He.ga K y)) (.ref (He.ga K "TrunkError")) = some (cm_TrunkError y)
  e_BadBook : ErrC K "BadBook" ["part"]
  g_BadBook : mg "BadBook" = some (.ref (He.ga K "BadBook"))
  xm_BadBook : ∀ y ∈ KN, PySem.W.exmOne K (.ref (He.ga K y)) (.ref (He.ga K "BadBook")) = some (cm_BadBook y)
  is_BadBook : ∀ y ∈ KN, ExcC K (He.ga K y) ∧ PySem.W.kitOne K (.ref (He.ga K y)) (.ref (He.ga K "BadBook")) = some (cm_BadBook y)
  e_BadLine : ErrC K "BadLine" ["line", "column"]
  g_BadLine : mg "BadLine" = some (.ref (He.ga K "BadLine"))
  xm_BadLine : ∀ y ∈ KN, PySem.W.exmOne K (.ref (He.ga K y)) (.ref (He.ga K "BadLine")) = some (cm_BadLine y)
  is_BadLine : ∀ y ∈ KN, ExcC K (He.ga K y) ∧ PySem.W.kitOne K (.ref (He.ga K y)) (.ref (He.ga K "BadLine")) = some (cm_BadLine y)
  is_ValueError : ∀ y ∈ KN, ExcC K (He.ga K y) ∧ PySem.W.kitOne K (.ref (He.ga K y)) (.type "ValueError") = some (cm_ValueError y)
  di_BadBook : ∃ fd : FuncData, FunD K "__init__" "BadBook.__init__" (defArgs i_BadBook) (defBody i_BadBook) (defScope i_BadBook) [] [] (He.ma K (He.ga K "BadBook") "__init__") fd
  fi_BadBook : PySem.W.findIn K (.ref (He.ga K "BadBook")) "__init__" = some (some (.ref (He.ma K (He.ga K "BadBook") "__init__")))
  ti_BadBook : PySem.W.typeIn K (.ref (He.ma K (He.ga K "BadBook") "__init__")) = some (.type "function")
  di_BadLine : ∃ fd : FuncData, FunD K "__init__" "BadLine.__init__" (defArgs i_BadLine) (defBody i_BadLine) (defScope i_BadLine) [] [] (He.ma K (He.ga K "BadLine") "__init__") fd
  fi_BadLine : PySem.W.findIn K (.ref (He.ga K "BadLine")) "__init__" = some (some (.ref (He.ma K (He.ga K "BadLine") "__init__")))
  ti_BadLine : PySem.W.typeIn K (.ref (He.ma K (He.ga K "BadLine") "__init__")) = some (.type "function")
  f_part : ∀ y ∈ kf_part, XfC K (He.ga K y) ∧ PySem.W.findIn K (.ref (He.ga K y)) "part" = some none
  f_line : ∀ y ∈ kf_line, XfC K (He.ga K y) ∧ PySem.W.findIn K (.ref (He.ga K y)) "line" = some none
  f_column : ∀ y ∈ kf_column, XfC K (He.ga K y) ∧ PySem.W.findIn K (.ref (He.ga K y)) "column" = some none
section
variable {P : Program} {w : World} {K : PySem.W.Frag} {mg : Str → Option Value} {base : Heap}
theorem io_BadBook (T : Tx K mg) : InitOk P w K mg base "BadBook" ["part"] := by
  obtain ⟨fd, FD⟩ := T.di_BadBook
  exact ⟨T.e_BadBook, _, fd, ["self", "part"], T.fi_BadBook, T.ti_BadBook, rfl, init1 T.e_BadBook FD ⟨rfl, rfl, rfl, by decide +kernel, rfl, by decide +kernel, by decide +kernel⟩, FD.bindsN fun _ _ _ _ _ _ us hl => match us, hl with | [_, _], _ => rfl⟩
theorem io_BadLine (T : Tx K mg) : InitOk P w K mg base "BadLine" ["line", "column"] := by
  obtain ⟨fd, FD⟩ := T.di_BadLine
  exact ⟨T.e_BadLine, _, fd, ["self", "line", "column"], T.fi_BadLine, T.ti_BadLine, rfl, init2 T.e_BadLine FD ⟨rfl, rfl, rfl, by decide +kernel, rfl, by decide +kernel, by decide +kernel⟩, FD.bindsN fun _ _ _ _ _ _ us hl => match us, hl with | [_, _, _], _ => rfl⟩
abbrev N_is_int : List Str := ["value"]
theorem sc_is_int : FnScope N_is_int ["value"] (defScope s_is_int) := ⟨rfl, rfl, rfl, by decide +kernel, rfl, by decide +kernel, by decide +kernel⟩
def ts_is_int : TDs := (sRet true (eAnd (eIsi isIntS (eV 0)) (eNot (eIsi isBoolS (eV 0)))))
open N49
def C_is_int : Ctr := fun args R _ => ∃ x, args = [.d x] ∧ okD x = true ∧ R (.d (.bool (isIntD x)))
theorem ad_is_int : AdOk C_is_int ts_is_int N_is_int 1 := by
  rintro args R RX hl ⟨x, rfl, h1, h2⟩
  cases x <;> simp [okD] at h1 <;> simp [ts_is_int, startD, isD, isIntS, isBoolS, wB, isIntD] at h2 ⊢ <;> exact h2
@[simp] theorem at_is_int (x : PyData) (R : SV → Prop) (RX : Exn → Prop) : C_is_int [.d x] R RX ↔ (okD x = true ∧ R (.d (.bool (isIntD x)))) := ⟨fun ⟨_, e, h⟩ => by cases e; exact h, fun h => ⟨_, rfl, h⟩⟩
theorem h_is_int (T : Tx K mg) : Has P w K mg base (LK K) "is_int" 1 ["value"] C_is_int := by
  have m_int : mg "int" = none := T.fr "int" (by decide)
  have m_isinstance : mg "isinstance" = none := T.fr "isinstance" (by decide)
  have m_bool : mg "bool" = none := T.fr "bool" (by decide)
  obtain ⟨fd, FD⟩ := T.d_is_int
  refine ⟨fd, ?_, FD.bindsN fun _ _ _ _ _ _ us hl => match us, hl with | [_], _ => rfl, T.g_is_int, FD.kp⟩
  refine fn_ok (ts := ts_is_int) FD sc_is_int (fun cdv A outer s H E hr => ?_) ad_is_int
  have sc := sc_is_int
  exact (ds_one (d_ret (dx_and (dx_isi kit_int (by rfl) m_int (by decide +kernel) (by rfl) m_isinstance (by decide +kernel) (dx_var 0)) (dx_one (dx_not (dx_isi kit_bool (by rfl) m_bool (by decide +kernel) (by rfl) m_isinstance (by decide +kernel) (dx_var 0)))))))
abbrev N_is_int_in : List Str := ["value", "low", "high"]
theorem sc_is_int_in : FnScope N_is_int_in ["value", "low", "high"] (defScope s_is_int_in) := ⟨rfl, rfl, rfl, by decide +kernel, rfl, by decide +kernel, by decide +kernel⟩
def ts_is_int_in : TDs := (sRet true (eAnd (eCall 1 C_is_int (aCons (eV 0) aNil)) (eChain (fun i j => decide (i ≤ j)) (fun i j => decide (i ≤ j)) (eV 1) (eV 0) (eV 2))))
def C_is_int_in : Ctr := fun args R _ => ∃ x lo hi, args = [.d x, .d (.int lo), .d (.int hi)] ∧ okD x = true ∧ R (.d (.bool (inRD x lo hi)))
theorem ad_is_int_in : AdOk C_is_int_in ts_is_int_in N_is_int_in 3 := by
  rintro args R RX hl ⟨x, lo, hi, rfl, h1, h2⟩
  cases x <;> simp [okD] at h1 <;> simp [ts_is_int_in, startD, okD, isIntD, wB, opD, cmpI, inRD] at h2 ⊢
  case int i =>
    by_cases h : lo ≤ i
    · simpa [h] using h2
    · simpa [h] using h2
  all_goals exact h2
@[simp] theorem at_is_int_in (x : PyData) (lo hi : Int) (R : SV → Prop) (RX : Exn → Prop) : C_is_int_in [.d x, .d (.int lo), .d (.int hi)] R RX ↔ (okD x = true ∧ R (.d (.bool (inRD x lo hi)))) := ⟨fun ⟨_, _, _, e, h⟩ => by cases e; exact h, fun h => ⟨_, _, _, rfl, h⟩⟩
theorem h_is_int_in (T : Tx K mg) : Has P w K mg base (LK K) "is_int_in" 2 ["value", "low", "high"] C_is_int_in := by
  obtain ⟨_, F_is_int, B_is_int, M_is_int, K_is_int⟩ := h_is_int (P := P) (w := w) (base := base) T
  obtain ⟨fd, FD⟩ := T.d_is_int_in
  refine ⟨fd, ?_, FD.bindsN fun _ _ _ _ _ _ us hl => match us, hl with | [_, _, _], _ => rfl, T.g_is_int_in, FD.kp⟩
  refine fn_ok (ts := ts_is_int_in) FD sc_is_int_in (fun cdv A outer s H E hr => ?_) ad_is_int_in
  have sc := sc_is_int_in
  exact (ds_one (d_ret (dx_and (dx_call (k := 1) F_is_int takes_cx (by exact hr.mono (by decide)) (by rfl) M_is_int K_is_int B_is_int (da_cons (dx_var 0) da_nil)) (dx_one (dx_chain op_le op_le (dx_var 1) (dx_var 0) (dx_var 2))))))
abbrev N_is_event : List Str := ["thing", "tick", "word", "number"]
theorem sc_is_event : FnScope N_is_event ["thing"] (defScope s_is_event) := ⟨rfl, rfl, rfl, by decide +kernel, rfl, by decide +kernel, by decide +kernel⟩
def ts_is_event : TDs := (sSeq (sIf (tOrD (tNotD (tOf (eIsi isTupS (eV 0)))) (tB2 (opD neD) (e1 lenV (eV 0)) (eC (.int 3))))
  (sRet true (eC (.bool false)))
  sNil)
  (sSeq (sUnp fb (eV 0) (gT 3 (gsCons (gN 1) (gsCons (gN 2) (gsCons (gN 3) gsNil)))))
  (sSeq (sIf (tOrD (tNotD (tOf (eCall 3 C_is_int_in (aCons (eV 1) (aCons (eC (.int 0)) (aCons (eC cv_MOST_TICK) aNil)))))) (tNotD (tOf (eIsi isStrS (eV 2)))))
  (sRet true (eC (.bool false)))
  sNil)
  (sSeq (sIf (tB2 (opD (inD false)) (eV 2) (eC cv_PLAIN))
  (sRet true (eCall 3 C_is_int_in (aCons (eV 3) (aCons (eNeg (eC (.int 1))) (aCons (eNeg (eC (.int 1))) aNil)))))
  sNil)
  (sRet true (eAnd (eB (opD (inD false)) (eV 2) (eC cv_NUMBERED)) (eCall 3 C_is_int_in (aCons (eV 3) (aCons (eC (.int 0)) (aCons (eC cv_LAST_NUMBER) aNil))))))))))
def plainW : List Str := ["crash", "give up"]
theorem plain_eq : cv_PLAIN = .tuple (plainW.map .str) := rfl
theorem num_eq : cv_NUMBERED = .tuple (numW.map .str) := by rw [wds]; rfl
def isEv (x : PyData) : Bool := match x with
  | .tuple [t, .str w, n] => inRD t 0 400 && (if w ∈ plainW then inRD n (-1) (-1) else decide (w ∈ numW) && inRD n 0 39)
  | _ => false
def C_is_event : Ctr := fun args R _ => ∃ x, args = [.d x] ∧ nolist x = true ∧ R (.d (.bool (isEv x)))
theorem ad_is_event : AdOk C_is_event ts_is_event N_is_event 1 := by
  rintro args R RX hl ⟨x, rfl, h1, h2⟩
  have other : ∀ xs : List PyData, xs.length ≠ 3 → isEv (.tuple xs) = false := fun xs h => by
    rcases xs with _ | ⟨t, _ | ⟨w, _ | ⟨n, _ | ⟨_, _⟩⟩⟩⟩ <;> first | rfl | (simp at h; done) | (cases w <;> rfl)
  cases x with
  | tuple xs =>
    by_cases h3 : xs.length = 3
    · obtain ⟨t, w, n, rfl⟩ : ∃ t w n, xs = [t, w, n] := by
        rcases xs with _ | ⟨t, _ | ⟨w, _ | ⟨n, _ | ⟨_, _⟩⟩⟩⟩ <;> simp at h3
        exact ⟨t, w, n, rfl⟩
      simp at h1
      obtain ⟨ht, hw, hn⟩ := h1
      have ot := okD_nol ht
      have ow := okD_nol hw
      have on := okD_nol hn
      cases w with
      | str w =>
        simp [ts_is_event, startD, ht, hn, plain_eq, num_eq, inD_strs, ot, on]
        simp [isEv] at h2
        cases h : inRD t 0 400 with
        | false => simpa [h] using h2
        | true =>
          by_cases hp : w ∈ plainW
          · simpa [h, hp] using h2
          · by_cases hm : w ∈ numW
            · simpa [h, hp, hm] using h2
            · simpa [h, hp, hm] using h2
      | _ => first
        | (simp [nolist] at hw; done)
        | (simp [ts_is_event, startD, ht, hn, ot, on, isStrD]
           simp [isEv] at h2
           cases h : inRD t 0 400 <;> (try simp [h]) <;> first | exact h2 | exact ⟨by simpa [nolist] using hw, h2⟩)
    · rw [other xs h3] at h2
      have e : ¬ ((xs.length : Int) = 3) := by omega
      simpa [ts_is_event, startD, e] using h2
  | _ => first
    | (simp [nolist] at h1; done)
    | (simp [ts_is_event, startD, isTupD, isEv] at h2 ⊢; exact h2)
@[simp] theorem at_is_event (x : PyData) (R : SV → Prop) (RX : Exn → Prop) : C_is_event [.d x] R RX ↔ (nolist x = true ∧ R (.d (.bool (isEv x)))) := ⟨fun ⟨_, e, h⟩ => by cases e; exact h, fun h => ⟨_, rfl, h⟩⟩
theorem h_is_event (T : Tx K mg) : Has P w K mg base (LK K) "is_event" 3 ["thing"] C_is_event := by
  obtain ⟨_, F_is_int_in, B_is_int_in, M_is_int_in, K_is_int_in⟩ := h_is_int_in (P := P) (w := w) (base := base) T
  have m_str : mg "str" = none := T.fr "str" (by decide)
  have m_isinstance : mg "isinstance" = none := T.fr "isinstance" (by decide)
  have m_tuple : mg "tuple" = none := T.fr "tuple" (by decide)
  have m_len : mg "len" = none := T.fr "len" (by decide)
  have mc_NUMBERED := T.c_NUMBERED
  obtain ⟨_, mc_LAST_NUMBER⟩ := T.c_LAST_NUMBER
  have mc_PLAIN := T.c_PLAIN
  obtain ⟨_, mc_MOST_TICK⟩ := T.c_MOST_TICK
  obtain ⟨fd, FD⟩ := T.d_is_event
  refine ⟨fd, ?_, FD.bindsN fun _ _ _ _ _ _ us hl => match us, hl with | [_], _ => rfl, T.g_is_event, FD.kp⟩
  refine fn_ok (ts := ts_is_event) FD sc_is_event (fun cdv A outer s H E hr => ?_) ad_is_event
  have sc := sc_is_event
  exact (ds_cons (d_if (dt_w (dw_or (dt_not (dt_of (dx_isi kit_tup (by rfl) m_tuple (by decide +kernel) (by rfl) m_isinstance (by decide +kernel) (dx_var 0)))) (dw_or1 (dt_ne (by exact hr.units) (dx_len (by rfl) m_len (dx_var 0)) dx_int))))
  (ds_one (d_ret dx_bool))
  ds_nil)
  (ds_cons (d_unpack (dx_var 0) (dg_tup (by rfl) (dgs_name 1 sc.nd (dgs_name 2 sc.nd (dgs_name 3 sc.nd dgs_nil)))))
  (ds_cons (d_if (dt_w (dw_or (dt_not (dt_of (dx_call (k := 2) F_is_int_in takes_cx (by exact hr.mono (by decide)) (by rfl) M_is_int_in K_is_int_in B_is_int_in (da_cons (dx_var 1) (da_cons (dx_w fb dx_int) (da_cons (dx_w fb (dx_glob_int (by rfl) mc_MOST_TICK)) da_nil)))))) (dw_or1 (dt_not (dt_of (dx_isi kit_str (by rfl) m_str (by decide +kernel) (by rfl) m_isinstance (by decide +kernel) (dx_var 2)))))))
  (ds_one (d_ret dx_bool))
  ds_nil)
  (ds_cons (d_if (dt_in (by exact Room.u65 hr) (dx_var 2) (dx_glob_tup (by rfl) mc_PLAIN.1 mc_PLAIN.2))
  (ds_one (d_ret (dx_call (k := 2) F_is_int_in takes_cx (by exact hr.mono (by decide)) (by rfl) M_is_int_in K_is_int_in B_is_int_in (da_cons (dx_var 3) (da_cons (dx_w fb (dx_neg dx_int)) (da_cons (dx_w fb (dx_neg dx_int)) da_nil))))))
  ds_nil)
  (ds_one (d_ret (dx_and (dx_in (by exact Room.u65 hr) (dx_var 2) (dx_glob_tup (by rfl) mc_NUMBERED.1 mc_NUMBERED.2)) (dx_one (dx_call (k := 2) F_is_int_in takes_cx (by exact hr.mono (by decide)) (by rfl) M_is_int_in K_is_int_in B_is_int_in (da_cons (dx_var 3) (da_cons (dx_w fb dx_int) (da_cons (dx_w fb (dx_glob_int (by rfl) mc_LAST_NUMBER)) da_nil))))))))))))
abbrev N_check_log : List Str := ["log", "before", "at", "event"]
theorem sc_check_log : FnScope N_check_log ["log"] (defScope s_check_log) := ⟨rfl, rfl, rfl, by decide +kernel, rfl, by decide +kernel, by decide +kernel⟩
def ts_check_log : TDs := (sSeq (sSet ff 1 (eC (.int 0)))
  (sFor (iEnumD fs (eVD 0)) (gT 2 (gsCons (gN 2) (gsCons (gN 3) gsNil)))
  (sSeq (sIf (tOrD (tNotD (tOf (eCall 1 C_is_event (aCons (eV 3) aNil)))) (tB2 (opD (cmpI fun i j => decide (i < j))) (eIx (eV 3) (eC (.int 0))) (eV 1)))
  (sRaise "BadBook" ["part"] (aCons (eN (eV 2)) aNil))
  sNil)
  (sSet fb 1 (eIx (eV 3) (eC (.int 0)))))))
def tickD (x : PyData) : Int := match x with
  | .tuple (.int i :: _) => i
  | _ => 0
def scanL : Int → Nat → List PyData → Option Nat
  | _, _, [] => none
  | low, k, x :: r => if isEv x = true ∧ low ≤ tickD x then scanL (tickD x) (k + 1) r else some k
theorem isEv_out {x : PyData} (h : isEv x = true) : ∃ i w n, x = .tuple [.int i, .str w, n] ∧ 0 ≤ i ∧ i ≤ 400 := by
  unfold isEv at h
  split at h
  · rename_i t w n
    rw [Bool.and_eq_true] at h
    have h1 := h.1
    cases t <;> simp [inRD] at h1
    exact ⟨_, _, _, rfl, h1.1, h1.2⟩
  · cases h
def badBook (k : Nat) : Exn := ⟨"BadBook", [("part", .int (k : Nat))]⟩
def C_check_log : Ctr := fun args R RX => ∃ xs, args = [.d (.tuple xs)] ∧ nolistA xs = true ∧ (match scanL 0 0 xs with
  | none => R (.d .none)
  | some k => RX (badBook k))
theorem ad_check_log : AdOk C_check_log ts_check_log N_check_log 1 := by
  rintro args R RX hl ⟨xs, rfl, h1, h2⟩
  simp [ts_check_log, startD, pairsD_eq]
  have loop : ∀ (r : List PyData) (k : Nat) (low : Int) (o2 o3 : Option SV), nolistA r = true → (match scanL low k r with | none => R (.d .none) | some k => RX (badBook k)) →
      forL (gT 2 (gsCons (gN 2) (gsCons (gN 3) gsNil))) (sSeq (sIf (tOrD (tNotD (tOf (eCall 1 C_is_event (aCons (eV 3) aNil)))) (tB2 (opD (cmpI fun i j => decide (i < j))) (eIx (eV 3) (eC (.int 0))) (eV 1)))
        (sRaise "BadBook" ["part"] (aCons (eN (eV 2)) aNil)) sNil) (sSet fb 1 (eIx (eV 3) (eC (.int 0))))) (pairsFrom k r) [some (.d (.tuple xs)), some (.d (.int low)), o2, o3]
        { nx := fun _ => R (.d .none), rt := fun _ => R, xc := fun _ => RX } := by
    intro r
    induction r with
    | nil => intro k low o2 o3 _ h; exact h
    | cons x r ih =>
      intro k low o2 o3 hn h
      simp at hn
      rw [pairsFrom, forL_cons]
      simp [hn.1]
      rw [scanL] at h
      cases he : isEv x with
      | false =>
        simp [he] at h ⊢
        exact h
      | true =>
        obtain ⟨i, w, n, rfl, _, _⟩ := isEv_out he
        simp [he, tickD] at h ⊢
        by_cases hlt : i < low
        · have : ¬ low ≤ i := by omega
          simp [hlt, this] at h ⊢
          exact h
        · have : low ≤ i := by omega
          simp [hlt, this] at h ⊢
          exact ih (k + 1) i _ _ hn.2 h
  exact loop xs 0 0 none none h1 h2
@[simp] theorem at_check_log (xs : List PyData) (R : SV → Prop) (RX : Exn → Prop) : C_check_log [.d (.tuple xs)] R RX ↔ (nolistA xs = true ∧ (match scanL 0 0 xs with | none => R (.d .none) | some k => RX (badBook k))) := ⟨fun ⟨_, e, h⟩ => by cases e; exact h, fun h => ⟨_, rfl, h⟩⟩
theorem h_check_log (T : Tx K mg) : Has P w K mg base (LK K) "check_log" 4 ["log"] C_check_log := by
  obtain ⟨_, F_is_event, B_is_event, M_is_event, K_is_event⟩ := h_is_event (P := P) (w := w) (base := base) T
  have m_enumerate : mg "enumerate" = none := T.fr "enumerate" (by decide)
  obtain ⟨fd, FD⟩ := T.d_check_log
  refine ⟨fd, ?_, FD.bindsN fun _ _ _ _ _ _ us hl => match us, hl with | [_], _ => rfl, T.g_check_log, FD.kp⟩
  refine fn_ok (ts := ts_check_log) FD sc_check_log (fun cdv A outer s H E hr => ?_) ad_check_log
  have sc := sc_check_log
  exact (ds_cons (d_set 1 sc.nd dx_int)
  (ds_one (d_for (by exact passes_of rfl) (by rfl) (di_enum (fl := fs) true (by rfl) m_enumerate (dx_varD 0)) (dg_tup (by rfl) (dgs_name 2 sc.nd (dgs_name 3 sc.nd dgs_nil)))
  (ds_cons (d_if (dt_w (dw_or (dt_not (dt_of (dx_call (k := 3) F_is_event takes_cx (by exact hr.mono (by decide)) (by rfl) M_is_event K_is_event B_is_event (da_cons (dx_var 3) da_nil)))) (dw_or1 (dt_lt (dx_w fb (dx_ix (dx_var 3) dx_int)) (dx_var 1)))))
  (ds_one (d_raise (fl := ff) (io_BadBook T) (by decide) takes_cx (by rfl) (by exact hr.mono (by decide)) (by rfl) T.g_BadBook (by decide) (da_cons (dx_n (dx_var 2)) da_nil)))
  ds_nil)
  (ds_one (d_set 1 sc.nd (dx_w fb (dx_ix (dx_var 3) dx_int))))))))
abbrev N__write_event : List Str := ["event", "tick", "word", "number"]
theorem sc__write_event : FnScope N__write_event ["event"] (defScope s__write_event) := ⟨rfl, rfl, rfl, by decide +kernel, rfl, by decide +kernel, by decide +kernel⟩
def ts__write_event : TDs := (sSeq (sUnp fb (eV 0) (gT 3 (gsCons (gN 1) (gsCons (gN 2) (gsCons (gN 3) gsNil)))))
  (sSeq (sIf (tB2 (opD (inD false)) (eV 2) (eC cv_PLAIN))
  (sRet true (eB addV (eB addV (e1 (un1 strD) (eV 1)) (eC (.str " "))) (eV 2)))
  sNil)
  (sRet true (eB addV (eB addV (eB addV (eB addV (e1 (un1 strD) (eV 1)) (eC (.str " "))) (eV 2)) (eC (.str " "))) (e1 (un1 strD) (eV 3))))))
def evText (x : PyData) : Str := match x with
  | .tuple [.int i, .str w, .int n] => if w ∈ plainW then numS i ++ " " ++ w else numS i ++ " " ++ w ++ " " ++ numS n
  | _ => ""
theorem isEv_full {x : PyData} (h : isEv x = true) : ∃ i w n, x = .tuple [.int i, .str w, .int n] ∧ 0 ≤ i ∧ i ≤ 400 ∧ ((w ∈ plainW ∧ n = -1) ∨ (w ∉ plainW ∧ w ∈ numW ∧ 0 ≤ n ∧ n ≤ 39)) := by
  obtain ⟨i, w, n, rfl, h1, h2⟩ := isEv_out h
  simp [isEv, inRD, h1, h2] at h
  by_cases hp : w ∈ plainW
  · simp [hp] at h
    cases n <;> simp at h
    rename_i n
    exact ⟨i, w, n, rfl, h1, h2, .inl ⟨hp, by omega⟩⟩
  · simp [hp] at h
    obtain ⟨hm, h⟩ := h
    cases n <;> simp at h
    rename_i n
    exact ⟨i, w, n, rfl, h1, h2, .inr ⟨hp, hm, h.1, h.2⟩⟩
theorem wlen {w : Str} (h : w ∈ plainW ∨ w ∈ numW) : w.length ≤ 7 := by
  have : ∀ w ∈ plainW ++ numW, w.length ≤ 7 := by decide +kernel
  exact this w (List.mem_append.mpr h)
theorem app_len (a b : Str) : (a ++ b).length = a.length + b.length := strLen_append a b
def C__write_event : Ctr := fun args R RX => ∃ x, args = [.d x] ∧ isEv x = true ∧ R (.d (.str (evText x)))
theorem ad__write_event : AdOk C__write_event ts__write_event N__write_event 1 := by
  rintro args R RX hl ⟨x, rfl, h1, h2⟩
  obtain ⟨i, w, n, rfl, i0, i1, hw⟩ := isEv_full h1
  have lb := line_big
  have li := numS_len i0 i1
  have lg := log2_small i0 i1
  have e1 : ((" " : String) : Str).length = 1 := rfl
  rcases hw with ⟨hp, rfl⟩ | ⟨hp, hm, n0, n1⟩
  · have lw := wlen (.inl hp)
    simp [ts__write_event, startD, plain_eq, inD_strs, hp, lg, app_len, e1]
    refine ⟨by omega, by omega, ?_⟩
    simpa [evText, hp] using h2
  · have lw := wlen (.inr hm)
    have ln := numS_len n0 (by omega)
    have lgn := log2_small n0 (by omega)
    simp [ts__write_event, startD, plain_eq, inD_strs, hp, lg, lgn, app_len, e1]
    refine ⟨by omega, by omega, by omega, by omega, ?_⟩
    simpa [evText, hp] using h2
@[simp] theorem at__write_event (x : PyData) (R : SV → Prop) (RX : Exn → Prop) : C__write_event [.d x] R RX ↔ (isEv x = true ∧ R (.d (.str (evText x)))) := ⟨fun ⟨_, e, h⟩ => by cases e; exact h, fun h => ⟨_, rfl, h⟩⟩
theorem evText_len {x : PyData} (h : isEv x = true) : (evText x).length ≤ 15 := by
  obtain ⟨i, w, n, rfl, i0, i1, hw⟩ := isEv_full h
  have li := numS_len i0 i1
  have e1 : ((" " : String) : Str).length = 1 := rfl
  rcases hw with ⟨hp, rfl⟩ | ⟨hp, hm, n0, n1⟩
  · have lw := wlen (.inl hp)
    simp [evText, hp, app_len, e1]
    omega
  · have lw := wlen (.inr hm)
    have ln := numS_len n0 (by omega)
    simp [evText, hp, app_len, e1]
    omega
theorem h__write_event (T : Tx K mg) : Has P w K mg base (LK K) "_write_event" 1 ["event"] C__write_event := by
  have m_str : mg "str" = none := T.fr "str" (by decide)
  have mc_PLAIN := T.c_PLAIN
  obtain ⟨fd, FD⟩ := T.d__write_event
  refine ⟨fd, ?_, FD.bindsN fun _ _ _ _ _ _ us hl => match us, hl with | [_], _ => rfl, T.g__write_event, FD.kp⟩
  refine fn_ok (ts := ts__write_event) FD sc__write_event (fun cdv A outer s H E hr => ?_) ad__write_event
  have sc := sc__write_event
  exact (ds_cons (d_unpack (dx_var 0) (dg_tup (by rfl) (dgs_name 1 sc.nd (dgs_name 2 sc.nd (dgs_name 3 sc.nd dgs_nil)))))
  (ds_cons (d_if (dt_in (by exact Room.u65 hr) (dx_var 2) (dx_glob_tup (by rfl) mc_PLAIN.1 mc_PLAIN.2))
  (ds_one (d_ret (dx_add (dx_add (dx_strc (by rfl) m_str (dx_var 1)) dx_str) (dx_var 2))))
  ds_nil)
  (ds_one (d_ret (dx_add (dx_add (dx_add (dx_add (dx_strc (by rfl) m_str (dx_var 1)) dx_str) (dx_var 2)) dx_str) (dx_strc (by rfl) m_str (dx_var 3)))))))
abbrev N_write_log : List Str := ["log", "event"]
theorem sc_write_log : FnScope N_write_log ["log"] (defScope s_write_log) := ⟨rfl, rfl, rfl, by decide +kernel, rfl, by decide +kernel, by decide +kernel⟩
def ts_write_log : TDs := (sSeq (sExpr (eCall 1 C_check_log (aCons (eV 0) aNil)))
  (sRet true (eSm joinV (eC (.str "")) (lcD (iVarD 0) (gN 1) tYesD (eB addV (eCall 1 C__write_event (aCons (eV 1) aNil)) (eC (.str "\n"))) [1]))))
theorem strsD_map' {α : Type} (f : α → Str) (l : List α) : strsD (l.map fun x => .str (f x)) = some (l.map f) := by
  have := strsD_map (l.map f)
  rwa [List.map_map] at this
theorem sum_len {α : Type} (f : α → Str) (b : Nat) : ∀ (l : List α), (∀ x ∈ l, (f x).length ≤ b) → ((l.map f).map (·.length)).sum ≤ b * l.length
  | [], _ => by simp
  | x :: r, h => by
    have h1 := h x (by simp)
    have h2 := sum_len f b r (fun x hx => h x (by simp [hx]))
    simp only [List.map_cons, List.sum_cons, List.length_cons, Nat.mul_add]
    omega
def logText (xs : List PyData) : Str := Txt.join "" (xs.map fun x => evText x ++ "\n")
theorem scan_none : ∀ {xs : List PyData} {low : Int} {k : Nat}, scanL low k xs = none → ∀ x ∈ xs, isEv x = true
  | [], _, _, _, _, h => by cases h
  | x :: r, low, k, h, y, hy => by
    unfold scanL at h
    split at h
    · rename_i hc
      rcases List.mem_cons.mp hy with rfl | hy
      · exact hc.1
      · exact scan_none h y hy
    · cases h
def C_write_log : Ctr := fun args R RX => ∃ xs, args = [.d (.tuple xs)] ∧ nolistA xs = true ∧ xs.length ≤ 1000 ∧ (match scanL 0 0 xs with
  | none => R (.d (.str (logText xs)))
  | some k => RX (badBook k))
theorem ad_write_log : AdOk C_write_log ts_write_log N_write_log 1 := by
  rintro args R RX hl ⟨xs, rfl, h1, h0, h2⟩
  simp [ts_write_log, startD, h1]
  cases hs : scanL 0 0 xs with
  | some k => simpa [hs] using h2
  | none =>
    simp [hs] at h2 ⊢
    have ev := scan_none hs
    refine ⟨by omega, lcL_map (fun x => .str (evText x ++ "\n")) _ _ _ (fun d hd k1 k0 hk => ?_) ?_⟩
    · have := evText_len (ev d hd)
      have lb := line_big
      have e1 : (("\n" : String) : Str).length = 1 := rfl
      simp [wipeD, ev d hd, app_len]
      exact ⟨by omega, hk⟩
    · simp
      refine ⟨_, strsD_map' _ _, ?_, h2⟩
      have := sum_len (fun x => evText x ++ "\n") 16 xs (fun x hx => by
        have := evText_len (ev x hx)
        have e1 : (("\n" : String) : Str).length = 1 := rfl
        simp [app_len]; omega)
      have e0 : (("" : String) : Str).length = 0 := rfl
      simp [e0] at this ⊢
      omega
theorem h_write_log (T : Tx K mg) : Has P w K mg base (LK K) "write_log" 5 ["log"] C_write_log := by
  obtain ⟨_, F__write_event, B__write_event, M__write_event, K__write_event⟩ := h__write_event (P := P) (w := w) (base := base) T
  obtain ⟨_, F_check_log, B_check_log, M_check_log, K_check_log⟩ := h_check_log (P := P) (w := w) (base := base) T
  obtain ⟨fd, FD⟩ := T.d_write_log
  refine ⟨fd, ?_, FD.bindsN fun _ _ _ _ _ _ us hl => match us, hl with | [_], _ => rfl, T.g_write_log, FD.kp⟩
  refine fn_ok (ts := ts_write_log) FD sc_write_log (fun cdv A outer s H E hr => ?_) ad_write_log
  have sc := sc_write_log
  exact (ds_cons (d_expr (dx_call (k := 4) F_check_log takes_cx (by exact hr.mono (by decide)) (by rfl) M_check_log K_check_log B_check_log (da_cons (dx_var 0) da_nil)))
  (ds_one (d_ret (dx_join dx_str (dx_lc (own := [("event", 1)]) sc.nd (di_var 0) (blkOk_by (own := [("event", 1)]) (N := N_write_log) (sc := defScope s_write_log) (by decide +kernel)) (fun _ _ _ _ _ => (dg_name 1 sc.nd)) (fun _ _ _ _ _ => dts_nil) (fun _ _ _ _ _ => (dx_add (dx_call (k := 1) F__write_event takes0 (by exact hr.mono (by decide)) (by rfl) M__write_event K__write_event B__write_event (da_cons (dx_var 1) da_nil)) dx_str)))))))
abbrev N__refuse : List Str := ["text", "at", "before"]
theorem sc__refuse : FnScope N__refuse ["text", "at"] (defScope s__refuse) := ⟨rfl, rfl, rfl, by decide +kernel, rfl, by decide +kernel, by decide +kernel⟩
def ts__refuse : TDs := (sSeq (sSet ff 2 (eSl (eV 0) oNone (oSome (eV 1))))
  (sRaise "BadLine" ["line", "column"] (aCons (eB addV (eSm (opD (ssI Txt.count)) (eV 2) (eC (.str "\n"))) (eC (.int 1))) (aCons (eB (opD subD) (eV 1) (eSm (opD (ssI Txt.rfind)) (eV 2) (eC (.str "\n")))) aNil))))
def cutT (s : Str) (a : Nat) : Str := cutS s none (some (a : Int))
def badLine (s : Str) (a : Nat) : Exn := ⟨"BadLine", [("line", .int (Txt.count (cutT s a) "\n" + 1)), ("column", .int ((a : Int) - Txt.rfind (cutT s a) "\n"))]⟩
def C__refuse : Ctr := fun args R RX => ∃ (s : Str) (a : Nat), args = [.d (.str s), .d (.int a)] ∧ s.length ≤ sizeLine ∧ RX (badLine s a)
theorem ad__refuse : AdOk C__refuse ts__refuse N__refuse 2 := by
  rintro args R RX hl ⟨s, a, rfl, h1, h2⟩
  simp [ts__refuse, startD, h1, subD]
  exact h2
@[simp] theorem at__refuse (s : Str) (a : Nat) (R : SV → Prop) (RX : Exn → Prop) : C__refuse [.d (.str s), .d (.int a)] R RX ↔ (s.length ≤ sizeLine ∧ RX (badLine s a)) := ⟨fun ⟨_, _, e, h⟩ => by
  simp only [List.cons.injEq, SV.d.injEq, PyData.str.injEq, PyData.int.injEq, Int.natCast_inj, and_true] at e
  obtain ⟨rfl, rfl⟩ := e
  exact h, fun h => ⟨_, _, rfl, h⟩⟩
theorem h__refuse (T : Tx K mg) : Has P w K mg base (LK K) "_refuse" 3 ["text", "at"] C__refuse := by
  obtain ⟨fd, FD⟩ := T.d__refuse
  refine ⟨fd, ?_, FD.bindsN fun _ _ _ _ _ _ us hl => match us, hl with | [_, _], _ => rfl, T.g__refuse, FD.kp⟩
  refine fn_ok (ts := ts__refuse) FD sc__refuse (fun cdv A outer s H E hr => ?_) ad__refuse
  have sc := sc__refuse
  exact (ds_cons (d_set 2 sc.nd (dx_slice (dx_var 0) do_none (do_some (dx_var 1))))
  (ds_one (d_raise (fl := ff) (io_BadLine T) (by decide) takes_cx (by rfl) (by exact hr.mono (by decide)) (by rfl) T.g_BadLine (by decide) (da_cons (dx_add (dx_count (dx_var 2) dx_str) dx_int) (da_cons (dx_sub (dx_var 1) (dx_rfind (dx_var 2) dx_str)) da_nil)))))
abbrev N__can_begin : List Str := ["number", "low", "high", "least", "most"]
theorem sc__can_begin : FnScope N__can_begin ["number", "low", "high"] (defScope s__can_begin) := ⟨rfl, rfl, rfl, by decide +kernel, rfl, by decide +kernel, by decide +kernel⟩
def ts__can_begin : TDs := (sSeq (sSet fb 3 (eV 0))
  (sSeq (sSet fb 4 (eV 0))
  (sSeq (whileD (tB2 (opD (cmpI fun i j => decide (i ≤ j))) (eV 3) (eV 2))
  (sSeq (sIf (tB2 (opD (cmpI fun i j => decide (j ≤ i))) (eV 4) (eV 1))
  (sRet true (eC (.bool true)))
  sNil)
  (sSeq (sIf (tB2 (opD eqD) (eV 0) (eC (.int 0)))
  (sRet true (eC (.bool false)))
  sNil)
  (sSeq (sSet ff 3 (eB (opD mulD) (eV 3) (eC (.int 10))))
  (sSet ff 4 (eB addV (eB (opD mulD) (eV 4) (eC (.int 10))) (eC (.int 9))))))))
  (sRet true (eC (.bool false))))))
def C__can_begin : Ctr := fun args R _ => ∃ (n lo hi : Int), args = [.d (.int n), .d (.int lo), .d (.int hi)] ∧ 0 ≤ n ∧ hi ≤ 400 ∧ R (.d (.bool (canB n lo hi)))
theorem ad__can_begin : AdOk C__can_begin ts__can_begin N__can_begin 3 := by
  rintro args R RX hl ⟨n, lo, hi, rfl, h0, h1, h2⟩
  simp [ts__can_begin, startD, whileD]
  refine ⟨fun f δ => ∃ a b : Int, δ = [some (.d (.int n)), some (.d (.int lo)), some (.d (.int hi)), some (.d (.int a)), some (.d (.int b))] ∧ 0 ≤ a ∧ 0 ≤ b ∧ (n ≠ 0 → hi < a * 10 ^ f) ∧ (n = 0 → 1 ≤ f) ∧ R (.d (.bool (canF n lo hi f a b))), ⟨4, n, n, rfl, h0, h0, by intro h; omega, by intro; omega, h2⟩, ?_⟩
  rintro f δ ⟨a, b, rfl, a0, b0, hf, hz, h⟩
  cases f with
  | zero =>
    have hn : n ≠ 0 := fun e => by have := hz e; omega
    have : ¬ a ≤ hi := by have := hf hn; omega
    simp [this]
    simpa [canF] using h
  | succ f =>
    rw [canF] at h
    by_cases h1 : a ≤ hi
    · by_cases h2 : lo ≤ b
      · simp [h1, h2] at h ⊢
        exact h
      · by_cases h3 : n = 0
        · simp [h1, h2, h3] at h ⊢
          exact h
        · simp [h1, h2, h3, mulD] at h ⊢
          refine ⟨.inr ⟨by omega, by omega⟩, .inr ⟨by omega, by omega⟩, f, by omega, _, _, ⟨rfl, rfl⟩, by omega, by omega, ?_, h⟩
          have := hf h3
          rwa [Int.mul_assoc, ← Int.pow_succ'] 
    · simp [h1] at h ⊢
      exact h
@[simp] theorem at__can_begin (n lo hi : Int) (R : SV → Prop) (RX : Exn → Prop) : C__can_begin [.d (.int n), .d (.int lo), .d (.int hi)] R RX ↔ (0 ≤ n ∧ hi ≤ 400 ∧ R (.d (.bool (canB n lo hi)))) := ⟨fun ⟨_, _, _, e, h⟩ => by cases e; exact h, fun h => ⟨_, _, _, rfl, h⟩⟩
theorem h__can_begin (T : Tx K mg) : Has P w K mg base (LK K) "_can_begin" 1 ["number", "low", "high"] C__can_begin := by
  obtain ⟨fd, FD⟩ := T.d__can_begin
  refine ⟨fd, ?_, FD.bindsN fun _ _ _ _ _ _ us hl => match us, hl with | [_, _, _], _ => rfl, T.g__can_begin, FD.kp⟩
  refine fn_ok (ts := ts__can_begin) FD sc__can_begin (fun cdv A outer s H E hr => ?_) ad__can_begin
  have sc := sc__can_begin
  exact (ds_cons (d_set 3 sc.nd (dx_var 0))
  (ds_cons (d_set 4 sc.nd (dx_var 0))
  (ds_cons (d_while (by exact passes_of rfl) (dt_le (dx_var 3) (dx_var 2))
  (ds_cons (d_if (dt_ge (dx_var 4) (dx_var 1))
  (ds_one (d_ret dx_bool))
  ds_nil)
  (ds_cons (d_if (dt_eq (by exact hr.units) (dx_var 0) dx_int)
  (ds_one (d_ret dx_bool))
  ds_nil)
  (ds_cons (d_set 3 sc.nd (dx_mul (dx_var 3) dx_int))
  (ds_one (d_set 4 sc.nd (dx_add (dx_mul (dx_var 4) dx_int) dx_int)))))))
  (ds_one (d_ret dx_bool)))))
abbrev N__read_number : List Str := ["text", "at", "low", "high", "number", "start", "longer"]
theorem sc__read_number : FnScope N__read_number ["text", "at", "low", "high"] (defScope s__read_number) := ⟨rfl, rfl, rfl, by decide +kernel, rfl, by decide +kernel, by decide +kernel⟩
def ts__read_number : TDs := (sSeq (sSet ff 4 (eC (.int 0)))
  (sSeq (sSet fb 5 (eV 1))
  (sSeq (whileD (tAndD (tB2 (opD (cmpI fun i j => decide (i < j))) (eV 1) (e1 lenV (eV 0))) (tB2 (opD (inD false)) (eIx (eV 0) (eV 1)) (eC cv_DIGITS)))
  (sSeq (sSet ff 6 (eB addV (eB (opD mulD) (eV 4) (eC (.int 10))) (eSm (opD indexD) (eC cv_DIGITS) (eIx (eV 0) (eV 1)))))
  (sSeq (sIf (tOrD (tAndD (tB2 (opD (cmpI fun i j => decide (j < i))) (eV 1) (eV 5)) (tB2 (opD eqD) (eV 4) (eC (.int 0)))) (tNotD (tOf (eCall 3 C__can_begin (aCons (eV 6) (aCons (eV 2) (aCons (eV 3) aNil)))))))
  (sExpr (eCall 2 C__refuse (aCons (eV 0) (aCons (eV 1) aNil))))
  sNil)
  (sSeq (sSet fb 4 (eV 6))
  (sAug augA 1 (eC (.int 1)))))))
  (sSeq (sIf (tOrD (tB2 (opD eqD) (eV 1) (eV 5)) (tB2 (opD (cmpI fun i j => decide (i < j))) (eV 4) (eV 2)))
  (sExpr (eCall 2 C__refuse (aCons (eV 0) (aCons (eV 1) aNil))))
  sNil)
  (sRet true (eTup (aCons (eN (eV 4)) (aCons (eN (eV 1)) aNil))))))))
theorem dig_eq : cv_DIGITS = .str digs := rfl
def C__read_number : Ctr := fun args R RX => ∃ (s : Str) (a : Nat) (lo hi : Int), args = [.d (.str s), .d (.int a), .d (.int lo), .d (.int hi)] ∧ s.length ≤ sizeLine ∧ hi ≤ 400 ∧ a ≤ s.length ∧
  (match rdN lo hi (s.cps.toList.drop a) 0 0 with | (some n, k) => R (.d (.tuple [.int n, .int ((a + k : Nat) : Int)])) | (none, k) => RX (badLine s (a + k)))
theorem ad__read_number : AdOk C__read_number ts__read_number N__read_number 4 := by
  rintro args R RX hl ⟨s, a, lo, hi, rfl, h1, h2, h3, h⟩
  have ls := slen s
  simp [ts__read_number, startD, whileD, dig_eq]
  refine ⟨fun m δ => ∃ (p : Nat) (n : Int) (o : Option SV), δ = [some (.d (.str s)), some (.d (.int (p : Int))), some (.d (.int lo)), some (.d (.int hi)), some (.d (.int n)), some (.d (.int a)), o] ∧ 0 ≤ n ∧ a ≤ p ∧ p ≤ s.length ∧ m = s.length - p ∧
    (match rdN lo hi (s.cps.toList.drop p) n (p - a) with | (some n, k) => R (.d (.tuple [.int n, .int ((a + k : Nat) : Int)])) | (none, k) => RX (badLine s (a + k))), ⟨_, a, 0, none, rfl, by omega, Nat.le_refl _, h3, rfl, by simpa using h⟩, ?_⟩
  rintro m δ ⟨p, n, o, rfl, n0, ha, hk, rfl, h⟩
  have ap : a + (p - a) = p := by omega
  have fin : (match rdEnd lo n (p - a) with | (some n, k) => R (.d (.tuple [.int n, .int ((a + k : Nat) : Int)])) | (none, k) => RX (badLine s (a + k))) →
      if (p : Int) = (a : Int) then RX (badLine s p) else if n < lo then RX (badLine s p) else R (.d (.tuple [.int n, .int (p : Int)])) := fun h => by
    unfold rdEnd at h
    by_cases e1 : p = a
    · subst e1; simpa using h
    · have e2 : ¬ p - a = 0 := by omega
      have e3 : ¬ (p : Int) = (a : Int) := by omega
      by_cases e4 : n < lo
      · simpa [e2, e3, e4, ap] using h
      · simp only [e2, e4, or_self, if_false, ap] at h
        simpa [e3, e4] using h
  by_cases hlt : p < s.length
  · have hg : s.cps.toList[p]? = some s.cps.toList[p] := List.getElem?_eq_getElem (by omega)
    rw [List.drop_eq_getElem_cons (by omega), rdN] at h
    generalize s.cps.toList[p] = c at hg h
    cases hd : isDig c with
    | false =>
      have hm : c ∉ digs.cps.toList := fun g => by rw [(mem_digs c).mp g] at hd; cases hd
      rw [hd] at h
      have hat : atI s.cps.toList (p : Int) = some c := by rw [atI_at]; exact hg
      have hm' : ¬ c ∈ digs.cps := by simpa using hm
      simp [h1, hlt, hat, hm']
      exact fin h
    | true =>
      have hm : c ∈ digs.cps.toList := (mem_digs c).mpr hd
      rw [hd] at h
      have hat : atI s.cps.toList (p : Int) = some c := by rw [atI_at]; exact hg
      have hm' : c ∈ digs.cps := by simpa using hm
      simp [h1, hlt, hat, hm', digs_ix hd]
      refine ⟨.inr ⟨by omega, by omega⟩, ?_⟩
      have dv : n * 10 + ((c - 48 : Nat) : Int) = digV n c := rfl
      rw [dv]
      have nn := digV_nn c n0
      by_cases hb : canB (digV n c) lo hi = true
      · have nb : ¬ canB (digV n c) lo hi = false := by rw [hb]; simp
        by_cases h5 : a < p
        · by_cases h6 : n = 0
          · have : 0 < p - a ∧ n = 0 := ⟨by omega, h6⟩
            rw [if_pos rfl, if_pos (.inl this)] at h
            simp only [ap] at h
            simpa [h5, h6] using h
          · have : ¬ (0 < p - a ∧ n = 0) := fun g => h6 g.2
            simp only [this, nb, or_self, if_false, if_true] at h
            simp [h5, h6, hb, nn, h2]
            refine ⟨s.length - (p + 1), by omega, p + 1, _, ⟨by omega, rfl⟩, nn, by omega, by omega, rfl, ?_⟩
            rw [show p + 1 - a = p - a + 1 by omega]; simpa using h
        · have : ¬ (0 < p - a ∧ n = 0) := fun g => by omega
          simp only [this, nb, or_self, if_false, if_true] at h
          simp [h5, hb, nn, h2]
          refine ⟨s.length - (p + 1), by omega, p + 1, _, ⟨by omega, rfl⟩, nn, by omega, by omega, rfl, ?_⟩
          rw [show p + 1 - a = p - a + 1 by omega]; simpa using h
      · have hb' : canB (digV n c) lo hi = false := by simpa using hb
        rw [if_pos rfl, if_pos (.inr hb')] at h
        simp only [ap] at h
        simp [hb', nn, h2]
        exact h
  · rw [List.drop_eq_nil_of_le (by omega), rdN] at h
    simp [h1, hlt]
    exact fin h
theorem at__read_number {s : Str} (a : Nat) {i lo hi : Int} {R : SV → Prop} {RX : Exn → Prop} (ei : i = a) (h1 : s.length ≤ sizeLine) (h2 : hi ≤ 400) (h3 : a ≤ s.length)
    (h : match rdN lo hi (s.cps.toList.drop a) 0 0 with | (some n, k) => R (.d (.tuple [.int n, .int ((a + k : Nat) : Int)])) | (none, k) => RX (badLine s (a + k))) : C__read_number [.d (.str s), .d (.int i), .d (.int lo), .d (.int hi)] R RX := ⟨_, a, _, _, by rw [ei], h1, h2, h3, h⟩
theorem h__read_number (T : Tx K mg) : Has P w K mg base (LK K) "_read_number" 4 ["text", "at", "low", "high"] C__read_number := by
  obtain ⟨_, F__refuse, B__refuse, M__refuse, K__refuse⟩ := h__refuse (P := P) (w := w) (base := base) T
  obtain ⟨_, F__can_begin, B__can_begin, M__can_begin, K__can_begin⟩ := h__can_begin (P := P) (w := w) (base := base) T
  have m_len : mg "len" = none := T.fr "len" (by decide)
  obtain ⟨_, mc_DIGITS⟩ := T.c_DIGITS
  obtain ⟨fd, FD⟩ := T.d__read_number
  refine ⟨fd, ?_, FD.bindsN fun _ _ _ _ _ _ us hl => match us, hl with | [_, _, _, _], _ => rfl, T.g__read_number, FD.kp⟩
  refine fn_ok (ts := ts__read_number) FD sc__read_number (fun cdv A outer s H E hr => ?_) ad__read_number
  have sc := sc__read_number
  exact (ds_cons (d_set 4 sc.nd dx_int)
  (ds_cons (d_set 5 sc.nd (dx_var 1))
  (ds_cons (d_while (by exact passes_of rfl) (dt_w (dw_and (dt_lt (dx_var 1) (dx_len (by rfl) m_len (dx_var 0))) (dw_and1 (dt_in (by exact Room.u65 hr) (dx_w fb (dx_ix (dx_var 0) (dx_var 1))) (dx_glob_str (by rfl) mc_DIGITS)))))
  (ds_cons (d_set 6 sc.nd (dx_add (dx_mul (dx_var 4) dx_int) (dx_index (dx_glob_str (by rfl) mc_DIGITS) (dx_w fb (dx_ix (dx_var 0) (dx_var 1))))))
  (ds_cons (d_if (dt_w (dw_or (dt_w (dw_and (dt_gt (dx_var 1) (dx_var 5)) (dw_and1 (dt_eq (by exact hr.units) (dx_var 4) dx_int)))) (dw_or1 (dt_not (dt_of (dx_call (k := 1) F__can_begin takes_cx (by exact hr.mono (by decide)) (by rfl) M__can_begin K__can_begin B__can_begin (da_cons (dx_var 6) (da_cons (dx_var 2) (da_cons (dx_var 3) da_nil)))))))))
  (ds_one (d_expr (dx_call (k := 3) F__refuse takes_cx (by exact hr.mono (by decide)) (by rfl) M__refuse K__refuse B__refuse (da_cons (dx_var 0) (da_cons (dx_var 1) da_nil)))))
  ds_nil)
  (ds_cons (d_set 4 sc.nd (dx_var 6))
  (ds_one (d_augAdd 1 sc.nd dx_int))))))
  (ds_cons (d_if (dt_w (dw_or (dt_eq (by exact hr.units) (dx_var 1) (dx_var 5)) (dw_or1 (dt_lt (dx_var 4) (dx_var 2)))))
  (ds_one (d_expr (dx_call (k := 3) F__refuse takes_cx (by exact hr.mono (by decide)) (by rfl) M__refuse K__refuse B__refuse (da_cons (dx_var 0) (da_cons (dx_var 1) da_nil)))))
  ds_nil)
  (ds_one (d_ret (dx_tup (da_cons (dx_n (dx_var 4)) (da_cons (dx_n (dx_var 1)) da_nil)))))))))
abbrev N__read_char : List Str := ["text", "at", "wanted"]
theorem sc__read_char : FnScope N__read_char ["text", "at", "wanted"] (defScope s__read_char) := ⟨rfl, rfl, rfl, by decide +kernel, rfl, by decide +kernel, by decide +kernel⟩
def ts__read_char : TDs := (sSeq (sIf (tB2 (opD neD) (eSl (eV 0) (oSome (eV 1)) (oSome (eB addV (eV 1) (eC (.int 1))))) (eV 2))
  (sExpr (eCall 2 C__refuse (aCons (eV 0) (aCons (eV 1) aNil))))
  sNil)
  (sRet true (eB addV (eV 1) (eC (.int 1)))))
def C__read_char : Ctr := fun args R RX => ∃ (s : Str) (a c : Nat), args = [.d (.str s), .d (.int a), .d (.str (chr1 c))] ∧ s.length ≤ sizeLine ∧
  (if s.cps.toList[a]? = some c then R (.d (.int ((a + 1 : Nat) : Int))) else RX (badLine s a))
theorem at__read_char {s : Str} (a c : Nat) {i : Int} {z : Str} {R : SV → Prop} {RX : Exn → Prop} (ei : i = a) (hz : z = chr1 c) (h1 : s.length ≤ sizeLine)
    (h : if s.cps.toList[a]? = some c then R (.d (.int ((a + 1 : Nat) : Int))) else RX (badLine s a)) : C__read_char [.d (.str s), .d (.int i), .d (.str z)] R RX := ⟨s, a, c, by rw [hz, ei], h1, h⟩
theorem ad__read_char : AdOk C__read_char ts__read_char N__read_char 3 := by
  rintro args R RX hl ⟨s, a, c, rfl, h1, h⟩
  simp [ts__read_char, startD, h1]
  have hc : (cutS s (some (a : Int)) (some ((a : Int) + 1)) = chr1 c) ↔ s.cps.toList[a]? = some c := by
    have e := cutS_nat s a (a + 1)
    rw [show ((a + 1 : Nat) : Int) = (a : Int) + 1 by omega, show a + 1 - a = 1 by omega] at e
    constructor
    · intro g
      rw [g] at e
      exact StrLaws.take1_drop.mp (by rw [← e]; simp [chr1])
    · intro g
      refine str_ext ?_
      rw [e]
      have := StrLaws.take1_drop.mpr g
      simpa [chr1] using this
  by_cases g : s.cps.toList[a]? = some c
  · rw [if_pos g] at h
    simp [hc.mpr g]
    simpa using h
  · rw [if_neg g] at h
    have : ¬ cutS s (some (a : Int)) (some ((a : Int) + 1)) = chr1 c := fun q => g (hc.mp q)
    simp [this, h1]
    exact h
theorem h__read_char (T : Tx K mg) : Has P w K mg base (LK K) "_read_char" 4 ["text", "at", "wanted"] C__read_char := by
  obtain ⟨_, F__refuse, B__refuse, M__refuse, K__refuse⟩ := h__refuse (P := P) (w := w) (base := base) T
  obtain ⟨fd, FD⟩ := T.d__read_char
  refine ⟨fd, ?_, FD.bindsN fun _ _ _ _ _ _ us hl => match us, hl with | [_, _, _], _ => rfl, T.g__read_char, FD.kp⟩
  refine fn_ok (ts := ts__read_char) FD sc__read_char (fun cdv A outer s H E hr => ?_) ad__read_char
  have sc := sc__read_char
  exact (ds_cons (d_if (dt_ne (by exact hr.units) (dx_slice (dx_var 0) (do_some (dx_var 1)) (do_some (dx_add (dx_var 1) dx_int))) (dx_var 2))
  (ds_one (d_expr (dx_call (k := 3) F__refuse takes_cx (by exact hr.mono (by decide)) (by rfl) M__refuse K__refuse B__refuse (da_cons (dx_var 0) (da_cons (dx_var 1) da_nil)))))
  ds_nil)
  (ds_one (d_ret (dx_add (dx_var 1) dx_int))))
abbrev N__common : List Str := ["text", "at", "ended", "count"]
theorem sc__common : FnScope N__common ["text", "at", "ended"] (defScope s__common) := ⟨rfl, rfl, rfl, by decide +kernel, rfl, by decide +kernel, by decide +kernel⟩
def ts__common : TDs := (sSeq (sSet ff 3 (eC (.int 0)))
  (sSeq (whileD (tAndD (tB2 (opD (cmpI fun i j => decide (i < j))) (eV 3) (e1 lenV (eV 2))) (tB2 (opD eqD) (eSl (eV 0) (oSome (eB addV (eV 1) (eV 3))) (oSome (eB addV (eB addV (eV 1) (eV 3)) (eC (.int 1))))) (eIx (eV 2) (eV 3))))
  (sAug augA 3 (eC (.int 1))))
  (sRet false (eV 3))))
def C__common : Ctr := fun args R RX => ∃ (s e : Str) (a : Nat), args = [.d (.str s), .d (.int a), .d (.str e)] ∧ s.length ≤ sizeLine ∧ e.length ≤ sizeLine ∧ R (.d (.int (comm (s.cps.toList.drop a) e.cps.toList : Nat)))
theorem ad__common : AdOk C__common ts__common N__common 3 := by
  rintro args R RX hl ⟨s, e, a, rfl, h1, h2, h⟩
  have le := slen e
  simp [ts__common, startD, whileD]
  refine ⟨fun m δ => ∃ k : Nat, δ = [some (.d (.str s)), some (.d (.int a)), some (.d (.str e)), some (.d (.int k))] ∧ k ≤ e.length ∧ m = e.length - k ∧ R (.d (.int ((k + comm (s.cps.toList.drop (a + k)) (e.cps.toList.drop k) : Nat) : Int))), ⟨_, 0, rfl, by omega, rfl, by simpa using h⟩, ?_⟩
  rintro m δ ⟨k, rfl, hk, rfl, h⟩
  by_cases hlt : k < e.length
  · have hg : e.cps.toList[k]? = some e.cps.toList[k] := List.getElem?_eq_getElem (by omega)
    generalize e.cps.toList[k] = c at hg
    have hat : atI e.cps.toList (k : Int) = some c := by rw [atI_at]; exact hg
    have h0 : (e.cps.toList.drop k)[0]? = some c := by rw [List.getElem?_drop]; exact hg
    have hc : (cutS s (some ((a : Int) + k)) (some ((a : Int) + k + 1)) = chr1 c) ↔ (s.cps.toList.drop (a + k))[0]? = some c := by
      have e' := cutS_nat s (a + k) (a + k + 1)
      rw [show ((a + k + 1 : Nat) : Int) = (a : Int) + k + 1 by omega, show ((a + k : Nat) : Int) = (a : Int) + k by omega, show a + k + 1 - (a + k) = 1 by omega] at e'
      rw [List.getElem?_drop, Nat.add_zero]
      constructor
      · intro g
        rw [g] at e'
        exact StrLaws.take1_drop.mp (by rw [← e']; simp [chr1])
      · intro g
        refine str_ext ?_
        rw [e']
        have := StrLaws.take1_drop.mpr g
        simpa [chr1] using this
    by_cases g : (s.cps.toList.drop (a + k))[0]? = some c
    · rw [comm_step c g h0, List.drop_drop, List.drop_drop] at h
      have g' := hc.mpr g
      unfold chr1 at g'
      simp [h1, h2, hlt, hat, g']
      refine ⟨e.length - (k + 1), by omega, k + 1, by omega, by omega, rfl, ?_⟩
      have q : ((k + (comm (s.cps.toList.drop (a + k + 1)) (e.cps.toList.drop (k + 1)) + 1) : Nat) : Int) = ((k + 1 + comm (s.cps.toList.drop (a + (k + 1))) (e.cps.toList.drop (k + 1)) : Nat) : Int) := by
        rw [Nat.add_assoc a k 1]; omega
      rw [q] at h
      simpa using h
    · rw [comm_stop c g h0] at h
      have g' : ¬ cutS s (some ((a : Int) + k)) (some ((a : Int) + k + 1)) = (⟨#[c]⟩ : Str) := fun q => g (hc.mp q)
      simp [h1, h2, hlt, hat, g']
      simpa using h
  · rw [List.drop_eq_nil_of_le (show e.cps.toList.length ≤ k by omega), comm_nil] at h
    simp [h1, h2, hlt]
    simpa using h
theorem h__common (T : Tx K mg) : Has P w K mg base (LK K) "_common" 1 ["text", "at", "ended"] C__common := by
  have m_len : mg "len" = none := T.fr "len" (by decide)
  obtain ⟨fd, FD⟩ := T.d__common
  refine ⟨fd, ?_, FD.bindsN fun _ _ _ _ _ _ us hl => match us, hl with | [_, _, _], _ => rfl, T.g__common, FD.kp⟩
  refine fn_ok (ts := ts__common) FD sc__common (fun cdv A outer s H E hr => ?_) ad__common
  have sc := sc__common
  exact (ds_cons (d_set 3 sc.nd dx_int)
  (ds_cons (d_while (by exact passes_of rfl) (dt_w (dw_and (dt_lt (dx_var 3) (dx_len (by rfl) m_len (dx_var 2))) (dw_and1 (dt_eq (by exact hr.units) (dx_slice (dx_var 0) (do_some (dx_add (dx_var 1) (dx_var 3))) (do_some (dx_add (dx_add (dx_var 1) (dx_var 3)) dx_int))) (dx_w fb (dx_ix (dx_var 2) (dx_var 3)))))))
  (ds_one (d_augAdd 3 sc.nd dx_int)))
  (ds_one (d_ret (dx_var 3)))))
abbrev N__read_word : List Str := ["text", "at", "furthest", "ended", "count"]
theorem sc__read_word : FnScope N__read_word ["text", "at"] (defScope s__read_word) := ⟨rfl, rfl, rfl, by decide +kernel, rfl, by decide +kernel, by decide +kernel⟩
def ts__read_word : TDs := (sSeq (sSet ff 2 (eC (.int 0)))
  (sSeq (sFor (iSeqD ff (eC cv_ENDED)) (gN 3)
  (sSeq (sSet ff 4 (eCall 3 C__common (aCons (eV 0) (aCons (eV 1) (aCons (eV 3) aNil)))))
  (sSeq (sIf (tB2 (opD eqD) (eV 4) (e1 lenV (eV 3)))
  (sRet true (eTup (aCons (eSl (eV 3) oNone (oSome (eNeg (eC (.int 1))))) (aCons (eB addV (eV 1) (eV 4)) aNil))))
  sNil)
  (sSet ff 2 (eB (opD (mmD fun i j => max i j)) (eV 2) (eV 4))))))
  (sExpr (eCall 2 C__refuse (aCons (eV 0) (aCons (eB addV (eV 1) (eV 2)) aNil))))))
theorem ended_eq : cv_ENDED = .tuple (ew.map fun e => .str (S e)) := rfl
theorem ew_len : ∀ e ∈ ew, e.length ≤ 10 := by decide
def C__read_word : Ctr := fun args R RX => ∃ (s : Str) (a : Nat), args = [.d (.str s), .d (.int a)] ∧ s.length ≤ sizeLine ∧
  (match rdW (s.cps.toList.drop a) ew 0 with | (some e, _) => R (.d (.tuple [.str (wordS e), .int ((a + e.length : Nat) : Int)])) | (none, far) => RX (badLine s (a + far)))
theorem at__read_word {s : Str} (a : Nat) {i : Int} {R : SV → Prop} {RX : Exn → Prop} (ei : i = a) (h1 : s.length ≤ sizeLine)
    (h : match rdW (s.cps.toList.drop a) ew 0 with | (some e, _) => R (.d (.tuple [.str (wordS e), .int ((a + e.length : Nat) : Int)])) | (none, far) => RX (badLine s (a + far))) : C__read_word [.d (.str s), .d (.int i)] R RX := ⟨s, a, by rw [ei], h1, h⟩
theorem ad__read_word : AdOk C__read_word ts__read_word N__read_word 2 := by
  rintro args R RX hl ⟨s, a, rfl, h1, h⟩
  simp [ts__read_word, startD, ended_eq]
  refine forL_inv (fun items δ => ∃ (r : List (List Nat)) (far : Nat) (o3 o4 : Option SV), items = r.map (fun e => .str (S e)) ∧ (∀ e ∈ r, e ∈ ew) ∧ δ = [some (.d (.str s)), some (.d (.int a)), some (.d (.int far)), o3, o4] ∧
    (match rdW (s.cps.toList.drop a) r far with | (some e, _) => R (.d (.tuple [.str (wordS e), .int ((a + e.length : Nat) : Int)])) | (none, far) => RX (badLine s (a + far)))) ?_ ?_ _ _ ⟨ew, 0, none, none, rfl, fun _ h => h, rfl, h⟩
  · rintro d items δ K hK ⟨r, far, o3, o4, e, hr, rfl, h⟩
    cases r with
    | nil => cases e
    | cons w r =>
      simp only [List.map_cons, List.cons.injEq] at e
      obtain ⟨rfl, rfl⟩ := e
      have he1 := ew_len w (hr w (by simp))
      have lb := line_big
      have lS := S_len w
      have cS := S_codes w
      simp
      refine ⟨s, S w, a, rfl, h1, by omega, ?_⟩
      rw [cS]
      rw [rdW] at h
      by_cases g : comm (s.cps.toList.drop a) w = w.length
      · rw [if_pos g] at h
        have l2 : w.length ≤ sizeLine := by omega
        simp [g, l2, lS, word_cut w (hr w (by simp))]
        simpa using h
      · rw [if_neg g] at h
        have l2 : w.length ≤ sizeLine := by omega
        have g' : ¬ ((comm (s.cps.toList.drop a) w : Nat) : Int) = (w.length : Int) := by omega
        simp [g', l2, lS]
        have q : ((max far (comm (s.cps.toList.drop a) w) : Nat) : Int) = max (far : Int) (comm (s.cps.toList.drop a) w : Nat) := by omega
        exact hK _ ⟨r, _, some (.d (.str (S w))), some (.d (.int (comm (s.cps.toList.drop a) w : Nat))), rfl, fun e he => hr e (by simp [he]), by rw [q], h⟩
  · rintro δ ⟨r, far, o3, o4, e, hr, rfl, h⟩
    cases r with
    | cons => cases e
    | nil =>
      simp
      exact ⟨s, a + far, by simp, h1, h⟩
theorem h__read_word (T : Tx K mg) : Has P w K mg base (LK K) "_read_word" 4 ["text", "at"] C__read_word := by
  obtain ⟨_, F__refuse, B__refuse, M__refuse, K__refuse⟩ := h__refuse (P := P) (w := w) (base := base) T
  obtain ⟨_, F__common, B__common, M__common, K__common⟩ := h__common (P := P) (w := w) (base := base) T
  have m_max : mg "max" = none := T.fr "max" (by decide)
  have m_len : mg "len" = none := T.fr "len" (by decide)
  have mc_ENDED := T.c_ENDED
  obtain ⟨fd, FD⟩ := T.d__read_word
  refine ⟨fd, ?_, FD.bindsN fun _ _ _ _ _ _ us hl => match us, hl with | [_, _], _ => rfl, T.g__read_word, FD.kp⟩
  refine fn_ok (ts := ts__read_word) FD sc__read_word (fun cdv A outer s H E hr => ?_) ad__read_word
  have sc := sc__read_word
  exact (ds_cons (d_set 2 sc.nd dx_int)
  (ds_cons (d_for (by exact passes_of rfl) (by rfl) (di_seq (fl := ff) true (dx_glob_tup (by rfl) mc_ENDED.1 mc_ENDED.2)) (dg_name 3 sc.nd)
  (ds_cons (d_set 4 sc.nd (dx_call (k := 1) F__common takes_cx (by exact hr.mono (by decide)) (by rfl) M__common K__common B__common (da_cons (dx_var 0) (da_cons (dx_var 1) (da_cons (dx_var 3) da_nil)))))
  (ds_cons (d_if (dt_eq (by exact hr.units) (dx_var 4) (dx_len (by rfl) m_len (dx_var 3)))
  (ds_one (d_ret (dx_tup (da_cons (dx_slice (dx_var 3) do_none (do_some (dx_neg dx_int))) (da_cons (dx_add (dx_var 1) (dx_var 4)) da_nil)))))
  ds_nil)
  (ds_one (d_set 2 sc.nd (dx_max2 (by rfl) (by rfl) m_max (dx_var 2) (dx_var 4)))))))
  (ds_one (d_expr (dx_call (k := 3) F__refuse takes_cx (by exact hr.mono (by decide)) (by rfl) M__refuse K__refuse B__refuse (da_cons (dx_var 0) (da_cons (dx_w fb (dx_add (dx_var 1) (dx_var 2))) da_nil)))))))
abbrev N_read_log : List Str := ["text", "events", "tick", "at", "word", "number"]
theorem sc_read_log : FnScope N_read_log ["text"] (defScope s_read_log) := ⟨rfl, rfl, rfl, by decide +kernel, rfl, by decide +kernel, by decide +kernel⟩
def ts_read_log : TDs := (sSeq (sSet ff 1 (eLst aNil))
  (sSeq (sSet ff 2 (eC (.int 0)))
  (sSeq (sSet ff 3 (eC (.int 0)))
  (sSeq (whileD (tB2 (opD (cmpI fun i j => decide (i < j))) (eV 3) (e1 lenV (eV 0)))
  (sSeq (sUnp ff (eCall 4 C__read_number (aCons (eV 0) (aCons (eV 3) (aCons (eV 2) (aCons (eC cv_MOST_TICK) aNil))))) (gT 2 (gsCons (gN 2) (gsCons (gN 3) gsNil))))
  (sSeq (sSet ff 3 (eCall 3 C__read_char (aCons (eV 0) (aCons (eV 3) (aCons (eC (.str " ")) aNil)))))
  (sSeq (sUnp ff (eCall 2 C__read_word (aCons (eV 0) (aCons (eV 3) aNil))) (gT 2 (gsCons (gN 4) (gsCons (gN 3) gsNil))))
  (sSeq (sSet ff 5 (eNeg (eC (.int 1))))
  (sSeq (sIf (tB2 (opD (inD false)) (eV 4) (eC cv_NUMBERED))
  (sSeq (sUnp ff (eCall 4 C__read_number (aCons (eV 0) (aCons (eV 3) (aCons (eC (.int 0)) (aCons (eC cv_LAST_NUMBER) aNil))))) (gT 2 (gsCons (gN 5) (gsCons (gN 3) gsNil))))
  (sSet ff 3 (eCall 3 C__read_char (aCons (eV 0) (aCons (eV 3) (aCons (eC (.str "\n")) aNil))))))
  sNil)
  (sApp 1 (eTup (aCons (eN (eV 2)) (aCons (eN (eV 4)) (aCons (eN (eV 5)) aNil)))))))))))
  (sRet true (e1 (un1 tupD) (eV 1)))))))
def C_read_log : Ctr := fun args R RX => ∃ (s : Str), args = [.d (.str s)] ∧ s.length ≤ sizeLine ∧
  (match rdLg s.cps.toList (s.length + 1) 0 0 [] with | (some xs, _) => R (.d (.tuple (xs.map evD))) | (none, p) => RX (badLine s p))
theorem evD_nol (xs : List Ev) : nolistA (xs.map evD) = true := by
  induction xs with
  | nil => rfl
  | cons x r ih => simp [evD, ih]
theorem ad_read_log : AdOk C_read_log ts_read_log N_read_log 1 := by
  rintro args R RX hl ⟨s, rfl, h1, h⟩
  have ls := slen s
  simp [ts_read_log, startD, num_eq]
  refine whileD_inv (fun f δ => ∃ (low : Nat) (a : Nat) (acc : List Ev) (o4 o5 : Option SV), δ = [some (.d (.str s)), some (.own (acc.map evD)), some (.d (.int low)), some (.d (.int a)), o4, o5] ∧ low ≤ 400 ∧ acc.length ≤ a ∧ a ≤ s.length ∧ s.length - a < f ∧
    (match rdLg s.cps.toList f low a acc with | (some xs, _) => R (.d (.tuple (xs.map evD))) | (none, p) => RX (badLine s p))) ⟨s.length + 1, 0, 0, [], none, none, rfl, by omega, by simp, by omega, by omega, h⟩ ?_
  rintro f δ K hK ⟨low, a, acc, o4, o5, rfl, hlow, ha, hk, hf, h⟩
  obtain ⟨f, rfl⟩ : ∃ g, f = g + 1 := ⟨f - 1, by omega⟩
  rw [rdLg] at h
  by_cases hlt : a < s.length
  · rw [if_pos (by omega)] at h
    simp only [tB2, eV, e1, opD_dd, svAt_zero, svAt_succ]
    simp [h1, hlt, inD_strs]
    have back : ∀ (x : Ev) (k : Nat), rdL low (s.cps.toList.drop a) = (some x, k) → 1 ≤ k ∧ a + k ≤ s.length ∧ s.length - (a + k) < f ∧ (acc ++ [x]).length ≤ a + k ∧ ∃ t : Nat, x.1 = t ∧ t ≤ 400 := fun x k e => by
      obtain ⟨q1, q2, q3, q4⟩ := rdL_le hlow e
      rw [List.length_drop] at q2
      refine ⟨q1, by omega, by omega, by simp; omega, x.1.toNat, by omega, by omega⟩
    have ln := line_big
    unfold rdL at h back
    refine at__read_number a rfl h1 (by omega) hk ?_
    cases e1 : rdN low 400 (s.cps.toList.drop a) 0 0 with
    | mk o k1 =>
      rw [e1] at h back
      cases o with
      | none => exact h
      | some t =>
        have r1 := rdN_le e1
        rw [List.length_drop] at r1
        simp only [List.drop_drop, List.getElem?_drop, Nat.add_zero] at h back
        simp
        refine at__read_char (a + k1) 32 (by omega) rfl h1 ?_
        by_cases g1 : s.cps.toList[a + k1]? = some 32
        · rw [if_pos g1] at h ⊢
          rw [if_pos g1] at back
          rw [storeV_ff]
          refine at__read_word (a + k1 + 1) rfl h1 ?_
          rw [show a + (k1 + 1) = a + k1 + 1 by omega] at h back
          cases e2 : rdW (s.cps.toList.drop (a + k1 + 1)) ew 0 with
          | mk o2 f2 =>
            rw [e2] at h back
            cases o2 with
            | none => simpa [Nat.add_assoc] using h
            | some w =>
              have hwl : w ∈ ew ∧ w.length ≤ (s.cps.toList.drop (a + k1 + 1)).length := by
                rcases rdW_spec (s.cps.toList.drop (a + k1 + 1)) ew ew 0 (fun _ h => h) ⟨by omega, [97, 115, 107, 32], by decide, List.nil_prefix⟩ (fun e h => .inl h) with ⟨e, f, e3, he, hp⟩ | ⟨f, e3, _⟩
                · rw [e2] at e3; cases e3; exact ⟨he, hp.length_le⟩
                · rw [e2] at e3; cases e3
              obtain ⟨hw, wl⟩ := hwl
              rw [List.length_drop] at wl
              have g1l : a + k1 < s.cps.toList.length := (List.getElem?_eq_some_iff.mp g1).1
              simp only at h back
              by_cases g2 : w ∈ numE
              · have g2' := (word_num w hw).mpr g2
                rw [if_pos g2] at h back
                simp [g2', inD_strs]
                have e5 : a + (k1 + 1 + w.length) = a + k1 + 1 + w.length := by omega
                refine at__read_number (a + (k1 + 1 + w.length)) (by omega) h1 (by omega) ?_ ?_
                · omega
                · cases e3 : rdN 0 39 (s.cps.toList.drop (a + (k1 + 1 + w.length))) 0 0 with
                  | mk o3 k3 =>
                    rw [e3] at h back
                    cases o3 with
                    | none => simpa [Nat.add_assoc] using h
                    | some n =>
                      simp only at h back
                      simp
                      have ep : a + (k1 + 1 + w.length) + k3 = a + (k1 + 1 + w.length + k3) := by omega
                      refine at__read_char (a + (k1 + 1 + w.length + k3)) 10 (by omega) rfl h1 ?_
                      by_cases g3 : s.cps.toList[a + (k1 + 1 + w.length + k3)]? = some 10
                      · rw [if_pos g3] at h ⊢
                        rw [if_pos g3] at back
                        obtain ⟨q1, q2, q3, q4, t', q6, q5⟩ := back _ _ rfl
                        cases q6
                        rw [storeV_ff]
                        refine ⟨by simp at q4; omega, ?_⟩
                        refine hK f _ (by omega) ⟨t', a + (k1 + 1 + w.length + k3 + 1), acc ++ [((t' : Int), w, n)], some (.d (.str (wordS w))), some (.d (.int n)), ?_, q5, q4, q2, q3, h⟩
                        simp [evD]
                        omega
                      · rw [if_neg g3] at h ⊢
                        exact h
              · have g2' : ¬ wordS w ∈ numW := fun z => g2 ((word_num w hw).mp z)
                rw [if_neg g2] at h back
                obtain ⟨q1, q2, q3, q4, t', q6, q5⟩ := back _ _ rfl
                cases q6
                simp [g2', inD_strs]
                refine ⟨by simp at q4; omega, ?_⟩
                refine hK f _ (by omega) ⟨t', a + (k1 + 1 + w.length), acc ++ [((t' : Int), w, -1)], some (.d (.str (wordS w))), some (.d (.int (-1))), ?_, q5, q4, q2, q3, h⟩
                simp [evD]
                omega
        · rw [if_neg g1] at h ⊢
          exact h
  · rw [if_neg (by omega)] at h
    simp [h1, hlt, evD_nol, tupD]
    exact h
theorem h_read_log (T : Tx K mg) : Has P w K mg base (LK K) "read_log" 5 ["text"] C_read_log := by
  obtain ⟨_, F__read_char, B__read_char, M__read_char, K__read_char⟩ := h__read_char (P := P) (w := w) (base := base) T
  obtain ⟨_, F__read_number, B__read_number, M__read_number, K__read_number⟩ := h__read_number (P := P) (w := w) (base := base) T
  obtain ⟨_, F__read_word, B__read_word, M__read_word, K__read_word⟩ := h__read_word (P := P) (w := w) (base := base) T
  have m_tuple : mg "tuple" = none := T.fr "tuple" (by decide)
  have m_len : mg "len" = none := T.fr "len" (by decide)
  have mc_NUMBERED := T.c_NUMBERED
  obtain ⟨_, mc_LAST_NUMBER⟩ := T.c_LAST_NUMBER
  obtain ⟨_, mc_MOST_TICK⟩ := T.c_MOST_TICK
  obtain ⟨fd, FD⟩ := T.d_read_log
  refine ⟨fd, ?_, FD.bindsN fun _ _ _ _ _ _ us hl => match us, hl with | [_], _ => rfl, T.g_read_log, FD.kp⟩
  refine fn_ok (ts := ts_read_log) FD sc_read_log (fun cdv A outer s H E hr => ?_) ad_read_log
  have sc := sc_read_log
  exact (ds_cons (d_set 1 sc.nd (dx_lst da_nil))
  (ds_cons (d_set 2 sc.nd dx_int)
  (ds_cons (d_set 3 sc.nd dx_int)
  (ds_cons (d_while (by exact passes_of rfl) (dt_lt (dx_var 3) (dx_len (by rfl) m_len (dx_var 0)))
  (ds_cons (d_unpack (dx_call (k := 4) F__read_number takes_cx (by exact hr.mono (by decide)) (by rfl) M__read_number K__read_number B__read_number (da_cons (dx_var 0) (da_cons (dx_var 3) (da_cons (dx_var 2) (da_cons (dx_w fb (dx_glob_int (by rfl) mc_MOST_TICK)) da_nil))))) (dg_tup (by rfl) (dgs_name 2 sc.nd (dgs_name 3 sc.nd dgs_nil))))
  (ds_cons (d_set 3 sc.nd (dx_call (k := 4) F__read_char takes_cx (by exact hr.mono (by decide)) (by rfl) M__read_char K__read_char B__read_char (da_cons (dx_var 0) (da_cons (dx_var 3) (da_cons (dx_w fb dx_str) da_nil)))))
  (ds_cons (d_unpack (dx_call (k := 4) F__read_word takes_cx (by exact hr.mono (by decide)) (by rfl) M__read_word K__read_word B__read_word (da_cons (dx_var 0) (da_cons (dx_var 3) da_nil))) (dg_tup (by rfl) (dgs_name 4 sc.nd (dgs_name 3 sc.nd dgs_nil))))
  (ds_cons (d_set 5 sc.nd (dx_neg dx_int))
  (ds_cons (d_if (dt_in (by exact Room.u65 hr) (dx_var 4) (dx_glob_tup (by rfl) mc_NUMBERED.1 mc_NUMBERED.2))
  (ds_cons (d_unpack (dx_call (k := 4) F__read_number takes_cx (by exact hr.mono (by decide)) (by rfl) M__read_number K__read_number B__read_number (da_cons (dx_var 0) (da_cons (dx_var 3) (da_cons (dx_w fb dx_int) (da_cons (dx_w fb (dx_glob_int (by rfl) mc_LAST_NUMBER)) da_nil))))) (dg_tup (by rfl) (dgs_name 5 sc.nd (dgs_name 3 sc.nd dgs_nil))))
  (ds_one (d_set 3 sc.nd (dx_call (k := 4) F__read_char takes_cx (by exact hr.mono (by decide)) (by rfl) M__read_char K__read_char B__read_char (da_cons (dx_var 0) (da_cons (dx_var 3) (da_cons (dx_w fb dx_str) da_nil)))))))
  ds_nil)
  (ds_one (d_app 1 (dx_tup (da_cons (dx_n (dx_var 2)) (da_cons (dx_n (dx_var 4)) (da_cons (dx_n (dx_var 5)) da_nil))))))))))))
  (ds_one (d_ret (dx_tupc (by rfl) m_tuple (dx_var 1))))))))
abbrev N__ticks : List Str := ["log", "words", "event"]
theorem sc__ticks : FnScope N__ticks ["log", "words"] (defScope s__ticks) := ⟨rfl, rfl, rfl, by decide +kernel, rfl, by decide +kernel, by decide +kernel⟩
def ts__ticks : TDs := (sRet true (e1 (un1 tupD) (lcD (iVarD 0) (gN 2) (tB2 (opD (inD false)) (eIx (eV 2) (eC (.int 1))) (eV 1)) (eN (eIx (eV 2) (eC (.int 0)))) [2])))
def ticksW (ws : List Str) (xs : List PyData) : List PyData := xs.filterMap fun x => match x with
  | .tuple [.int i, .str w, _] => if w ∈ ws then some (.int i) else none
  | _ => none
theorem ticksW_int (ws : List Str) (xs : List PyData) : ∀ d ∈ ticksW ws xs, ∃ i : Int, d = .int i := by
  intro d hd
  unfold ticksW at hd
  obtain ⟨x, _, e⟩ := List.mem_filterMap.mp hd
  split at e
  · split at e
    · cases e; exact ⟨_, rfl⟩
    · cases e
  · cases e
theorem nolA_of {xs : List PyData} (h : ∀ x ∈ xs, nolist x = true) : nolistA xs = true := by
  induction xs with
  | nil => rfl
  | cons x r ih => simp [h x (by simp), ih fun y hy => h y (by simp [hy])]
theorem nolA_mem {xs : List PyData} (h : nolistA xs = true) : ∀ x ∈ xs, nolist x = true := by
  induction xs with
  | nil => simp
  | cons x r ih =>
    simp at h
    intro y hy
    rcases List.mem_cons.mp hy with rfl | hy
    · exact h.1
    · exact ih h.2 y hy
theorem ticksW_nol (ws : List Str) (xs : List PyData) : nolistA (ticksW ws xs) = true := nolA_of fun x hx => by
  obtain ⟨i, rfl⟩ := ticksW_int ws xs x hx; rfl
def C__ticks : Ctr := fun args R _ => ∃ xs ws, args = [.d (.tuple xs), .d (.tuple (ws.map .str))] ∧ (∀ x ∈ xs, isEv x = true) ∧ xs.length ≤ 1000 ∧ R (.d (.tuple (ticksW ws xs)))
theorem at__ticks {xs : List PyData} (ws : List Str) {y : PyData} {R : SV → Prop} {RX : Exn → Prop} (e : y = .tuple (ws.map .str)) (h1 : ∀ x ∈ xs, isEv x = true) (h2 : xs.length ≤ 1000) (h : R (.d (.tuple (ticksW ws xs)))) : C__ticks [.d (.tuple xs), .d y] R RX := ⟨xs, ws, by rw [e], h1, h2, h⟩
theorem ad__ticks : AdOk C__ticks ts__ticks N__ticks 2 := by
  rintro args R RX hl ⟨xs, ws, rfl, h1, h0, h⟩
  simp [ts__ticks, startD, lcD, ownSeq]
  refine ⟨by omega, lcL_ok (fun x => match x with
    | .tuple [.int i, .str w, _] => if w ∈ ws then some (.int i) else none
    | _ => none) _ _ _ (fun d hd k1 k0 hk => ?_) ?_⟩
  · obtain ⟨i, w, n, rfl, _, _⟩ := isEv_out (h1 d hd)
    simp [wipeD, inD_strs, atI, ixN]
    by_cases hw : w ∈ ws
    · simpa [hw] using hk
    · simpa [hw] using hk
  · have := ticksW_nol ws xs
    unfold ticksW at this
    simp [tupD, this]
    exact h
theorem h__ticks (T : Tx K mg) : Has P w K mg base (LK K) "_ticks" 1 ["log", "words"] C__ticks := by
  have m_tuple : mg "tuple" = none := T.fr "tuple" (by decide)
  obtain ⟨fd, FD⟩ := T.d__ticks
  refine ⟨fd, ?_, FD.bindsN fun _ _ _ _ _ _ us hl => match us, hl with | [_, _], _ => rfl, T.g__ticks, FD.kp⟩
  refine fn_ok (ts := ts__ticks) FD sc__ticks (fun cdv A outer s H E hr => ?_) ad__ticks
  have sc := sc__ticks
  exact (ds_one (d_ret (dx_tupc (by rfl) m_tuple (dx_lc (own := [("event", 2)]) sc.nd (di_var 0) (blkOk_by (own := [("event", 2)]) (N := N__ticks) (sc := defScope s__ticks) (by decide +kernel)) (fun _ _ _ _ _ => (dg_name 2 sc.nd)) (fun _ _ _ _ _ => (dts_one (dt_in (by exact Room.u65 hr) (dx_w fb (dx_ix (dx_var 2) dx_int)) (dx_var 1)))) (fun _ _ _ _ _ => (dx_n (dx_w fb (dx_ix (dx_var 2) dx_int))))))))
abbrev N_caller_book : List Str := ["log"]
theorem sc_caller_book : FnScope N_caller_book ["log"] (defScope s_caller_book) := ⟨rfl, rfl, rfl, by decide +kernel, rfl, by decide +kernel, by decide +kernel⟩
def ts_caller_book : TDs := (sSeq (sExpr (eCall 1 C_check_log (aCons (eV 0) aNil)))
  (sRet true (eTup (aCons (eCall 2 C__ticks (aCons (eV 0) (aCons (eTup (aCons (eC (.str "ask")) aNil)) aNil))) (aCons (eCall 2 C__ticks (aCons (eV 0) (aCons (eTup (aCons (eC (.str "hear")) (aCons (eC (.str "late")) aNil))) aNil))) aNil)))))
def bookD (a h : List Str) (xs : List PyData) : PyData := .tuple [.tuple (ticksW a xs), .tuple (ticksW h xs)]
def C_caller_book : Ctr := fun args R RX => ∃ xs, args = [.d (.tuple xs)] ∧ nolistA xs = true ∧ xs.length ≤ 1000 ∧ (match scanL 0 0 xs with
  | none => R (.d (bookD ["ask"] ["hear", "late"] xs))
  | some k => RX (badBook k))
theorem ad_caller_book : AdOk C_caller_book ts_caller_book N_caller_book 1 := by
  rintro args R RX hl ⟨xs, rfl, h1, h0, h⟩
  simp [ts_caller_book, startD, h1]
  cases hs : scanL 0 0 xs with
  | some k => simpa [hs] using h
  | none =>
    have ev := scan_none hs
    simp [hs] at h ⊢
    refine at__ticks ["ask"] rfl ev h0 ?_
    refine at__ticks ["hear", "late"] rfl ev h0 ?_
    simp [ticksW_nol]
    exact h
theorem h_caller_book (T : Tx K mg) : Has P w K mg base (LK K) "caller_book" 5 ["log"] C_caller_book := by
  obtain ⟨_, F__ticks, B__ticks, M__ticks, K__ticks⟩ := h__ticks (P := P) (w := w) (base := base) T
  obtain ⟨_, F_check_log, B_check_log, M_check_log, K_check_log⟩ := h_check_log (P := P) (w := w) (base := base) T
  obtain ⟨fd, FD⟩ := T.d_caller_book
  refine ⟨fd, ?_, FD.bindsN fun _ _ _ _ _ _ us hl => match us, hl with | [_], _ => rfl, T.g_caller_book, FD.kp⟩
  refine fn_ok (ts := ts_caller_book) FD sc_caller_book (fun cdv A outer s H E hr => ?_) ad_caller_book
  have sc := sc_caller_book
  exact (ds_cons (d_expr (dx_call (k := 4) F_check_log takes_cx (by exact hr.mono (by decide)) (by rfl) M_check_log K_check_log B_check_log (da_cons (dx_var 0) da_nil)))
  (ds_one (d_ret (dx_tup (da_cons (dx_call (k := 1) F__ticks takes_cx (by exact hr.mono (by decide)) (by rfl) M__ticks K__ticks B__ticks (da_cons (dx_var 0) (da_cons (dx_w fb (dx_tup (da_cons dx_str da_nil))) da_nil))) (da_cons (dx_call (k := 1) F__ticks takes_cx (by exact hr.mono (by decide)) (by rfl) M__ticks K__ticks B__ticks (da_cons (dx_var 0) (da_cons (dx_w fb (dx_tup (da_cons dx_str (da_cons dx_str da_nil)))) da_nil))) da_nil))))))
abbrev N_server_book : List Str := ["log"]
theorem sc_server_book : FnScope N_server_book ["log"] (defScope s_server_book) := ⟨rfl, rfl, rfl, by decide +kernel, rfl, by decide +kernel, by decide +kernel⟩
def ts_server_book : TDs := (sSeq (sExpr (eCall 1 C_check_log (aCons (eV 0) aNil)))
  (sRet true (eTup (aCons (eCall 2 C__ticks (aCons (eV 0) (aCons (eTup (aCons (eC (.str "arrive")) aNil)) aNil))) (aCons (eCall 2 C__ticks (aCons (eV 0) (aCons (eTup (aCons (eC (.str "do")) (aCons (eC (.str "again")) aNil))) aNil))) aNil)))))
def C_server_book : Ctr := fun args R RX => ∃ xs, args = [.d (.tuple xs)] ∧ nolistA xs = true ∧ xs.length ≤ 1000 ∧ (match scanL 0 0 xs with
  | none => R (.d (bookD ["arrive"] ["do", "again"] xs))
  | some k => RX (badBook k))
theorem ad_server_book : AdOk C_server_book ts_server_book N_server_book 1 := by
  rintro args R RX hl ⟨xs, rfl, h1, h0, h⟩
  simp [ts_server_book, startD, h1]
  cases hs : scanL 0 0 xs with
  | some k => simpa [hs] using h
  | none =>
    have ev := scan_none hs
    simp [hs] at h ⊢
    refine at__ticks ["arrive"] rfl ev h0 ?_
    refine at__ticks ["do", "again"] rfl ev h0 ?_
    simp [ticksW_nol]
    exact h
theorem h_server_book (T : Tx K mg) : Has P w K mg base (LK K) "server_book" 5 ["log"] C_server_book := by
  obtain ⟨_, F__ticks, B__ticks, M__ticks, K__ticks⟩ := h__ticks (P := P) (w := w) (base := base) T
  obtain ⟨_, F_check_log, B_check_log, M_check_log, K_check_log⟩ := h_check_log (P := P) (w := w) (base := base) T
  obtain ⟨fd, FD⟩ := T.d_server_book
  refine ⟨fd, ?_, FD.bindsN fun _ _ _ _ _ _ us hl => match us, hl with | [_], _ => rfl, T.g_server_book, FD.kp⟩
  refine fn_ok (ts := ts_server_book) FD sc_server_book (fun cdv A outer s H E hr => ?_) ad_server_book
  have sc := sc_server_book
  exact (ds_cons (d_expr (dx_call (k := 4) F_check_log takes_cx (by exact hr.mono (by decide)) (by rfl) M_check_log K_check_log B_check_log (da_cons (dx_var 0) da_nil)))
  (ds_one (d_ret (dx_tup (da_cons (dx_call (k := 1) F__ticks takes_cx (by exact hr.mono (by decide)) (by rfl) M__ticks K__ticks B__ticks (da_cons (dx_var 0) (da_cons (dx_w fb (dx_tup (da_cons dx_str da_nil))) da_nil))) (da_cons (dx_call (k := 1) F__ticks takes_cx (by exact hr.mono (by decide)) (by rfl) M__ticks K__ticks B__ticks (da_cons (dx_var 0) (da_cons (dx_w fb (dx_tup (da_cons dx_str (da_cons dx_str da_nil)))) da_nil))) da_nil))))))
abbrev N__law_source : List Str := ["script", "k", "cell"]
theorem sc__law_source : FnScope N__law_source ["script", "k"] (defScope s__law_source) := ⟨rfl, rfl, rfl, by decide +kernel, rfl, by decide +kernel, by decide +kernel⟩
def ts__law_source : TDs := (sSeq (sSet ff 2 (eC (.int 0)))
  (sSeq (sIf (tB2 (opD (cmpI fun i j => decide (i < j))) (eV 1) (e1 lenV (eV 0)))
  (sSet fb 2 (eIx (eV 0) (eV 1)))
  sNil)
  (sRet true (eLst (aCons (eB (opD (mmD fun i j => max i j)) (eC (.int 0)) (eB (opD subD) (eV 2) (eB (opD powD) (eC (.int 10)) (eC (.int 18))))) (aCons (eB addV (eB (opD mulD) (eV 2) (eC (.int 64))) (eV 1)) (aCons (eC (.int 0)) aNil)))))))
def C__law_source : Ctr := fun args R _ => ∃ (ns : List Int) (k : Nat), args = [.d (.list (ns.map .int)), .d (.int k)] ∧ ∀ a b c : Int, R (.own [.int a, .int b, .int c])
theorem ad__law_source : AdOk C__law_source ts__law_source N__law_source 2 := by
  rintro args R RX hl ⟨ns, k, rfl, h⟩
  have at' : ∀ hk : k < ns.length, atI (ns.map PyData.int) (k : Int) = some (.int ns[k]) := fun hk => by
    rw [atI_at]; simp [hk]
  have p : CPow 10 18 := ⟨by omega, by omega, by decide⟩
  by_cases hk : k < ns.length
  · simp [ts__law_source, startD, hk, at' hk, p, powD]
    refine ⟨?_, h _ _ _⟩
    exact .inr ⟨by omega, by omega⟩
  · simp [ts__law_source, startD, hk, p, powD]
    refine ⟨?_, h _ _ _⟩
    exact .inr ⟨by omega, by omega⟩
theorem h__law_source (T : Tx K mg) : Has P w K mg base (LK K) "_law_source" 1 ["script", "k"] C__law_source := by
  have m_max : mg "max" = none := T.fr "max" (by decide)
  have m_len : mg "len" = none := T.fr "len" (by decide)
  obtain ⟨fd, FD⟩ := T.d__law_source
  refine ⟨fd, ?_, FD.bindsN fun _ _ _ _ _ _ us hl => match us, hl with | [_, _], _ => rfl, T.g__law_source, FD.kp⟩
  refine fn_ok (ts := ts__law_source) FD sc__law_source (fun cdv A outer s H E hr => ?_) ad__law_source
  have sc := sc__law_source
  exact (ds_cons (d_set 2 sc.nd dx_int)
  (ds_cons (d_if (dt_lt (dx_var 1) (dx_len (by rfl) m_len (dx_var 0)))
  (ds_one (d_set 2 sc.nd (dx_w fb (dx_ix (dx_var 0) (dx_var 1)))))
  ds_nil)
  (ds_one (d_ret (dx_lst (da_cons (dx_max2 (by rfl) (by rfl) m_max dx_int (dx_sub (dx_var 2) (dx_pow dx_int dx_int))) (da_cons (dx_add (dx_mul (dx_var 2) dx_int) (dx_var 1)) (da_cons dx_int da_nil))))))))
abbrev N__law_take : List Str := ["source", "size", "drawn", "first", "second", "third"]
theorem sc__law_take : FnScope N__law_take ["source", "size"] (defScope s__law_take) := ⟨rfl, rfl, rfl, by decide +kernel, rfl, by decide +kernel, by decide +kernel⟩
def ts__law_take : TDs := (sSeq (sPutI 0 (eB addV (eIx (eV 0) (eC (.int 2))) (eC (.int 1))) (eC (.int 2)))
  (sSeq (sIf (tB2 (opD (cmpI fun i j => decide (j < i))) (eIx (eV 0) (eC (.int 0))) (eC (.int 0)))
  (sSeq (sSet ff 2 (eB (opD modD) (e1 (un1 intD) (eIx (eV 0) (eC (.int 0)))) (eV 1)))
  (sSeq (sPutI 0 (eB (opD fdivD) (eIx (eV 0) (eC (.int 0))) (eV 1)) (eC (.int 0)))
  (sRet false (eV 2))))
  sNil)
  (sSeq (sSet ff 3 (eB (opD modD) (e1 (un1 intD) (eB addV (eB addV (eB (opD mulD) (eIx (eV 0) (eC (.int 1))) (eC (.int 48271))) (eB (opD mulD) (eIx (eV 0) (eC (.int 2))) (eC (.int 69621)))) (eC (.int 7)))) (eC (.int 2147483647))))
  (sSeq (sSet ff 4 (eB (opD modD) (e1 (un1 intD) (eB addV (eB (opD mulD) (eV 3) (eV 3)) (eB (opD mulD) (eIx (eV 0) (eC (.int 2))) (eC (.int 40692))))) (eC (.int 2147483399))))
  (sSeq (sSet ff 5 (eB (opD modD) (e1 (un1 intD) (eB addV (eB (opD mulD) (eV 4) (eV 4)) (eV 3))) (eC (.int 2147483629))))
  (sRet true (eB (opD modD) (e1 (un1 intD) (eB (opD fdivD) (eV 5) (eC (.int 8)))) (eV 1))))))))
def C__law_take : Ctr := fun args R _ => ∃ size : Int, args = [.tok, .d (.int size)] ∧ 1 ≤ size ∧ size < 1073741824 ∧ ∀ k : Nat, (k : Int) < size → R (.d (.int k))
@[simp] theorem at__law_take (size : Int) (R : SV → Prop) (RX : Exn → Prop) : C__law_take [.tok, .d (.int size)] R RX ↔ (1 ≤ size ∧ size < 1073741824 ∧ ∀ k : Nat, (k : Int) < size → R (.d (.int k))) := ⟨fun ⟨_, e, h⟩ => by cases e; exact h, fun h => ⟨_, rfl, h⟩⟩
theorem three {ns : List Int} (h : okN ns) : ∃ a b c, ns = [a, b, c] := by
  unfold okN at h
  rcases ns with _ | ⟨a, _ | ⟨b, _ | ⟨c, _ | ⟨_, _⟩⟩⟩⟩ <;> simp at h
  exact ⟨a, b, c, rfl⟩
theorem modK {x m : Int} (h : 0 < m) : ∃ k : Nat, x % m = k ∧ (k : Int) < m := ⟨(x % m).toNat, by have := Int.emod_nonneg x (show m ≠ 0 by omega); omega, by have := Int.emod_nonneg x (show m ≠ 0 by omega); have := Int.emod_lt_of_pos x h; omega⟩
theorem ad__law_take : AdT okN C__law_take ts__law_take N__law_take := by
  rintro svs R RX ⟨size, rfl, s1, s2, h⟩
  refine ⟨_, rfl, by simp, fun b ns hn => ?_⟩
  obtain ⟨x, y, z, rfl⟩ := three hn
  have fin : ∀ (x' : Int) (k : Nat) (o : List (Option SV)), (k : Int) < size → finT okN b (some (.tk b (intsD [x', y, z + 1])) :: o) (.d (.int k)) R := fun x' k o hk => ⟨_, rfl, rfl, ⟨_, rfl, rfl⟩, h k hk⟩
  have fin2 : ∀ (x' v : Int) (o : List (Option SV)), finT okN b (some (.tk b (intsD [x', y, z + 1])) :: o) (.d (.int (v % size))) R := fun x' v o => by
    obtain ⟨k, e, hk⟩ := modK (x := v) (m := size) (by omega)
    rw [e]; exact fin x' k o hk
  have size0 : 0 < size := by omega
  have size64 : CMul 0 0 := .inl ⟨by omega, by omega⟩
  have cm : ∀ i j : Int, -100000 < j → j < 100000 → CMul i j := fun i j h1 h2 => .inr ⟨by omega, by omega⟩
  have cf : ∀ i j : Int, 0 ≤ j → j < 3000000000 → CMul i j := fun i j h1 h2 => .inr ⟨by omega, by omega⟩
  have c1 := cm y 48271 (by omega) (by omega)
  have c2 := cm (z + 1) 69621 (by omega) (by omega)
  have c3 := cm (z + 1) 40692 (by omega) (by omega)
  have cd : CDiv x size := ⟨size0, s2⟩
  simp [ts__law_take, startD, intsD, ixN, atI, size0, c1, c2, c3, cd]
  by_cases hx : 0 < x
  · simp [hx]
    exact fin2 _ _ _
  · simp [hx]
    have b1 := Int.emod_nonneg (y * 48271 + (z + 1) * 69621 + 7) (show (2147483647 : Int) ≠ 0 by omega)
    have b2 := Int.emod_lt_of_pos (y * 48271 + (z + 1) * 69621 + 7) (show (0 : Int) < 2147483647 by omega)
    generalize (y * 48271 + (z + 1) * 69621 + 7) % 2147483647 = p at b1 b2 ⊢
    have b3 := Int.emod_nonneg (p * p + (z + 1) * 40692) (show (2147483399 : Int) ≠ 0 by omega)
    have b4 := Int.emod_lt_of_pos (p * p + (z + 1) * 40692) (show (0 : Int) < 2147483399 by omega)
    generalize (p * p + (z + 1) * 40692) % 2147483399 = q at b3 b4 ⊢
    refine ⟨cf _ _ b1 (by omega), cf _ _ b3 (by omega), ⟨by omega, by omega⟩, ?_⟩
    exact fin2 _ _ _
theorem h__law_take (T : Tx K mg) : Has P w K mg base (LK K) "_law_take" 1 ["source", "size"] C__law_take := by
  have m_int : mg "int" = none := T.fr "int" (by decide)
  obtain ⟨fd, FD⟩ := T.d__law_take
  refine ⟨fd, ?_, FD.bindsN fun _ _ _ _ _ _ us hl => match us, hl with | [_, _], _ => rfl, T.g__law_take, FD.kp⟩
  refine fnT_ok (ts := ts__law_take) lkI FD sc__law_take (fun cdv A outer s H E hr => ?_) ad__law_take
  have sc := sc__law_take
  exact (ds_cons (d_putI 0 (dx_add (dx_w fb (dx_ix (dx_var 0) dx_int)) dx_int) dx_int)
  (ds_cons (d_if (dt_gt (dx_w fb (dx_ix (dx_var 0) dx_int)) dx_int)
  (ds_cons (d_set 2 sc.nd (dx_mod (dx_intc (by rfl) m_int (dx_w fb (dx_ix (dx_var 0) dx_int))) (dx_var 1)))
  (ds_cons (d_putI 0 (dx_fdiv (dx_w fb (dx_ix (dx_var 0) dx_int)) (dx_var 1)) dx_int)
  (ds_one (d_ret (dx_var 2)))))
  ds_nil)
  (ds_cons (d_set 3 sc.nd (dx_mod (dx_intc (by rfl) m_int (dx_add (dx_add (dx_mul (dx_w fb (dx_ix (dx_var 0) dx_int)) dx_int) (dx_mul (dx_w fb (dx_ix (dx_var 0) dx_int)) dx_int)) dx_int)) dx_int))
  (ds_cons (d_set 4 sc.nd (dx_mod (dx_intc (by rfl) m_int (dx_add (dx_mul (dx_var 3) (dx_var 3)) (dx_mul (dx_w fb (dx_ix (dx_var 0) dx_int)) dx_int))) dx_int))
  (ds_cons (d_set 5 sc.nd (dx_mod (dx_intc (by rfl) m_int (dx_add (dx_mul (dx_var 4) (dx_var 4)) (dx_var 3))) dx_int))
  (ds_one (d_ret (dx_mod (dx_intc (by rfl) m_int (dx_fdiv (dx_var 5) dx_int)) (dx_var 1)))))))))
abbrev N__law_is_int : List Str := ["value"]
theorem sc__law_is_int : FnScope N__law_is_int ["value"] (defScope s__law_is_int) := ⟨rfl, rfl, rfl, by decide +kernel, rfl, by decide +kernel, by decide +kernel⟩
def ts__law_is_int : TDs := (sRet true (eAnd (eIsi isIntS (eV 0)) (eNot (eIsi isBoolS (eV 0)))))
def C__law_is_int : Ctr := fun args R _ => ∃ x, args = [.d x] ∧ okD x = true ∧ R (.d (.bool (isIntD x)))
theorem ad__law_is_int : AdOk C__law_is_int ts__law_is_int N__law_is_int 1 := by
  rintro args R RX hl ⟨x, rfl, h1, h2⟩
  cases x <;> simp [okD] at h1 <;> simp [ts__law_is_int, startD, isD, isIntS, isBoolS, wB, isIntD] at h2 ⊢ <;> exact h2
@[simp] theorem at__law_is_int (x : PyData) (R : SV → Prop) (RX : Exn → Prop) : C__law_is_int [.d x] R RX ↔ (okD x = true ∧ R (.d (.bool (isIntD x)))) := ⟨fun ⟨_, e, h⟩ => by cases e; exact h, fun h => ⟨_, rfl, h⟩⟩
theorem h__law_is_int (T : Tx K mg) : Has P w K mg base (LK K) "_law_is_int" 1 ["value"] C__law_is_int := by
  have m_int : mg "int" = none := T.fr "int" (by decide)
  have m_isinstance : mg "isinstance" = none := T.fr "isinstance" (by decide)
  have m_bool : mg "bool" = none := T.fr "bool" (by decide)
  obtain ⟨fd, FD⟩ := T.d__law_is_int
  refine ⟨fd, ?_, FD.bindsN fun _ _ _ _ _ _ us hl => match us, hl with | [_], _ => rfl, T.g__law_is_int, FD.kp⟩
  refine fn_ok (ts := ts__law_is_int) FD sc__law_is_int (fun cdv A outer s H E hr => ?_) ad__law_is_int
  have sc := sc__law_is_int
  exact (ds_one (d_ret (dx_and (dx_isi kit_int (by rfl) m_int (by decide +kernel) (by rfl) m_isinstance (by decide +kernel) (dx_var 0)) (dx_one (dx_not (dx_isi kit_bool (by rfl) m_bool (by decide +kernel) (by rfl) m_isinstance (by decide +kernel) (dx_var 0)))))))
theorem w__law_is_int (T : Tx K mg) : HasW P w K mg base (LK K) "_law_is_int" 1 ["value"] C__law_is_int := by
  have m_int : mg "int" = none := T.fr "int" (by decide)
  have m_isinstance : mg "isinstance" = none := T.fr "isinstance" (by decide)
  have m_bool : mg "bool" = none := T.fr "bool" (by decide)
  obtain ⟨fd, FD⟩ := T.d__law_is_int
  refine ⟨fd, ?_, FD.bindsN fun _ _ _ _ _ _ us hl => match us, hl with | [_], _ => rfl, T.g__law_is_int, FD.kp⟩
  refine fnW_ok (ts := ts__law_is_int) FD sc__law_is_int (fun cdv A outer s H E hr => ?_) ad__law_is_int
  have sc := sc__law_is_int
  exact (ds_one (d_ret (dx_and (dx_isi kit_int (by rfl) m_int (by decide +kernel) (by rfl) m_isinstance (by decide +kernel) (dx_var 0)) (dx_one (dx_not (dx_isi kit_bool (by rfl) m_bool (by decide +kernel) (by rfl) m_isinstance (by decide +kernel) (dx_var 0)))))))
abbrev N__law_numbered : List Str := []
theorem sc__law_numbered : FnScope N__law_numbered [] (defScope s__law_numbered) := ⟨rfl, rfl, rfl, by decide +kernel, rfl, by decide +kernel, by decide +kernel⟩
def ts__law_numbered : TDs := (sRet true (eLst (aCons (eC (.str "ask")) (aCons (eC (.str "arrive")) (aCons (eC (.str "do")) (aCons (eC (.str "again")) (aCons (eC (.str "hear")) (aCons (eC (.str "late")) aNil))))))))
def C__law_numbered : Ctr := fun args R _ => args = [] ∧ R (.own (numW.map .str))
theorem ad__law_numbered : AdOk C__law_numbered ts__law_numbered N__law_numbered 0 := by
  rintro args R RX hl ⟨rfl, h⟩
  rw [wds] at h
  simp [ts__law_numbered, startD]
  exact h
@[simp] theorem at__law_numbered (R : SV → Prop) (RX : Exn → Prop) : C__law_numbered [] R RX ↔ R (.own (numW.map .str)) := ⟨fun ⟨_, h⟩ => h, fun h => ⟨rfl, h⟩⟩
theorem h__law_numbered (T : Tx K mg) : Has P w K mg base (LK K) "_law_numbered" 1 [] C__law_numbered := by
  obtain ⟨fd, FD⟩ := T.d__law_numbered
  refine ⟨fd, ?_, FD.bindsN fun _ _ _ _ _ _ us hl => match us, hl with | [], _ => rfl, T.g__law_numbered, FD.kp⟩
  refine fn_ok (ts := ts__law_numbered) FD sc__law_numbered (fun cdv A outer s H E hr => ?_) ad__law_numbered
  have sc := sc__law_numbered
  exact (ds_one (d_ret (dx_lst (da_cons dx_str (da_cons dx_str (da_cons dx_str (da_cons dx_str (da_cons dx_str (da_cons dx_str da_nil)))))))))
abbrev N__law_event : List Str := ["source", "low", "high", "tick", "word", "number"]
theorem sc__law_event : FnScope N__law_event ["source", "low", "high"] (defScope s__law_event) := ⟨rfl, rfl, rfl, by decide +kernel, rfl, by decide +kernel, by decide +kernel⟩
def ts__law_event : TDs := (sSeq (sSet ff 3 (eB addV (eV 1) (eCall 2 C__law_take (aCons (eV 0) (aCons (eB (opD subD) (eB addV (eV 2) (eC (.int 1))) (eV 1)) aNil)))))
  (sSeq (sSet ff 4 (eIx (eB addV (eCall 0 C__law_numbered aNil) (eLst (aCons (eC (.str "crash")) (aCons (eC (.str "give up")) aNil)))) (eCall 2 C__law_take (aCons (eV 0) (aCons (eC (.int 8)) aNil)))))
  (sSeq (sSet ff 5 (eCall 2 C__law_take (aCons (eV 0) (aCons (eC (.int 40)) aNil))))
  (sSeq (sIf (tB2 (opD (inD true)) (eV 4) (eCall 0 C__law_numbered aNil))
  (sSet ff 5 (eNeg (eC (.int 1))))
  sNil)
  (sRet true (eTup (aCons (eN (eV 3)) (aCons (eN (eV 4)) (aCons (eN (eV 5)) aNil)))))))))
def allW : List Str := numW ++ plainW
theorem allW_len : allW.length = 8 := by decide +kernel
theorem word_all {w : Str} (h : w ∈ allW) : (w ∈ numW ∧ w ∉ plainW) ∨ (w ∈ plainW ∧ w ∉ numW) := by
  have : ∀ w ∈ allW, (w ∈ numW ∧ w ∉ plainW) ∨ (w ∈ plainW ∧ w ∉ numW) := by decide +kernel
  exact this w h
def C__law_event : Ctr := fun args R _ => ∃ lo hi : Int, args = [.tok, .d (.int lo), .d (.int hi)] ∧ 0 ≤ lo ∧ lo ≤ hi ∧ hi ≤ 400 ∧ ∀ x : PyData, isEv x = true → lo ≤ tickD x → tickD x ≤ hi → R (.d x)
theorem at__law_event {lo hi : Int} {R : SV → Prop} {RX : Exn → Prop} (h0 : 0 ≤ lo) (h1 : lo ≤ hi) (h2 : hi ≤ 400) (h : ∀ x : PyData, isEv x = true → lo ≤ tickD x → tickD x ≤ hi → R (.d x)) : C__law_event [.tok, .d (.int lo), .d (.int hi)] R RX := ⟨lo, hi, rfl, h0, h1, h2, h⟩
theorem ad__law_event : AdOk C__law_event ts__law_event N__law_event 3 := by
  rintro args R RX hl ⟨lo, hi, rfl, h0, h1, h2, h⟩
  have pl : plainW.map PyData.str = [.str "crash", .str "give up"] := rfl
  simp [ts__law_event, startD, pl.symm]
  refine ⟨by omega, by omega, fun k1 hk1 => ?_⟩
  have nn : nolistA (numW.map PyData.str) = true ∧ nolistA (plainW.map PyData.str) = true := by decide +kernel
  have nl : numW.length = 6 ∧ plainW.length = 2 := by decide +kernel
  have lb := line_big
  refine ⟨by omega, nn.1, nn.2, by omega, fun k hk => ?_⟩
  have ap : numW.map PyData.str ++ plainW.map PyData.str = allW.map PyData.str := by unfold allW; rw [List.map_append]
  have kl : k < allW.length := by rw [allW_len]; omega
  rw [ap, atI_at, List.getElem?_map, List.getElem?_eq_getElem kl]
  have hm : allW[k] ∈ allW := List.getElem_mem kl
  generalize allW[k] = w at hm
  simp only [Option.map_some]
  intro n hn
  rw [inD_strsL]
  rcases word_all hm with ⟨w1, w2⟩ | ⟨w1, w2⟩
  · simp [w1]
    refine h _ ?_ (by simp [tickD]; omega) (by simp [tickD]; omega)
    simp [isEv, inRD, w1, w2]
    omega
  · simp [w2]
    refine h _ ?_ (by simp [tickD]; omega) (by simp [tickD]; omega)
    simp [isEv, inRD, w1]
    omega
theorem h__law_event (T : Tx K mg) : Has P w K mg base (LK K) "_law_event" 2 ["source", "low", "high"] C__law_event := by
  obtain ⟨_, F__law_numbered, B__law_numbered, M__law_numbered, K__law_numbered⟩ := h__law_numbered (P := P) (w := w) (base := base) T
  obtain ⟨_, F__law_take, B__law_take, M__law_take, K__law_take⟩ := h__law_take (P := P) (w := w) (base := base) T
  obtain ⟨fd, FD⟩ := T.d__law_event
  refine ⟨fd, ?_, FD.bindsN fun _ _ _ _ _ _ us hl => match us, hl with | [_, _, _], _ => rfl, T.g__law_event, FD.kp⟩
  refine fn_ok (ts := ts__law_event) FD sc__law_event (fun cdv A outer s H E hr => ?_) ad__law_event
  have sc := sc__law_event
  exact (ds_cons (d_set 3 sc.nd (dx_add (dx_var 1) (dx_call (k := 1) F__law_take takes_cx (by exact hr.mono (by decide)) (by rfl) M__law_take K__law_take B__law_take (da_cons (dx_var 0) (da_cons (dx_w fb (dx_sub (dx_add (dx_var 2) dx_int) (dx_var 1))) da_nil)))))
  (ds_cons (d_set 4 sc.nd (dx_ix (dx_add (dx_call0 (k := 1) F__law_numbered takes_cx (by exact hr.mono (by decide)) (by rfl) M__law_numbered K__law_numbered B__law_numbered) (dx_lst (da_cons dx_str (da_cons dx_str da_nil)))) (dx_call (k := 1) F__law_take takes_cx (by exact hr.mono (by decide)) (by rfl) M__law_take K__law_take B__law_take (da_cons (dx_var 0) (da_cons (dx_w fb dx_int) da_nil)))))
  (ds_cons (d_set 5 sc.nd (dx_call (k := 1) F__law_take takes_cx (by exact hr.mono (by decide)) (by rfl) M__law_take K__law_take B__law_take (da_cons (dx_var 0) (da_cons (dx_w fb dx_int) da_nil))))
  (ds_cons (d_if (dt_notIn (by exact Room.u65 hr) (dx_var 4) (dx_call0 (k := 1) F__law_numbered takes_cx (by exact hr.mono (by decide)) (by rfl) M__law_numbered K__law_numbered B__law_numbered))
  (ds_one (d_set 5 sc.nd (dx_neg dx_int)))
  ds_nil)
  (ds_one (d_ret (dx_tup (da_cons (dx_n (dx_var 3)) (da_cons (dx_n (dx_var 4)) (da_cons (dx_n (dx_var 5)) da_nil))))))))))
abbrev N__law_row : List Str := ["source", "count", "near", "low", "row", "k", "high"]
theorem sc__law_row : FnScope N__law_row ["source"] (defScope s__law_row) := ⟨rfl, rfl, rfl, by decide +kernel, rfl, by decide +kernel, by decide +kernel⟩
def ts__law_row : TDs := (sSeq (sSet ff 1 (eCall 2 C__law_take (aCons (eV 0) (aCons (eC (.int 21)) aNil))))
  (sSeq (sIf (tB2 (opD (cmpI fun i j => decide (j < i))) (eCall 2 C__law_take (aCons (eV 0) (aCons (eC (.int 4)) aNil))) (eC (.int 0)))
  (sSet ff 1 (eB (opD fdivD) (eV 1) (eC (.int 4))))
  sNil)
  (sSeq (sSet ff 2 (eCall 2 C__law_take (aCons (eV 0) (aCons (eC (.int 2)) aNil))))
  (sSeq (sSet ff 3 (eC (.int 0)))
  (sSeq (sSet ff 4 (eLst aNil))
  (sSeq (sFor (iRng1D (eV 1)) (gN 5)
  (sSeq (sSet ff 6 (eC (.int 400)))
  (sSeq (sIf (tB2 (opD eqD) (eV 2) (eC (.int 1)))
  (sSet ff 6 (eB (opD (mmD fun i j => min i j)) (eC (.int 400)) (eB addV (eV 3) (eC (.int 4)))))
  sNil)
  (sSeq (sApp 4 (eCall 3 C__law_event (aCons (eV 0) (aCons (eV 3) (aCons (eV 6) aNil)))))
  (sSet fb 3 (eIx (eIx (eV 4) (eNeg (eC (.int 1)))) (eC (.int 0))))))))
  (sRet true (e1 (un1 tupD) (eV 4)))))))))
def lastT (low : Int) : List PyData → Int
  | [] => low
  | x :: r => lastT (tickD x) r
theorem scan_snoc : ∀ {xs : List PyData} {low : Int} {k : Nat} {x : PyData}, scanL low k xs = none → isEv x = true → lastT low xs ≤ tickD x → scanL low k (xs ++ [x]) = none
  | [], low, k, x, _, h1, h2 => by
    simp only [lastT] at h2
    simp [scanL, h1, h2]
  | y :: r, low, k, x, h, h1, h2 => by
    unfold scanL at h
    rw [List.cons_append, scanL]
    split at h
    · rename_i hc
      rw [if_pos hc]
      exact scan_snoc h h1 (by simpa [lastT] using h2)
    · cases h
theorem lastT_snoc : ∀ (xs : List PyData) (low : Int) (x : PyData), lastT low (xs ++ [x]) = tickD x
  | [], _, _ => rfl
  | y :: r, _, x => by rw [List.cons_append, lastT, lastT_snoc r]
theorem lastT_in : ∀ {xs : List PyData} {low : Int}, (∀ x ∈ xs, isEv x = true) → 0 ≤ low → low ≤ 400 → 0 ≤ lastT low xs ∧ lastT low xs ≤ 400
  | [], _, _, h1, h2 => ⟨h1, h2⟩
  | x :: r, low, h, h1, h2 => by
    obtain ⟨i, w, n, rfl, a, b⟩ := isEv_out (h _ (List.mem_cons_self ..))
    rw [lastT]
    exact lastT_in (fun y hy => h y (List.mem_cons_of_mem _ hy)) a b
theorem isEv_nol {x : PyData} (h : isEv x = true) : nolist x = true := by
  obtain ⟨i, w, n, rfl, _, _, _⟩ := isEv_full h
  rfl
theorem at_last {α : Type} (l : List α) (x : α) : atI (l ++ [x]) (-1) = some x := by
  unfold atI ixN
  rw [if_neg (by omega), if_pos (by simp; omega)]
  simp only [Option.bind_some]
  have : (-1 + ((l ++ [x]).length : Int)).toNat = l.length := by simp; omega
  rw [this]; simp
def C__law_row : Ctr := fun args R _ => args = [.tok] ∧ ∀ xs : List PyData, scanL 0 0 xs = none → xs.length ≤ 20 → R (.d (.tuple xs))
theorem ad__law_row : AdOk C__law_row ts__law_row N__law_row 1 := by
  rintro args R RX hl ⟨rfl, h⟩
  have main : ∀ (c0 : Nat), c0 ≤ 20 → ∀ (nr : Nat) (E : EndsD), (∀ xs o5 o6 l, scanL 0 0 xs = none → xs.length ≤ 20 → E.nx [some .tok, some (.d (.int c0)), some (.d (.int nr)), some (.d (.int l)), some (.own xs), o5, o6]) → (∀ δ x, E.xc δ x = RX x) → 
      forL (gN 5) (sSeq (sSet ff 6 (eC (.int 400)))
  (sSeq (sIf (tB2 (opD eqD) (eV 2) (eC (.int 1)))
  (sSet ff 6 (eB (opD (mmD fun i j => min i j)) (eC (.int 400)) (eB addV (eV 3) (eC (.int 4)))))
  sNil)
  (sSeq (sApp 4 (eCall 3 C__law_event (aCons (eV 0) (aCons (eV 3) (aCons (eV 6) aNil)))))
  (sSet fb 3 (eIx (eIx (eV 4) (eNeg (eC (.int 1)))) (eC (.int 0))))))) (rangeD 0 c0) [some .tok, some (.d (.int c0)), some (.d (.int nr)), some (.d (.int 0)), some (.own []), none, none] E := by
    intro c0 hc nr E hE hX
    refine forL_range (fun i δ => ∃ xs o5 o6, δ = [some .tok, some (.d (.int c0)), some (.d (.int nr)), some (.d (.int (lastT 0 xs))), some (.own xs), o5, o6] ∧ scanL 0 0 xs = none ∧ xs.length = i) 0 c0 ?_ ?_ _ ⟨[], none, none, rfl, rfl, rfl⟩
    · rintro i δ K hi hK ⟨xs, o5, o6, rfl, hs, hlen⟩
      have ev := scan_none hs
      obtain ⟨l0, l1⟩ := lastT_in ev (by omega : (0 : Int) ≤ 0) (by omega)
      have lb := line_big
      have step : ∀ hi' : Int, lastT 0 xs ≤ hi' → hi' ≤ 400 → ∀ x : PyData, isEv x = true → lastT 0 xs ≤ tickD x → tickD x ≤ hi' → 
          K [some .tok, some (.d (.int c0)), some (.d (.int nr)), some (.d (.int (tickD x))), some (.own (xs ++ [x])), some (.d (.int (0 + (i : Int)))), some (.d (.int hi'))] := fun hi' g1 g2 x ex x1 x2 =>
        hK _ ⟨xs ++ [x], _, _, by rw [lastT_snoc], scan_snoc hs ex x1, by simp [hlen]⟩
      by_cases hn : (nr : Int) = 1
      · simp [hn] at step ⊢
        refine at__law_event l0 (by omega) (by omega) fun x ex x1 x2 => ?_
        obtain ⟨t, w, n, rfl, _, _⟩ := isEv_out ex
        have nl := isEv_nol ex
        simp at nl
        simp [nl, at_last]
        refine ⟨by omega, ?_⟩
        simpa [tickD] using step _ (by omega) (by omega) _ ex x1 x2
      · simp [hn] at step ⊢
        refine at__law_event l0 (by omega) (by omega) fun x ex x1 x2 => ?_
        obtain ⟨t, w, n, rfl, _, _⟩ := isEv_out ex
        have nl := isEv_nol ex
        simp at nl
        simp [nl, at_last]
        refine ⟨by omega, ?_⟩
        simpa [tickD] using step _ (by omega) (by omega) _ ex x1 x2
    · rintro δ ⟨xs, o5, o6, rfl, hs, hlen⟩
      exact hE xs o5 o6 _ hs (by omega)
  simp [ts__law_row, startD]
  have fin : ∀ xs : List PyData, scanL 0 0 xs = none → xs.length ≤ 20 → un1 tupD (.own xs) fun sv => R sv := fun xs hs hl => by
    have := nolA_of (xs := xs) fun x hx => isEv_nol (scan_none hs x hx)
    simp [tupD, this]
    exact h xs hs hl
  intro k hk k1 hk1
  split
  · have e : (k : Int) / 4 = ((k / 4 : Nat) : Int) := by omega
    rw [e]
    refine ⟨⟨by omega, by omega⟩, fun k2 hk2 => ⟨by omega, by omega, ?_⟩⟩
    rw [show (((k / 4 : Nat) : Int)).toNat = k / 4 by omega]
    exact main (k / 4) (by omega) k2 _ (fun xs o5 o6 l hs hl => by simpa using fin xs hs hl) (fun _ _ => rfl)
  · exact fun k2 hk2 => ⟨by omega, main k (by omega) k2 _ (fun xs o5 o6 l hs hl => by simpa using fin xs hs hl) (fun _ _ => rfl)⟩
theorem h__law_row (T : Tx K mg) : Has P w K mg base (LK K) "_law_row" 3 ["source"] C__law_row := by
  obtain ⟨_, F__law_event, B__law_event, M__law_event, K__law_event⟩ := h__law_event (P := P) (w := w) (base := base) T
  obtain ⟨_, F__law_take, B__law_take, M__law_take, K__law_take⟩ := h__law_take (P := P) (w := w) (base := base) T
  have m_tuple : mg "tuple" = none := T.fr "tuple" (by decide)
  have m_range : mg "range" = none := T.fr "range" (by decide)
  have m_min : mg "min" = none := T.fr "min" (by decide)
  obtain ⟨fd, FD⟩ := T.d__law_row
  refine ⟨fd, ?_, FD.bindsN fun _ _ _ _ _ _ us hl => match us, hl with | [_], _ => rfl, T.g__law_row, FD.kp⟩
  refine fn_ok (ts := ts__law_row) FD sc__law_row (fun cdv A outer s H E hr => ?_) ad__law_row
  have sc := sc__law_row
  exact (ds_cons (d_set 1 sc.nd (dx_call (k := 1) F__law_take takes_cx (by exact hr.mono (by decide)) (by rfl) M__law_take K__law_take B__law_take (da_cons (dx_var 0) (da_cons (dx_w fb dx_int) da_nil))))
  (ds_cons (d_if (dt_gt (dx_call (k := 1) F__law_take takes_cx (by exact hr.mono (by decide)) (by rfl) M__law_take K__law_take B__law_take (da_cons (dx_var 0) (da_cons (dx_w fb dx_int) da_nil))) dx_int)
  (ds_one (d_set 1 sc.nd (dx_fdiv (dx_var 1) dx_int)))
  ds_nil)
  (ds_cons (d_set 2 sc.nd (dx_call (k := 1) F__law_take takes_cx (by exact hr.mono (by decide)) (by rfl) M__law_take K__law_take B__law_take (da_cons (dx_var 0) (da_cons (dx_w fb dx_int) da_nil))))
  (ds_cons (d_set 3 sc.nd dx_int)
  (ds_cons (d_set 4 sc.nd (dx_lst da_nil))
  (ds_cons (d_for (by exact passes_of rfl) (by rfl) (di_range1 true (by rfl) m_range (dx_var 1)) (dg_name 5 sc.nd)
  (ds_cons (d_set 6 sc.nd dx_int)
  (ds_cons (d_if (dt_eq (by exact hr.units) (dx_var 2) dx_int)
  (ds_one (d_set 6 sc.nd (dx_min2 (by rfl) (by rfl) m_min dx_int (dx_add (dx_var 3) dx_int))))
  ds_nil)
  (ds_cons (d_app 4 (dx_call (k := 2) F__law_event takes_cx (by exact hr.mono (by decide)) (by rfl) M__law_event K__law_event B__law_event (da_cons (dx_var 0) (da_cons (dx_var 3) (da_cons (dx_var 6) da_nil)))))
  (ds_one (d_set 3 sc.nd (dx_w fb (dx_ix (dx_w fb (dx_ix (dx_var 4) (dx_neg dx_int))) dx_int))))))))
  (ds_one (d_ret (dx_tupc (by rfl) m_tuple (dx_var 4))))))))))
abbrev N__law_write : List Str := ["row", "text", "event"]
theorem sc__law_write : FnScope N__law_write ["row"] (defScope s__law_write) := ⟨rfl, rfl, rfl, by decide +kernel, rfl, by decide +kernel, by decide +kernel⟩
def ts__law_write : TDs := (sSeq (sSet ff 1 (eC (.str "")))
  (sSeq (sFor (iSeqD fs (eVD 0)) (gN 2)
  (sSeq (sSet ff 1 (eB addV (eB addV (eB addV (eV 1) (e1 (un1 strD) (eIx (eV 2) (eC (.int 0))))) (eC (.str " "))) (eIx (eV 2) (eC (.int 1)))))
  (sSeq (sIf (tB2 (opD (inD false)) (eIx (eV 2) (eC (.int 1))) (eCall 0 C__law_numbered aNil))
  (sSet ff 1 (eB addV (eB addV (eV 1) (eC (.str " "))) (e1 (un1 strD) (eIx (eV 2) (eC (.int 2))))))
  sNil)
  (sSet ff 1 (eB addV (eV 1) (eC (.str "\n")))))))
  (sRet false (eV 1))))
theorem cps_app (a b : Str) : (a ++ b).cps.toList = a.cps.toList ++ b.cps.toList := by
  rw [Str.cps_append, Array.toList_append]
theorem join_nil : ∀ (l : List Str), (Txt.join "" l).cps.toList = (l.map fun s => s.cps.toList).flatten := by
  intro l
  unfold Txt.join
  rw [StrLaws.glued_eq_join]
  induction l with
  | nil => rfl
  | cons a r ih =>
    cases r with
    | nil => simp [Str.join]
    | cons b r =>
      show (a ++ "" ++ Str.join "" (b :: r)).cps.toList = _
      rw [cps_app, cps_app, ih]
      have : (Str.ofString "").cps.toList = [] := rfl
      rw [this]
      simp
def evCodes (x : PyData) : List Nat := (evText x).cps.toList ++ [10]
theorem logText_codes (xs : List PyData) : (logText xs).cps.toList = (xs.map evCodes).flatten := by
  unfold logText
  rw [join_nil, List.map_map]
  congr 1
  apply List.map_congr_left
  intro x _
  show (evText x ++ "\n").cps.toList = _
  rw [cps_app]; rfl
theorem logText_snoc (xs : List PyData) (x : PyData) : logText (xs ++ [x]) = logText xs ++ evText x ++ "\n" := by
  apply str_ext
  rw [logText_codes, cps_app, cps_app, logText_codes]
  simp [evCodes]
  rfl
theorem logText_len {xs : List PyData} (h : ∀ x ∈ xs, isEv x = true) : (logText xs).length ≤ 16 * xs.length := by
  rw [slen, logText_codes]
  induction xs with
  | nil => simp
  | cons x r ih =>
    have h1 := evText_len (h x (by simp))
    have h2 := ih fun y hy => h y (by simp [hy])
    simp only [List.map_cons, List.flatten_cons, List.length_append, evCodes, List.length_cons]
    rw [← slen]
    simp at h2 ⊢
    omega
def C__law_write : Ctr := fun args R _ => ∃ xs : List PyData, args = [.d (.tuple xs)] ∧ (∀ x ∈ xs, isEv x = true) ∧ xs.length ≤ 1000 ∧ R (.d (.str (logText xs)))
theorem ad__law_write : AdOk C__law_write ts__law_write N__law_write 1 := by
  rintro args R RX hl ⟨xs, rfl, ev, h0, h⟩
  have nl := nolA_of (xs := xs) fun x hx => isEv_nol (ev x hx)
  have sl : 100000 ≤ sizeLine := by decide
  simp [ts__law_write, startD, seqV]
  refine forL_list xs (fun i δ => ∃ o2, δ = [some (.d (.tuple xs)), some (.d (.str (logText (xs.take i)))), o2]) ?_ ?_ _ ⟨none, rfl⟩
  · rintro i d δ K hd hK ⟨o2, rfl⟩
    have hi : i < xs.length := (List.getElem?_eq_some_iff.mp hd).1
    have ed := ev d (List.mem_of_getElem? hd)
    have tk : xs.take (i + 1) = xs.take i ++ [d] := by rw [List.take_add_one, hd]; rfl
    have ll := logText_len (xs := xs.take i) fun x hx => ev x (List.mem_of_mem_take hx)
    rw [List.length_take] at ll
    have tl := evText_len ed
    have h16 : 16 * min i xs.length ≤ 16000 := by omega
    obtain ⟨t, w, n, rfl, t0, t1, hw⟩ := isEv_full ed
    have lt := numS_len t0 t1
    have lg := log2_small t0 t1
    have e1 : ((" " : String) : Str).length = 1 := rfl
    have e2 : (("\n" : String) : Str).length = 1 := rfl
    have nx := hK _ ⟨some (.d (.tuple [.int t, .str w, .int n])), rfl⟩
    rw [tk, logText_snoc] at nx
    rcases hw with ⟨hp, rfl⟩ | ⟨hp, hm, n0, n1⟩
    · have hm : w ∉ numW := by
        rcases word_all (w := w) (List.mem_append_right _ hp) with z | z
        · exact absurd hp z.2
        · exact z.2
      have lw := wlen (.inl hp)
      simp [inD_strsL, hm, lg, app_len, e1, e2, atI, ixN]
      refine ⟨by omega, by omega, by omega, by omega, ?_⟩
      have e : logText (xs.take i) ++ numS t ++ " " ++ w ++ "\n" = logText (xs.take i) ++ evText (.tuple [.int t, .str w, .int (-1)]) ++ "\n" := by
        apply str_ext; simp [cps_app, evText, hp]
      rw [e]; exact nx
    · have lw := wlen (.inr hm)
      have ln := numS_len n0 (by omega)
      have lgn := log2_small n0 (by omega)
      simp [inD_strsL, hm, lg, lgn, app_len, e1, e2, atI, ixN]
      refine ⟨by omega, by omega, by omega, by omega, by omega, by omega, ?_⟩
      have e : logText (xs.take i) ++ numS t ++ " " ++ w ++ " " ++ numS n ++ "\n" = logText (xs.take i) ++ evText (.tuple [.int t, .str w, .int n]) ++ "\n" := by
        apply str_ext; simp [cps_app, evText, hp]
      rw [e]; exact nx
  · rintro δ ⟨o2, rfl⟩
    simp
    exact h
theorem h__law_write (T : Tx K mg) : Has P w K mg base (LK K) "_law_write" 2 ["row"] C__law_write := by
  obtain ⟨_, F__law_numbered, B__law_numbered, M__law_numbered, K__law_numbered⟩ := h__law_numbered (P := P) (w := w) (base := base) T
  have m_str : mg "str" = none := T.fr "str" (by decide)
  obtain ⟨fd, FD⟩ := T.d__law_write
  refine ⟨fd, ?_, FD.bindsN fun _ _ _ _ _ _ us hl => match us, hl with | [_], _ => rfl, T.g__law_write, FD.kp⟩
  refine fn_ok (ts := ts__law_write) FD sc__law_write (fun cdv A outer s H E hr => ?_) ad__law_write
  have sc := sc__law_write
  exact (ds_cons (d_set 1 sc.nd dx_str)
  (ds_cons (d_for (by exact passes_of rfl) (by rfl) (di_seq (fl := fs) true (dx_varD 0)) (dg_name 2 sc.nd)
  (ds_cons (d_set 1 sc.nd (dx_add (dx_add (dx_add (dx_var 1) (dx_strc (by rfl) m_str (dx_w fb (dx_ix (dx_var 2) dx_int)))) dx_str) (dx_w fb (dx_ix (dx_var 2) dx_int))))
  (ds_cons (d_if (dt_in (by exact Room.u65 hr) (dx_w fb (dx_ix (dx_var 2) dx_int)) (dx_call0 (k := 1) F__law_numbered takes_cx (by exact hr.mono (by decide)) (by rfl) M__law_numbered K__law_numbered B__law_numbered))
  (ds_one (d_set 1 sc.nd (dx_add (dx_add (dx_var 1) dx_str) (dx_strc (by rfl) m_str (dx_w fb (dx_ix (dx_var 2) dx_int))))))
  ds_nil)
  (ds_one (d_set 1 sc.nd (dx_add (dx_var 1) dx_str))))))
  (ds_one (d_ret (dx_var 1)))))
abbrev N__law_endings : List Str := ["endings", "word", "number"]
theorem sc__law_endings : FnScope N__law_endings [] (defScope s__law_endings) := ⟨rfl, rfl, rfl, by decide +kernel, rfl, by decide +kernel, by decide +kernel⟩
def ts__law_endings : TDs := (sSeq (sSet ff 0 (eLst (aCons (eC (.str "crash")) (aCons (eC (.str "give up")) aNil))))
  (sSeq (sFor (iSeqD ff (eCall 0 C__law_numbered aNil)) (gN 1)
  (sExt 0 (lcD (iRng1D (eC (.int 40))) (gN 2) tYesD (eB addV (eB addV (eV 1) (eC (.str " "))) (e1 (un1 strD) (eV 2))) [2])))
  (sRet true (eVO 0))))
def endS : List Str := enL.map S
def endF (e : List Nat) : List Str := (List.range 40).map fun j => S (e ++ nd j)
theorem plain_ew : ((ew.filter (fun e => !decide (e ∈ numE))).map List.dropLast).map S = plainW := by decide +kernel
theorem endS_eq : endS = plainW ++ numE.flatMap endF := by
  unfold endS enL
  rw [List.map_append, plain_ew, List.map_flatMap]
  congr 2
theorem word_sp : ∀ e ∈ numE, e = e.dropLast ++ [32] := by decide
theorem sizeB : 100000 ≤ sizeLine := by decide
def C__law_endings : Ctr := fun args R _ => args = [] ∧ R (.own (endS.map .str))
theorem strs_nol (l : List Str) : nolistA (l.map PyData.str) = true := by
  induction l with
  | nil => rfl
  | cons x r ih => simp [ih]
theorem end_part (w : List Nat) (hw : w ∈ numE) : (rangeD 0 40).map (fun d => match d with | .int i => PyData.str (wordS w ++ " " ++ numS i) | d => d) = (endF w).map .str := by
  unfold rangeD endF
  rw [List.map_map, List.map_map]
  apply List.map_congr_left
  intro j hj
  have hj := List.mem_range.mp hj
  show PyData.str (wordS w ++ " " ++ numS (0 + (j : Int))) = .str (S (w ++ nd j))
  congr 1
  rw [show 0 + (j : Int) = (j : Int) by omega, numS_nd (by omega)]
  apply S_eq_iff.mpr
  have sp : (Str.ofString " ").cps.toList = [32] := by decide +kernel
  rw [cps_app, cps_app, S_codes, sp]
  unfold wordS
  rw [S_codes]
  conv => rhs; rw [word_sp w hw]
theorem ad__law_endings : AdOk C__law_endings ts__law_endings N__law_endings 0 := by
  rintro args R RX hl ⟨rfl, h⟩
  have sb := sizeB
  simp [ts__law_endings, startD, seqV, strs_nol]
  refine forL_inv (fun items δ => ∃ r xs o1 o2, items = r.map (fun e => PyData.str (wordS e)) ∧ (∀ e ∈ r, e ∈ numE) ∧ δ = [some (.own (xs.map .str)), o1, o2] ∧ xs ++ r.flatMap endF = endS ∧ xs.length + 40 * r.length ≤ 1000) ?_ ?_ _ _ ⟨numE, plainW, none, none, ?_, fun _ h => h, rfl, endS_eq.symm, by decide⟩
  · rintro d items δ K hK ⟨r, xs, o1, o2, e, hr, rfl, hx, hxl⟩
    cases r with
    | nil => cases e
    | cons w r =>
      simp only [List.map_cons, List.cons.injEq] at e
      obtain ⟨rfl, rfl⟩ := e
      simp at hxl
      simp [lcD]
      refine ⟨by rw [rangeD_len]; omega, ?_⟩
      refine lcL_map (fun d => match d with | .int i => .str (wordS w ++ " " ++ numS i) | d => d) _ _ _ (fun d hd k1 k0 hk => ?_) ?_
      · obtain ⟨j, hj, rfl⟩ := mem_rangeD.mp hd
        have lw : (wordS w).length ≤ 10 := by
          have : ∀ e ∈ numE, (wordS e).length ≤ 10 := by decide +kernel
          exact this w (hr w (by simp))
        have ln := numS_len (i := 0 + (j : Int)) (by omega) (by omega)
        have lg := log2_small (i := 0 + (j : Int)) (by omega) (by omega)
        have e1 : ((" " : String) : Str).length = 1 := rfl
        simp [wipeD] at lg ln ⊢
        simp [app_len, e1, lg]
        refine ⟨by omega, by omega, ?_⟩
        simpa using hk
      · have ee := end_part w (hr w (by simp))
        simp only [List.nil_append]
        rw [ee]
        have le : (endF w).length = 40 := by simp [endF]
        simp [extV, strs_nol, le]
        refine ⟨by omega, ?_⟩
        rw [← List.map_append]
        refine hK _ ⟨r, xs ++ endF w, _, _, rfl, fun e he => hr e (by simp [he]), rfl, by rw [← hx]; simp, by simp [le]; omega⟩
  · rintro δ ⟨r, xs, o1, o2, e, hr, rfl, hx, _⟩
    cases r with
    | cons => cases e
    | nil =>
      simp at hx
      rw [hx]
      simp
      exact h
  · unfold numW; rw [List.map_map]; rfl
theorem h__law_endings (T : Tx K mg) : Has P w K mg base (LK K) "_law_endings" 2 [] C__law_endings := by
  obtain ⟨_, F__law_numbered, B__law_numbered, M__law_numbered, K__law_numbered⟩ := h__law_numbered (P := P) (w := w) (base := base) T
  have m_range : mg "range" = none := T.fr "range" (by decide)
  have m_str : mg "str" = none := T.fr "str" (by decide)
  obtain ⟨fd, FD⟩ := T.d__law_endings
  refine ⟨fd, ?_, FD.bindsN fun _ _ _ _ _ _ us hl => match us, hl with | [], _ => rfl, T.g__law_endings, FD.kp⟩
  refine fn_ok (ts := ts__law_endings) FD sc__law_endings (fun cdv A outer s H E hr => ?_) ad__law_endings
  have sc := sc__law_endings
  exact (ds_cons (d_set 0 sc.nd (dx_lst (da_cons dx_str (da_cons dx_str da_nil))))
  (ds_cons (d_for (by exact passes_of rfl) (by rfl) (di_seq (fl := ff) true (dx_call0 (k := 1) F__law_numbered takes_cx (by exact hr.mono (by decide)) (by rfl) M__law_numbered K__law_numbered B__law_numbered)) (dg_name 1 sc.nd)
  (ds_one (d_ext 0 (dx_lc (own := [("number", 2)]) sc.nd (di_range1 false (by rfl) m_range dx_int) (blkOk_by (own := [("number", 2)]) (N := N__law_endings) (sc := defScope s__law_endings) (by decide +kernel)) (fun _ _ _ _ _ => (dg_name 2 sc.nd)) (fun _ _ _ _ _ => dts_nil) (fun _ _ _ _ _ => (dx_add (dx_add (dx_var 1) dx_str) (dx_strc (by rfl) m_str (dx_var 2))))))))
  (ds_one (d_ret (dx_varO 0)))))
abbrev N__law_begins : List Str := ["part", "low", "endings", "cut", "tick", "rest", "ending"]
theorem sc__law_begins : FnScope N__law_begins ["part", "low", "endings"] (defScope s__law_begins) := ⟨rfl, rfl, rfl, by decide +kernel, rfl, by decide +kernel, by decide +kernel⟩
def ts__law_begins : TDs := (sSeq (sSet ff 3 (eSm (opD (ssI Txt.find)) (eV 0) (eC (.str " "))))
  (sSeq (sIf (tB2 (opD (cmpI fun i j => decide (i < j))) (eV 3) (eC (.int 0)))
  (sRet true (eB (opD (cmpI fun i j => decide (j < i))) (e1 lenV (lcD (iRng2D (eV 1) (eC (.int 401))) (gN 4) (tOf (eSm (opD (ssB Txt.startswith)) (e1 (un1 strD) (eV 4)) (eV 0))) (eN (eV 4)) [4])) (eC (.int 0))))
  sNil)
  (sSeq (sIf (tB2 (opD (inD true)) (eSl (eV 0) oNone (oSome (eV 3))) (lcD (iRng2D (eV 1) (eC (.int 401))) (gN 4) tYesD (e1 (un1 strD) (eV 4)) [4]))
  (sRet true (eC (.bool false)))
  sNil)
  (sSeq (sSet ff 5 (eSl (eV 0) (oSome (eB addV (eV 3) (eC (.int 1)))) oNone))
  (sRet true (eB (opD (cmpI fun i j => decide (j < i))) (e1 lenV (lcD (iVarD 2) (gN 6) (tOf (eSm (opD (ssB Txt.startswith)) (eB addV (eV 6) (eC (.str "\n"))) (eV 5))) (eN (eV 6)) [6])) (eC (.int 0))))))))
def C__law_begins : Ctr := fun args R _ => ∃ (s : Str) (low : Nat), args = [.d (.str s), .d (.int low), .d (.list (endS.map .str))] ∧ low ≤ 400 ∧ s.length ≤ 5000 ∧ R (.d (.bool (bg low s.cps.toList)))
theorem at__law_begins {s : Str} (low : Nat) {i : Int} {R : SV → Prop} {RX : Exn → Prop} (ei : i = low) (h0 : low ≤ 400) (h1 : s.length ≤ 5000) (h : R (.d (.bool (bg low s.cps.toList)))) : C__law_begins [.d (.str s), .d (.int i), .d (.list (endS.map .str))] R RX := ⟨s, low, by rw [ei], h0, h1, h⟩
theorem endS_short : ∀ e ∈ endS, e.length ≤ 100 := by
  intro e he
  unfold endS at he
  obtain ⟨l, hl, rfl⟩ := List.mem_map.mp he
  rw [S_len]
  unfold enL at hl
  rcases List.mem_append.mp hl with h | h
  · obtain ⟨a, ha, rfl⟩ := List.mem_map.mp h
    have := ew_len a (List.mem_filter.mp ha).1
    rw [List.length_dropLast]; omega
  · obtain ⟨a, ha, h⟩ := List.mem_flatMap.mp h
    obtain ⟨j, hj, rfl⟩ := List.mem_map.mp h
    have := ew_len a (ew_num a ha).1
    have lj := numS_len (i := j) (by omega) (by have := List.mem_range.mp hj; omega)
    rw [numS_nd (by have := List.mem_range.mp hj; omega), S_len] at lj
    rw [List.length_append]; omega
theorem endS_len : endS.length ≤ 1000 := by
  unfold endS enL
  simp [List.length_flatMap]
  decide
theorem fm_pos {α β : Type} (f : α → Option β) (p : α → Bool) (h : ∀ a, (f a).isSome = p a) (l : List α) : decide (0 < (l.filterMap f).length) = l.any p := by
  rw [Bool.eq_iff_iff, decide_eq_true_eq, List.any_eq_true]
  constructor
  · intro hp
    obtain ⟨b, hb⟩ := List.exists_mem_of_length_pos hp
    obtain ⟨a, ha, e⟩ := List.mem_filterMap.mp hb
    exact ⟨a, ha, by rw [← h, e]; rfl⟩
  · rintro ⟨a, ha, hp⟩
    rw [← h] at hp
    obtain ⟨b, hb⟩ := Option.isSome_iff_exists.mp hp
    have : b ∈ l.filterMap f := List.mem_filterMap.mpr ⟨a, ha, hb⟩
    exact List.length_pos_of_mem this
theorem ticks_range (low : Nat) (h : low ≤ 400) : ∀ (p : Str → Bool), ((rangeD low (401 - low)).any fun d => match d with | .int i => p (numS i) | _ => false) = (ticks low).any fun t => p (S t) := by
  intro p
  unfold rangeD ticks
  rw [List.any_map, List.any_map, List.range'_eq_map_range, List.any_map]
  rw [Bool.eq_iff_iff, List.any_eq_true, List.any_eq_true]
  have key : ∀ k ∈ List.range (401 - low), numS ((low : Int) + (k : Int)) = S (nd (low + k)) := fun k hk => by
    have := List.mem_range.mp hk
    rw [show (low : Int) + (k : Int) = ((low + k : Nat) : Int) by omega, numS_nd (by omega)]
  constructor
  · rintro ⟨k, hk, hp⟩
    refine ⟨k, hk, ?_⟩
    have hp' : p (numS ((low : Int) + (k : Int))) = true := hp
    rw [key k hk] at hp'
    exact hp'
  · rintro ⟨k, hk, hp⟩
    refine ⟨k, hk, ?_⟩
    show p (numS ((low : Int) + (k : Int))) = true
    rw [key k hk]
    exact hp
theorem ad__law_begins : AdOk C__law_begins ts__law_begins N__law_begins 3 := by
  rintro args R RX hl ⟨s, low, rfl, h0, h1, h⟩
  have sb := sizeB
  have ss : s.length ≤ sizeLine := by omega
  have el := endS_len
  have sp : (Str.ofString " ") = chr1 32 := rfl
  have numOk : ∀ j : Nat, low + j < 401 → ((low : Int) + (j : Int)).natAbs.log2 < 1920 := fun j hj => log2_small (by omega) (by omega)
  simp [ts__law_begins, startD, ssI, ssB, sp]
  have one : ∀ (q : Str), decide (0 < (List.filterMap (fun d : PyData => match d with | .int i => if Txt.startswith (numS i) q then some d else none | _ => none) (rangeD low (401 - low))).length) = (ticks low).any fun t => q.cps.toList.isPrefixOf t := fun q => by
    rw [fm_pos _ (fun d => match d with | .int i => Txt.startswith (numS i) q | _ => false) (fun d => by cases d <;> simp <;> split <;> simp_all), ticks_range low h0 fun t => Txt.startswith t q]
    congr 1
    funext t
    rw [startswith_iff, S_codes]
  unfold bg at h
  by_cases hc : 32 ∈ s.cps.toList
  · obtain ⟨a, b, eab, ha⟩ := List.eq_append_cons_of_mem hc
    have ef : Txt.find s (chr1 32) = (a.length : Nat) := find_at eab ha
    have tw : s.cps.toList.takeWhile (· != 32) = a := by
      rw [eab, List.takeWhile_append_of_pos (fun c hc => by simp; exact fun e => ha (e ▸ hc))]
      simp
    have dw : s.cps.toList.dropWhile (· != 32) = 32 :: b := by
      rw [eab, List.dropWhile_append_of_pos (fun c hc => by simp; exact fun e => ha (e ▸ hc))]
      simp
    rw [dw, tw] at h
    simp only at h
    have neg : ¬ (a.length : Int) < 0 := by omega
    rw [ef]
    simp [neg, lcD, ss]
    refine ⟨by omega, by rw [rangeD_len]; omega, lcL_map (fun d => match d with | .int i => .str (numS i) | d => d) _ _ _ (fun d hd k1 k0 hk => ?_) ?_⟩
    · obtain ⟨j, hj, rfl⟩ := mem_rangeD.mp hd
      simp [wipeD, numOk j (by omega)]
      simpa using hk
    · have em : (rangeD low (401 - low)).map (fun d => match d with | .int i => PyData.str (numS i) | d => d) = ((ticks low).map S).map .str := by
        unfold rangeD ticks
        rw [List.map_map, List.map_map, List.map_map, List.range'_eq_map_range, List.map_map]
        apply List.map_congr_left
        intro k hk
        have := List.mem_range.mp hk
        show PyData.str (numS ((low : Int) + (k : Int))) = .str (S (nd (low + k)))
        rw [show (low : Int) + (k : Int) = ((low + k : Nat) : Int) by omega, numS_nd (by omega)]
      rw [List.nil_append, em, inD_strsL]
      have ec : cutS s none (some (a.length : Int)) = S a := S_eq_iff.mpr (by rw [cutS_to, eab]; simp)
      have ec2 : cutS s (some ((a.length : Int) + 1)) none = S b := S_eq_iff.mpr (by rw [show (a.length : Int) + 1 = ((a.length + 1 : Nat) : Int) by omega, cutS_from, eab]; simp)
      have mm : (S a ∈ (ticks low).map S) ↔ a ∈ ticks low := by
        rw [List.mem_map]
        exact ⟨fun ⟨x, hx, e⟩ => S_inj e ▸ hx, fun hx => ⟨a, hx, rfl⟩⟩
      rw [ec, ec2]
      by_cases hm : a ∈ ticks low
      · simp [mm.mpr hm]
        refine ⟨by omega, lcL_ok (fun d => match d with | .str e => if Txt.startswith (e ++ "\n") (S b) then some d else none | _ => none) _ _ _ (fun d hd k1 k0 hk => ?_) ?_⟩
        · obtain ⟨e, he, rfl⟩ := List.mem_map.mp hd
          have := endS_short e he
          have e1 : (("\n" : String) : Str).length = 1 := rfl
          simp [wipeD, e1]
          refine ⟨by omega, ?_⟩
          cases hs : Txt.startswith (e ++ "\n") (S b) with
          | true => simpa [hs] using hk
          | false => simpa [hs] using hk
        · rw [List.nil_append, fm_pos _ (fun d => match d with | .str e => Txt.startswith (e ++ "\n") (S b) | _ => false) (fun d => by cases d <;> simp <;> split <;> simp_all), List.any_map]
          have hc : (ticks low).contains a = true := by simpa using hm
          rw [hc, Bool.true_and] at h
          have : (endS.any ((fun d => match d with | PyData.str e => Txt.startswith (e ++ "\n") (S b) | _ => false) ∘ PyData.str)) = enL.any fun e => b.isPrefixOf (e ++ [10]) := by
            unfold endS
            rw [List.any_map]
            congr 1
            funext e
            show Txt.startswith (S e ++ "\n") (S b) = _
            rw [startswith_iff, cps_app, S_codes, S_codes]
            rfl
          rw [this]
          exact h
      · have hc : (ticks low).contains a = false := by simpa using hm
        rw [hc] at h
        have nm : ¬ S a ∈ (ticks low).map S := fun z => hm (mm.mp z)
        simp only [nm, decide_false, Bool.not_false, if_true, wB_b]
        simpa using h
  · have ef : Txt.find s (chr1 32) = -1 := find_none hc
    have dw : s.cps.toList.dropWhile (· != 32) = [] := dropWhile_none hc
    rw [dw] at h
    rw [ef]
    simp [lcD]
    refine ⟨by omega, by rw [rangeD_len]; omega, lcL_ok (fun d : PyData => match d with | .int i => if Txt.startswith (numS i) s then some d else none | _ => none) _ _ _ (fun d hd k1 k0 hk => ?_) ?_⟩
    · obtain ⟨j, hj, rfl⟩ := mem_rangeD.mp hd
      simp [wipeD, numOk j (by omega)]
      cases hs : Txt.startswith (numS ((low : Int) + (j : Int))) s with
      | true => simpa [hs] using hk
      | false => simpa [hs] using hk
    · rw [List.nil_append, one]
      exact h
theorem h__law_begins (T : Tx K mg) : Has P w K mg base (LK K) "_law_begins" 1 ["part", "low", "endings"] C__law_begins := by
  have m_len : mg "len" = none := T.fr "len" (by decide)
  have m_range : mg "range" = none := T.fr "range" (by decide)
  have m_str : mg "str" = none := T.fr "str" (by decide)
  obtain ⟨fd, FD⟩ := T.d__law_begins
  refine ⟨fd, ?_, FD.bindsN fun _ _ _ _ _ _ us hl => match us, hl with | [_, _, _], _ => rfl, T.g__law_begins, FD.kp⟩
  refine fn_ok (ts := ts__law_begins) FD sc__law_begins (fun cdv A outer s H E hr => ?_) ad__law_begins
  have sc := sc__law_begins
  exact (ds_cons (d_set 3 sc.nd (dx_find (dx_var 0) dx_str))
  (ds_cons (d_if (dt_lt (dx_var 3) dx_int)
  (ds_one (d_ret (dx_gt (dx_len (by rfl) m_len (dx_lc (own := [("tick", 4)]) sc.nd (di_range2 false (by rfl) m_range (dx_var 1) dx_int) (blkOk_by (own := [("tick", 4)]) (N := N__law_begins) (sc := defScope s__law_begins) (by decide +kernel)) (fun _ _ _ _ _ => (dg_name 4 sc.nd)) (fun _ _ _ _ _ => (dts_one (dt_of (dx_startswith (dx_strc (by rfl) m_str (dx_var 4)) (dx_var 0))))) (fun _ _ _ _ _ => (dx_n (dx_var 4))))) dx_int)))
  ds_nil)
  (ds_cons (d_if (dt_notIn (by exact Room.u65 hr) (dx_slice (dx_var 0) do_none (do_some (dx_var 3))) (dx_lc (own := [("tick", 4)]) sc.nd (di_range2 false (by rfl) m_range (dx_var 1) dx_int) (blkOk_by (own := [("tick", 4)]) (N := N__law_begins) (sc := defScope s__law_begins) (by decide +kernel)) (fun _ _ _ _ _ => (dg_name 4 sc.nd)) (fun _ _ _ _ _ => dts_nil) (fun _ _ _ _ _ => (dx_strc (by rfl) m_str (dx_var 4)))))
  (ds_one (d_ret dx_bool))
  ds_nil)
  (ds_cons (d_set 5 sc.nd (dx_slice (dx_var 0) (do_some (dx_add (dx_var 3) dx_int)) do_none))
  (ds_one (d_ret (dx_gt (dx_len (by rfl) m_len (dx_lc (own := [("ending", 6)]) sc.nd (di_var 2) (blkOk_by (own := [("ending", 6)]) (N := N__law_begins) (sc := defScope s__law_begins) (by decide +kernel)) (fun _ _ _ _ _ => (dg_name 6 sc.nd)) (fun _ _ _ _ _ => (dts_one (dt_of (dx_startswith (dx_add (dx_var 6) dx_str) (dx_var 5))))) (fun _ _ _ _ _ => (dx_n (dx_var 6))))) dx_int)))))))
abbrev N__law_place : List Str := ["line", "low", "endings", "k"]
theorem sc__law_place : FnScope N__law_place ["line", "low", "endings"] (defScope s__law_place) := ⟨rfl, rfl, rfl, by decide +kernel, rfl, by decide +kernel, by decide +kernel⟩
def ts__law_place : TDs := (sSeq (sFor (iRng1D (e1 lenV (eV 0))) (gN 3)
  (sIf (tNotD (tOf (eCall 3 C__law_begins (aCons (eSl (eV 0) oNone (oSome (eB addV (eV 3) (eC (.int 1))))) (aCons (eV 1) (aCons (eV 2) aNil))))))
  (sRet false (eV 3))
  sNil))
  (sRet true (e1 lenV (eV 0))))
def C__law_place : Ctr := fun args R _ => ∃ (s : Str) (low : Nat), args = [.d (.str s), .d (.int low), .d (.list (endS.map .str))] ∧ low ≤ 400 ∧ s.length ≤ 5000 ∧ R (.d (.int (plc (bg low) s.cps.toList : Nat)))
theorem at__law_place {s : Str} (low : Nat) {i : Int} {R : SV → Prop} {RX : Exn → Prop} (ei : i = low) (h0 : low ≤ 400) (h1 : s.length ≤ 5000) (h : R (.d (.int (plc (bg low) s.cps.toList : Nat)))) : C__law_place [.d (.str s), .d (.int i), .d (.list (endS.map .str))] R RX := ⟨s, low, by rw [ei], h0, h1, h⟩
theorem plc_at {B : List Nat → Bool} {line : List Nat} {k : Nat} (hk : k < line.length) (hb : ∀ j, j < k → B (line.take (j + 1)) = true) (h : B (line.take (k + 1)) = false) : plc B line = k := by
  unfold plc
  rw [find_first _ _ k hk (by simp [h]) fun j hj => by simp [hb j hj]]
  rfl
theorem plc_end {B : List Nat → Bool} {line : List Nat} (hb : ∀ j, j < line.length → B (line.take (j + 1)) = true) : plc B line = line.length := by
  unfold plc
  have : (List.range line.length).find? (fun k => !B (line.take (k + 1))) = none := by
    rw [List.find?_eq_none]
    intro k hk
    simp [hb k (List.mem_range.mp hk)]
  rw [this]; rfl
theorem ad__law_place : AdOk C__law_place ts__law_place N__law_place 3 := by
  rintro args R RX hl ⟨s, low, rfl, h0, h1, h⟩
  have sb := sizeB
  have ss : s.length ≤ sizeLine := by omega
  have ls := slen s
  simp [ts__law_place, startD, ss]
  refine ⟨by omega, forL_range (fun i δ => ∃ o, δ = [some (.d (.str s)), some (.d (.int low)), some (.d (.list (endS.map .str))), o] ∧ ∀ j, j < i → bg low (s.cps.toList.take (j + 1)) = true) 0 _ ?_ ?_ _ ⟨none, rfl, fun j hj => by omega⟩⟩
  · rintro i δ K hi hK ⟨o, rfl, hb⟩
    have ec : (cutS s none (some ((i : Int) + 1))).cps.toList = s.cps.toList.take (i + 1) := by rw [show (i : Int) + 1 = ((i + 1 : Nat) : Int) by omega, cutS_to]
    simp [ss]
    refine at__law_begins low rfl h0 (by rw [slen, ec, List.length_take]; omega) ?_
    rw [ec]
    cases hbg : bg low (s.cps.toList.take (i + 1)) with
    | true =>
      simp
      refine hK _ ⟨_, rfl, fun j hj => ?_⟩
      rcases Nat.lt_or_ge j i with g | g
      · exact hb j g
      · rw [show j = i by omega]; exact hbg
    | false =>
      simp
      rw [plc_at (by omega) hb hbg] at h
      exact h
  · rintro δ ⟨o, rfl, hb⟩
    simp [ss]
    rw [plc_end (by rw [← ls]; exact hb), ← ls] at h
    exact h
theorem h__law_place (T : Tx K mg) : Has P w K mg base (LK K) "_law_place" 2 ["line", "low", "endings"] C__law_place := by
  obtain ⟨_, F__law_begins, B__law_begins, M__law_begins, K__law_begins⟩ := h__law_begins (P := P) (w := w) (base := base) T
  have m_len : mg "len" = none := T.fr "len" (by decide)
  have m_range : mg "range" = none := T.fr "range" (by decide)
  obtain ⟨fd, FD⟩ := T.d__law_place
  refine ⟨fd, ?_, FD.bindsN fun _ _ _ _ _ _ us hl => match us, hl with | [_, _, _], _ => rfl, T.g__law_place, FD.kp⟩
  refine fn_ok (ts := ts__law_place) FD sc__law_place (fun cdv A outer s H E hr => ?_) ad__law_place
  have sc := sc__law_place
  exact (ds_cons (d_for (by exact passes_of rfl) (by rfl) (di_range1 true (by rfl) m_range (dx_len (by rfl) m_len (dx_var 0))) (dg_name 3 sc.nd)
  (ds_one (d_if (dt_not (dt_of (dx_call (k := 1) F__law_begins takes_cx (by exact hr.mono (by decide)) (by rfl) M__law_begins K__law_begins B__law_begins (da_cons (dx_w fb (dx_slice (dx_var 0) do_none (do_some (dx_add (dx_var 3) dx_int)))) (da_cons (dx_var 1) (da_cons (dx_var 2) da_nil))))))
  (ds_one (d_ret (dx_var 3)))
  ds_nil)))
  (ds_one (d_ret (dx_len (by rfl) m_len (dx_var 0)))))
abbrev N__law_line : List Str := ["line", "parts"]
theorem sc__law_line : FnScope N__law_line ["line"] (defScope s__law_line) := ⟨rfl, rfl, rfl, by decide +kernel, rfl, by decide +kernel, by decide +kernel⟩
def ts__law_line : TDs := (sSeq (sSet ff 1 (eSm splitV (eV 0) (eC (.str " "))))
  (sSeq (sIf (tB2 (opD (inD false)) (eIx (eV 1) (eC (.int 1))) (eCall 0 C__law_numbered aNil))
  (sRet true (eTup (aCons (e1 (un1 intD) (eIx (eV 1) (eC (.int 0)))) (aCons (eN (eIx (eV 1) (eC (.int 1)))) (aCons (e1 (un1 intD) (eIx (eV 1) (eC (.int 2)))) aNil)))))
  sNil)
  (sRet true (eTup (aCons (e1 (un1 intD) (eIx (eV 1) (eC (.int 0)))) (aCons (eSm joinV (eC (.str " ")) (eSl (eV 1) (oSome (eC (.int 1))) oNone)) (aCons (eNeg (eC (.int 1))) aNil)))))))
def C__law_line : Ctr := fun args R _ => ∃ (s : Str) (low t : Nat) (e : List Nat) (n : Int), args = [.d (.str s)] ∧ VL low t e n (s.cps.toList ++ [10]) ∧ s.length ≤ 5000 ∧ R (.d (evD ((t : Int), e, n)))
theorem at__law_line {s : Str} (low t : Nat) (e : List Nat) (n : Int) {R : SV → Prop} {RX : Exn → Prop} (h : VL low t e n (s.cps.toList ++ [10])) (h1 : s.length ≤ 5000) (hr : R (.d (evD ((t : Int), e, n)))) : C__law_line [.d (.str s)] R RX := ⟨s, low, t, e, n, rfl, h, h1, hr⟩
theorem no32 {t : Nat} : 32 ∉ nd t := fun z => by
  have := nd32 z
  simp at this
theorem ad__law_line : AdOk C__law_line ts__law_line N__law_line 1 := by
  rintro args R RX hl ⟨s, low, t, e, n, rfl, ⟨h1, h2, u, hu, hv⟩, hs, h⟩
  have sb := sizeB
  have sp : (Str.ofString " ") = chr1 32 := rfl
  have spl0 : ((chr1 32).length == 0) = false := rfl
  have it : PySem.intText? (S (nd t)) = some (t : Int) := by rw [← numS_nd h2]; exact numS_int ⟨t, by omega⟩
  have lt : (S (nd t)).length ≤ 640 := by rw [← numS_nd h2]; have := numS_len (i := t) (by omega) (by omega); omega
  have ix2 : ∀ (a b : PyData) (r : List PyData), atI (a :: b :: r) 1 = some b := fun a b r => by rw [show (1 : Int) = ((1 : Nat) : Int) from rfl, atI_at]; rfl
  have ix3 : ∀ (a b c : PyData) (r : List PyData), atI (a :: b :: c :: r) 2 = some c := fun a b c r => by rw [show (2 : Int) = ((2 : Nat) : Int) from rfl, atI_at]; rfl
  have tonum : ∀ (x : Str) (i : Int) (R : SV → Prop), PySem.intText? x = some i → x.length ≤ 640 → R (.d (.int i)) → DL.intD (.str x) R := fun x i R h1 h2 h3 => by
    simp [DL.intD, h1, h2, h3]
  rcases hu with ⟨he, hne, rfl, rfl⟩ | ⟨he, j, hj, rfl, rfl⟩
  · have two : ∀ e ∈ ew, e ∉ numE → e = [99, 114, 97, 115, 104, 10] ∨ e = [103, 105, 118, 101, 32, 117, 112, 10] := by decide
    rcases two e he hne with rfl | rfl
    · have hc : s.cps.toList = nd t ++ 32 :: [99, 114, 97, 115, 104] := by
        have : s.cps.toList ++ [10] = (nd t ++ 32 :: [99, 114, 97, 115, 104]) ++ [10] := by rw [hv]; simp
        exact (List.append_inj' this rfl).1
      have hsp : spl 32 s.cps.toList = [nd t, [99, 114, 97, 115, 104]] := by rw [hc, spl_app no32, spl_no (by decide)]
      have nw : ¬ S [99, 114, 97, 115, 104] ∈ numW := by decide +kernel
      simp [ts__law_line, startD, sp, spl0, split_one s (show 32 < 256 by omega), hsp, ix2, inD_strsL, nw]
      refine ⟨by omega, tonum _ _ _ it lt ?_⟩
      refine ⟨[S [99, 114, 97, 115, 104]], by rw [show (1 : Int) = ((1 : Nat) : Int) from rfl]; rfl, by decide, ?_⟩
      simp
      exact h
    · have hc : s.cps.toList = nd t ++ 32 :: ([103, 105, 118, 101] ++ 32 :: [117, 112]) := by
        have : s.cps.toList ++ [10] = (nd t ++ 32 :: ([103, 105, 118, 101] ++ 32 :: [117, 112])) ++ [10] := by rw [hv]; simp
        exact (List.append_inj' this rfl).1
      have hsp : spl 32 s.cps.toList = [nd t, [103, 105, 118, 101], [117, 112]] := by rw [hc, spl_app no32, spl_app (by decide), spl_no (by decide)]
      have nw : ¬ S [103, 105, 118, 101] ∈ numW := by decide +kernel
      simp [ts__law_line, startD, sp, spl0, split_one s (show 32 < 256 by omega), hsp, ix2, inD_strsL, nw]
      refine ⟨by omega, tonum _ _ _ it lt ?_⟩
      refine ⟨[S [103, 105, 118, 101], S [117, 112]], by rw [show (1 : Int) = ((1 : Nat) : Int) from rfl]; rfl, by decide, ?_⟩
      simp
      exact h
  · have ee := word_sp e he
    have n32 : 32 ∉ e.dropLast := by
      have : ∀ e ∈ numE, 32 ∉ e.dropLast := by decide
      exact this e he
    have hc : s.cps.toList = nd t ++ 32 :: (e.dropLast ++ 32 :: nd j) := by
      have : s.cps.toList ++ [10] = (nd t ++ 32 :: (e.dropLast ++ 32 :: nd j)) ++ [10] := by
        rw [hv]
        conv => lhs; rw [ee]
        simp
      exact (List.append_inj' this rfl).1
    have hsp : spl 32 s.cps.toList = [nd t, e.dropLast, nd j] := by rw [hc, spl_app no32, spl_app n32, spl_no no32]
    have hw : S e.dropLast ∈ numW := (word_num e (ew_num e he).1).mpr he
    have ij : PySem.intText? (S (nd j)) = some (j : Int) := by rw [← numS_nd (by omega)]; exact numS_int ⟨j, by omega⟩
    have lj : (S (nd j)).length ≤ 640 := by rw [← numS_nd (by omega)]; have := numS_len (i := j) (by omega) (by omega); omega
    simp [ts__law_line, startD, sp, spl0, split_one s (show 32 < 256 by omega), hsp, ix2, ix3, inD_strsL, hw]
    refine ⟨by omega, tonum _ _ _ it lt ?_⟩
    refine tonum _ _ _ ij lj ?_
    simp
    exact h
theorem h__law_line (T : Tx K mg) : Has P w K mg base (LK K) "_law_line" 2 ["line"] C__law_line := by
  obtain ⟨_, F__law_numbered, B__law_numbered, M__law_numbered, K__law_numbered⟩ := h__law_numbered (P := P) (w := w) (base := base) T
  have m_int : mg "int" = none := T.fr "int" (by decide)
  obtain ⟨fd, FD⟩ := T.d__law_line
  refine ⟨fd, ?_, FD.bindsN fun _ _ _ _ _ _ us hl => match us, hl with | [_], _ => rfl, T.g__law_line, FD.kp⟩
  refine fn_ok (ts := ts__law_line) FD sc__law_line (fun cdv A outer s H E hr => ?_) ad__law_line
  have sc := sc__law_line
  exact (ds_cons (d_set 1 sc.nd (dx_split (dx_var 0) dx_str))
  (ds_cons (d_if (dt_in (by exact Room.u65 hr) (dx_w fb (dx_ix (dx_var 1) dx_int)) (dx_call0 (k := 1) F__law_numbered takes_cx (by exact hr.mono (by decide)) (by rfl) M__law_numbered K__law_numbered B__law_numbered))
  (ds_one (d_ret (dx_tup (da_cons (dx_intc (by rfl) m_int (dx_w fb (dx_ix (dx_var 1) dx_int))) (da_cons (dx_n (dx_w fb (dx_ix (dx_var 1) dx_int))) (da_cons (dx_intc (by rfl) m_int (dx_w fb (dx_ix (dx_var 1) dx_int))) da_nil))))))
  ds_nil)
  (ds_one (d_ret (dx_tup (da_cons (dx_intc (by rfl) m_int (dx_w fb (dx_ix (dx_var 1) dx_int))) (da_cons (dx_join dx_str (dx_slice (dx_var 1) (do_some dx_int) do_none)) (da_cons (dx_neg dx_int) da_nil))))))))
abbrev N__law_read : List Str := ["text", "endings", "lines", "row", "low", "k", "line"]
theorem sc__law_read : FnScope N__law_read ["text", "endings"] (defScope s__law_read) := ⟨rfl, rfl, rfl, by decide +kernel, rfl, by decide +kernel, by decide +kernel⟩
def ts__law_read : TDs := (sSeq (sSet ff 2 (eSm splitV (eV 0) (eC (.str "\n"))))
  (sSeq (sSet ff 3 (eLst aNil))
  (sSeq (sSet ff 4 (eC (.int 0)))
  (sSeq (sFor (iRng1D (eB (opD subD) (e1 lenV (eV 2)) (eC (.int 1)))) (gN 5)
  (sSeq (sSet ff 6 (eB addV (eIx (eV 2) (eV 5)) (eC (.str "\n"))))
  (sSeq (sIf (tNotD (tOf (eCall 3 C__law_begins (aCons (eV 6) (aCons (eV 4) (aCons (eV 1) aNil))))))
  (sRet true (eTup (aCons (eC .none) (aCons (eB addV (eV 5) (eC (.int 1))) (aCons (eB addV (eC (.int 1)) (eCall 3 C__law_place (aCons (eV 6) (aCons (eV 4) (aCons (eV 1) aNil))))) aNil)))))
  sNil)
  (sSeq (sApp 3 (eCall 1 C__law_line (aCons (eIx (eV 2) (eV 5)) aNil)))
  (sSet fb 4 (eIx (eIx (eV 3) (eNeg (eC (.int 1)))) (eC (.int 0))))))))
  (sSeq (sIf (tB2 (opD eqD) (eIx (eV 2) (eNeg (eC (.int 1)))) (eC (.str "")))
  (sRet true (eTup (aCons (e1 (un1 tupD) (eV 3)) (aCons (eC (.int 0)) (aCons (eC (.int 0)) aNil)))))
  sNil)
  (sRet true (eTup (aCons (eC .none) (aCons (e1 lenV (eV 2)) (aCons (eB addV (eC (.int 1)) (eCall 3 C__law_place (aCons (eIx (eV 2) (eNeg (eC (.int 1)))) (aCons (eV 4) (aCons (eV 1) aNil))))) aNil))))))))))
open Classical in
noncomputable def evOf (v : List Nat) : Ev := if h : ∃ x : Ev, ∃ low t : Nat, x.1 = t ∧ VL low t x.2.1 x.2.2 (v ++ [10]) then h.choose else (0, [], 0)
theorem evOf_eq {low t : Nat} {e : List Nat} {n : Int} {v : List Nat} (h : VL low t e n (v ++ [10])) : evOf v = ((t : Int), e, n) := by
  have hx : ∃ x : Ev, ∃ low t : Nat, x.1 = t ∧ VL low t x.2.1 x.2.2 (v ++ [10]) := ⟨((t : Int), e, n), low, t, rfl, h⟩
  unfold evOf
  rw [dif_pos hx]
  obtain ⟨low', t', e1, h'⟩ := hx.choose_spec
  generalize hx.choose = x at e1 h'
  obtain ⟨x1, x2, x3⟩ := x
  simp only at e1 h'
  subst e1
  obtain ⟨_, _, u, hu, hv⟩ := h
  obtain ⟨_, _, u', hu', hv'⟩ := h'
  have hp : nd t ++ 32 :: (e ++ u) <+: nd t' ++ 32 :: (x2 ++ u') := by rw [← hv, ← hv']; exact List.prefix_refl _
  obtain ⟨q1, _, q3⟩ := cancel dig32 dig32 (fun _ h => nd_digs h) (fun _ h => nd_digs h) hp
  have q4 := nd_inj q1
  subst q4
  have q5 : e ++ u = x2 ++ u' := by
    rw [hv] at hv'
    have := List.append_cancel_left hv'
    simpa using this
  have he : e ∈ ew := by rcases hu with hu | hu; exact hu.1; exact (ew_num e hu.1).1
  have he' : x2 ∈ ew := by rcases hu' with hu' | hu'; exact hu'.1; exact (ew_num x2 hu'.1).1
  have ee : e = x2 := by
    rcases Nat.le_total e.length x2.length with g | g
    · exact ew_free e he x2 he' (List.prefix_of_prefix_length_le ((List.prefix_append _ _).trans q3) (List.prefix_append _ _) g)
    · exact (ew_free x2 he' e he (List.prefix_of_prefix_length_le (List.prefix_append _ _) ((List.prefix_append _ _).trans q3) g)).symm
  subst ee
  have q6 := List.append_cancel_left q5
  rcases hu with ⟨_, hn, _, rfl⟩ | ⟨hn, j, _, rfl, rfl⟩
  · rcases hu' with ⟨_, _, _, rfl⟩ | ⟨hn', _⟩
    · rfl
    · exact absurd hn' hn
  · rcases hu' with ⟨_, hn', _⟩ | ⟨_, j', _, rfl, rfl⟩
    · exact absurd hn hn'
    · have := (List.append_inj' q6 rfl).1
      rw [nd_inj this]
theorem spl_mem_len {c : Nat} : ∀ {l : List Nat}, ∀ p ∈ spl c l, p.length ≤ l.length
  | [], p, h => by simp [spl] at h; subst h; simp
  | a :: r, p, h => by
    rw [spl] at h
    split at h
    · rcases List.mem_cons.mp h with rfl | h
      · simp
      · have := spl_mem_len p h; simp; omega
    · obtain ⟨q, qs, e⟩ := spl_ne c r
      rw [e] at h
      rcases List.mem_cons.mp h with rfl | h
      · have := spl_mem_len (l := r) q (by rw [e]; simp); simp; omega
      · have := spl_mem_len (l := r) p (by rw [e]; simp [h]); simp; omega
theorem spl_num {c : Nat} : ∀ {l : List Nat}, (spl c l).length ≤ l.length + 1
  | [] => by simp [spl]
  | a :: r => by
    have ih := spl_num (c := c) (l := r)
    rw [spl]
    split
    · simp; omega
    · obtain ⟨q, qs, e⟩ := spl_ne c r
      rw [e] at ih ⊢
      simp at ih ⊢; omega
theorem VL_end {low t : Nat} {e : List Nat} {n : Int} {v : List Nat} (h : VL low t e n v) : ∃ v', v = v' ++ [10] ∧ 10 ∉ v' := by
  obtain ⟨_, _, u, hu, rfl⟩ := h
  rcases hu with ⟨he, hne, rfl, rfl⟩ | ⟨he, j, hj, rfl, rfl⟩
  · obtain ⟨g1, g2⟩ := ew_plain e he hne
    have ed := List.dropLast_concat_getLast g2
    rw [List.getLast?_eq_some_getLast g2] at g1
    rw [Option.some.inj g1] at ed
    refine ⟨nd t ++ 32 :: e.dropLast, by conv => lhs; rw [← ed]
                                         simp, fun z => ?_⟩
    simp only [List.mem_append, List.mem_cons] at z
    rcases z with z | z | z
    · exact no10_dig (fun _ h => nd_digs h) z
    · omega
    · exact ew_last e he z
  · refine ⟨nd t ++ 32 :: (e ++ nd j), by simp, fun z => ?_⟩
    simp only [List.mem_append, List.mem_cons] at z
    rcases z with z | z | z | z
    · exact no10_dig (fun _ h => nd_digs h) z
    · omega
    · exact (ew_num e he).2 z
    · exact no10_dig (fun _ h => nd_digs h) z
theorem bg_full {low : Nat} (h0 : low ≤ 400) {line : List Nat} (h : bg low (line ++ [10]) = true) : ∃ t e n, VL low t e n (line ++ [10]) := by
  obtain ⟨t, e, n, v, hv, hp⟩ := (bg_iff h0 _).mp h
  refine ⟨t, e, n, ?_⟩
  obtain ⟨v', rfl, hn⟩ := VL_end hv
  rcases pre_snoc hp with g | ⟨rfl, _⟩
  · exact absurd (g.subset (by simp)) hn
  · exact hv
def C__law_read : Ctr := fun args R _ => ∃ (s : Str), args = [.d (.str s), .d (.list (endS.map .str))] ∧ s.length ≤ 4000 ∧
  (match lawGo evOf (spl 10 s.cps.toList) 0 0 [] with | (some xs, _, _) => R (.d (.tuple [.tuple (xs.map evD), .int 0, .int 0])) | (none, a, b) => R (.d (.tuple [.none, .int (a : Nat), .int (b : Nat)])))
theorem strs_nol2 (l : List (List Nat)) : nolistA (l.map (PyData.str ∘ S)) = true := by rw [← List.map_map]; exact strs_nol _
theorem ad__law_read : AdOk C__law_read ts__law_read N__law_read 2 := by
  rintro args R RX hl ⟨s, rfl, hs, h⟩
  have sb := sizeB
  have ls := slen s
  have nl : (Str.ofString "\n") = chr1 10 := rfl
  have spl0 : ((chr1 10).length == 0) = false := rfl
  have sn := spl_num (c := 10) (l := s.cps.toList)
  have sm := spl_mem_len (c := 10) (l := s.cps.toList)
  have sne : (spl 10 s.cps.toList) ≠ [] := by obtain ⟨p, ps, e⟩ := spl_ne 10 s.cps.toList; rw [e]; simp
  generalize hL : spl 10 s.cps.toList = L at *
  have lp : 0 < L.length := List.length_pos_iff.mpr sne
  simp [ts__law_read, startD, nl, spl0, split_one s (show 10 < 256 by omega), hL, strs_nol2]
  refine ⟨by omega, by omega, by omega, ?_⟩
  refine forL_range (fun k δ => ∃ (low : Nat) (acc : List Ev) (o5 o6 : Option SV), δ = [some (.d (.str s)), some (.d (.list (endS.map .str))), some (.own (L.map (PyData.str ∘ S))), some (.own (acc.map evD)), some (.d (.int low)), o5, o6] ∧ low ≤ 400 ∧ acc.length = k ∧ lawGo evOf (L.drop k) low k acc = lawGo evOf L 0 0 []) 0 _ ?_ ?_ _ ⟨0, [], none, none, rfl, by omega, rfl, rfl⟩
  · rintro k δ K hk hK ⟨low, acc, o5, o6, rfl, h0, hacc, hg⟩
    have hk' : k + 1 < L.length := by omega
    have e1 : L.drop k = L[k] :: L[k + 1] :: L.drop (k + 2) := by
      rw [List.drop_eq_getElem_cons (by omega), List.drop_eq_getElem_cons (by omega)]
    have gk : (L.map (PyData.str ∘ S))[k]? = some (.str (S L[k])) := by rw [List.getElem?_map, List.getElem?_eq_getElem (by omega)]; rfl
    have lk := sm L[k] (List.getElem_mem _)
    rw [e1, lawGo] at hg
    rw [← List.drop_eq_getElem_cons (by omega)] at hg
    generalize L[k] = line at gk lk hg
    have ll := S_len line
    have eS : S line ++ chr1 10 = S (line ++ [10]) := S_eq_iff.mpr (by rw [cps_app, S_codes]; rfl)
    have l1 : (chr1 10).length = 1 := rfl
    simp [atI_at, gk, l1, ll, eS]
    refine ⟨by omega, at__law_begins low rfl h0 (by rw [S_len, List.length_append]; simp; omega) ?_⟩
    rw [S_codes]
    cases hb : bg low (line ++ [10]) with
    | false =>
      simp
      refine at__law_place low rfl h0 (by rw [S_len, List.length_append]; simp; omega) ?_
      rw [S_codes]
      simp
      rw [if_neg (by rw [hb]; simp)] at hg
      rw [← hg] at h
      simp only at h
      have e2 : ((k + 1 : Nat) : Int) = (k : Int) + 1 := by omega
      have e3 : ((1 + plc (bg low) (line ++ [10]) : Nat) : Int) = 1 + (plc (bg low) (line ++ [10]) : Int) := by omega
      rw [e2, e3] at h
      exact h
    | true =>
      obtain ⟨t, e, n, hv⟩ := bg_full h0 hb
      simp
      refine at__law_line low t e n (by rw [S_codes]; exact hv) (by omega) ?_
      rw [if_pos hb, evOf_eq hv] at hg
      simp [evD, at_last]
      refine ⟨by omega, ?_⟩
      refine hK _ ⟨t, acc ++ [((t : Int), e, n)], some (.d (.int k)), some (.d (.str (S (line ++ [10])))), ?_, hv.2.1, by simp [hacc], by simpa using hg⟩
      simp [evD]
  · rintro δ ⟨low, acc, o5, o6, rfl, h0, hacc, hg⟩
    have e1 : L.drop (L.length - 1) = [L[L.length - 1]] := by
      rw [List.drop_eq_getElem_cons (by omega), List.drop_eq_nil_of_le (by omega)]
    have en : ((L.length : Int) - 1).toNat = L.length - 1 := by omega
    rw [e1] at hg
    have lk := sm L[L.length - 1] (List.getElem_mem _)
    have gl : atI (L.map (PyData.str ∘ S)) (-1) = some (.str (S L[L.length - 1])) := by
      have : L = L.dropLast ++ [L[L.length - 1]] := by
        have := List.dropLast_concat_getLast sne
        rw [List.getLast_eq_getElem] at this
        exact this.symm
      conv => lhs; rw [this, List.map_append]
      exact at_last _ _
    generalize L[L.length - 1] = last at gl lk hg
    rw [lawGo] at hg
    simp [gl]
    rw [← hg] at h
    by_cases hlast : last = []
    · have : S last = Str.ofString "" := by rw [hlast]; rfl
      rw [if_pos this]
      rw [if_pos hlast] at h
      exact ⟨evD_nol acc, h⟩
    · have : ¬ S last = Str.ofString "" := fun z => hlast (S_inj z)
      rw [if_neg this]
      rw [if_neg hlast] at h
      refine at__law_place low rfl h0 (by rw [S_len]; omega) ?_
      rw [S_codes]
      simp only at h
      have e2 : ((L.length - 1 + 1 : Nat) : Int) = (L.length : Int) := by omega
      have e3 : ((1 + plc (bg low) last : Nat) : Int) = 1 + (plc (bg low) last : Int) := by omega
      rw [e2, e3] at h
      simpa using h
theorem h__law_read (T : Tx K mg) : Has P w K mg base (LK K) "_law_read" 3 ["text", "endings"] C__law_read := by
  obtain ⟨_, F__law_place, B__law_place, M__law_place, K__law_place⟩ := h__law_place (P := P) (w := w) (base := base) T
  obtain ⟨_, F__law_line, B__law_line, M__law_line, K__law_line⟩ := h__law_line (P := P) (w := w) (base := base) T
  obtain ⟨_, F__law_begins, B__law_begins, M__law_begins, K__law_begins⟩ := h__law_begins (P := P) (w := w) (base := base) T
  have m_len : mg "len" = none := T.fr "len" (by decide)
  have m_tuple : mg "tuple" = none := T.fr "tuple" (by decide)
  have m_range : mg "range" = none := T.fr "range" (by decide)
  obtain ⟨fd, FD⟩ := T.d__law_read
  refine ⟨fd, ?_, FD.bindsN fun _ _ _ _ _ _ us hl => match us, hl with | [_, _], _ => rfl, T.g__law_read, FD.kp⟩
  refine fn_ok (ts := ts__law_read) FD sc__law_read (fun cdv A outer s H E hr => ?_) ad__law_read
  have sc := sc__law_read
  exact (ds_cons (d_set 2 sc.nd (dx_split (dx_var 0) dx_str))
  (ds_cons (d_set 3 sc.nd (dx_lst da_nil))
  (ds_cons (d_set 4 sc.nd dx_int)
  (ds_cons (d_for (by exact passes_of rfl) (by rfl) (di_range1 true (by rfl) m_range (dx_sub (dx_len (by rfl) m_len (dx_var 2)) dx_int)) (dg_name 5 sc.nd)
  (ds_cons (d_set 6 sc.nd (dx_add (dx_w fb (dx_ix (dx_var 2) (dx_var 5))) dx_str))
  (ds_cons (d_if (dt_not (dt_of (dx_call (k := 1) F__law_begins takes_cx (by exact hr.mono (by decide)) (by rfl) M__law_begins K__law_begins B__law_begins (da_cons (dx_var 6) (da_cons (dx_var 4) (da_cons (dx_var 1) da_nil))))))
  (ds_one (d_ret (dx_tup (da_cons dx_none (da_cons (dx_add (dx_var 5) dx_int) (da_cons (dx_add dx_int (dx_call (k := 2) F__law_place takes_cx (by exact hr.mono (by decide)) (by rfl) M__law_place K__law_place B__law_place (da_cons (dx_var 6) (da_cons (dx_var 4) (da_cons (dx_var 1) da_nil))))) da_nil))))))
  ds_nil)
  (ds_cons (d_app 3 (dx_call (k := 2) F__law_line takes_cx (by exact hr.mono (by decide)) (by rfl) M__law_line K__law_line B__law_line (da_cons (dx_w fb (dx_ix (dx_var 2) (dx_var 5))) da_nil)))
  (ds_one (d_set 4 sc.nd (dx_w fb (dx_ix (dx_w fb (dx_ix (dx_var 3) (dx_neg dx_int))) dx_int))))))))
  (ds_cons (d_if (dt_eq (by exact hr.units) (dx_w fb (dx_ix (dx_var 2) (dx_neg dx_int))) dx_str)
  (ds_one (d_ret (dx_tup (da_cons (dx_tupc (by rfl) m_tuple (dx_var 3)) (da_cons dx_int (da_cons dx_int da_nil))))))
  ds_nil)
  (ds_one (d_ret (dx_tup (da_cons dx_none (da_cons (dx_len (by rfl) m_len (dx_var 2)) (da_cons (dx_add dx_int (dx_call (k := 2) F__law_place takes_cx (by exact hr.mono (by decide)) (by rfl) M__law_place K__law_place B__law_place (da_cons (dx_w fb (dx_ix (dx_var 2) (dx_neg dx_int))) (da_cons (dx_var 4) (da_cons (dx_var 1) da_nil))))) da_nil)))))))))))
abbrev N__law_same_row : List Str := ["told", "row", "k"]
theorem sc__law_same_row : FnScope N__law_same_row ["told", "row"] (defScope s__law_same_row) := ⟨rfl, rfl, rfl, by decide +kernel, rfl, by decide +kernel, by decide +kernel⟩
def ts__law_same_row : TDs := (sSeq (sIf (tOrD (tNotD (tOf (eIsi isTupS (eV 0)))) (tB2 (opD neD) (e1 lenV (eV 0)) (e1 lenV (eV 1))))
  (sRet true (eC (.bool false)))
  sNil)
  (sSeq (sFor (iRng1D (e1 lenV (eV 1))) (gN 2)
  (sSeq (sIf (tOrD (tNotD (tOf (eIsi isTupS (eIx (eV 0) (eV 2))))) (tB2 (opD neD) (e1 lenV (eIx (eV 0) (eV 2))) (eC (.int 3))))
  (sRet true (eC (.bool false)))
  sNil)
  (sIf (tOrD (tNotD (tOf (eCall 1 C__law_is_int (aCons (eIx (eIx (eV 0) (eV 2)) (eC (.int 0))) aNil)))) (tOrD (tNotD (tOf (eIsi isStrS (eIx (eIx (eV 0) (eV 2)) (eC (.int 1)))))) (tNotD (tOf (eCall 1 C__law_is_int (aCons (eIx (eIx (eV 0) (eV 2)) (eC (.int 2))) aNil))))))
  (sRet true (eC (.bool false)))
  sNil)))
  (sRet true (eB (opD eqD) (eV 0) (eV 1)))))
def C__law_same_row : Ctr := fun args R _ => ∃ (xs : List Ev), args = [.d (.tuple (xs.map evD)), .d (.tuple (xs.map evD))] ∧ (∀ x ∈ xs, PyData.strOk (wordS x.2.1) = true) ∧ xs.length ≤ 5000 ∧ R (.d (.bool true))
theorem ad__law_same_row : AdOk C__law_same_row ts__law_same_row N__law_same_row 2 := by
  rintro args R RX hl ⟨xs, rfl, hx, hn, h⟩
  simp [ts__law_same_row, startD]
  refine ⟨by omega, forL_range (fun k δ => ∃ o, δ = [some (.d (.tuple (xs.map evD))), some (.d (.tuple (xs.map evD))), o]) 0 _ ?_ ?_ _ ⟨none, rfl⟩⟩
  · rintro k δ K hk hK ⟨o, rfl⟩
    have g : (xs.map evD)[k]? = some (evD xs[k]) := by rw [List.getElem?_map, List.getElem?_eq_getElem (by omega)]; rfl
    have ix1 : ∀ (a b c : PyData), atI [a, b, c] 1 = some b := fun a b c => by rw [show (1 : Int) = ((1 : Nat) : Int) from rfl, atI_at]; rfl
    have ix2 : ∀ (a b c : PyData), atI [a, b, c] 2 = some c := fun a b c => by rw [show (2 : Int) = ((2 : Nat) : Int) from rfl, atI_at]; rfl
    simp [atI_at, g, evD, ix1, ix2, isIntD]
    exact hK _ ⟨_, rfl⟩
  · rintro δ ⟨o, rfl⟩
    have sh : shp 2 (.tuple (xs.map evD)) := shp_tup (n := 1) fun y hy => by
      obtain ⟨x, hx', rfl⟩ := List.mem_map.mp hy
      refine shp_tup (n := 0) fun z hz => ?_
      simp at hz
      rcases hz with rfl | rfl | rfl
      · exact shp_int _ _
      · exact shp_str _ (hx x hx')
      · exact shp_int _ _
    simp [eqD_same sh (by omega)]
    exact h
theorem h__law_same_row (T : Tx K mg) : Has P w K mg base (LK K) "_law_same_row" 2 ["told", "row"] C__law_same_row := by
  obtain ⟨_, F__law_is_int, B__law_is_int, M__law_is_int, K__law_is_int⟩ := h__law_is_int (P := P) (w := w) (base := base) T
  have m_range : mg "range" = none := T.fr "range" (by decide)
  have m_len : mg "len" = none := T.fr "len" (by decide)
  have m_str : mg "str" = none := T.fr "str" (by decide)
  have m_isinstance : mg "isinstance" = none := T.fr "isinstance" (by decide)
  have m_tuple : mg "tuple" = none := T.fr "tuple" (by decide)
  obtain ⟨fd, FD⟩ := T.d__law_same_row
  refine ⟨fd, ?_, FD.bindsN fun _ _ _ _ _ _ us hl => match us, hl with | [_, _], _ => rfl, T.g__law_same_row, FD.kp⟩
  refine fn_ok (ts := ts__law_same_row) FD sc__law_same_row (fun cdv A outer s H E hr => ?_) ad__law_same_row
  have sc := sc__law_same_row
  exact (ds_cons (d_if (dt_w (dw_or (dt_not (dt_of (dx_isi kit_tup (by rfl) m_tuple (by decide +kernel) (by rfl) m_isinstance (by decide +kernel) (dx_var 0)))) (dw_or1 (dt_ne (by exact hr.units) (dx_len (by rfl) m_len (dx_var 0)) (dx_len (by rfl) m_len (dx_var 1))))))
  (ds_one (d_ret dx_bool))
  ds_nil)
  (ds_cons (d_for (by exact passes_of rfl) (by rfl) (di_range1 true (by rfl) m_range (dx_len (by rfl) m_len (dx_var 1))) (dg_name 2 sc.nd)
  (ds_cons (d_if (dt_w (dw_or (dt_not (dt_of (dx_isi kit_tup (by rfl) m_tuple (by decide +kernel) (by rfl) m_isinstance (by decide +kernel) (dx_w fb (dx_ix (dx_var 0) (dx_var 2)))))) (dw_or1 (dt_ne (by exact hr.units) (dx_len (by rfl) m_len (dx_w fb (dx_ix (dx_var 0) (dx_var 2)))) dx_int))))
  (ds_one (d_ret dx_bool))
  ds_nil)
  (ds_one (d_if (dt_w (dw_or (dt_not (dt_of (dx_call (k := 1) F__law_is_int takes_cx (by exact hr.mono (by decide)) (by rfl) M__law_is_int K__law_is_int B__law_is_int (da_cons (dx_w fb (dx_ix (dx_w fb (dx_ix (dx_var 0) (dx_var 2))) dx_int)) da_nil)))) (dw_or (dt_not (dt_of (dx_isi kit_str (by rfl) m_str (by decide +kernel) (by rfl) m_isinstance (by decide +kernel) (dx_w fb (dx_ix (dx_w fb (dx_ix (dx_var 0) (dx_var 2))) dx_int))))) (dw_or1 (dt_not (dt_of (dx_call (k := 1) F__law_is_int takes_cx (by exact hr.mono (by decide)) (by rfl) M__law_is_int K__law_is_int B__law_is_int (da_cons (dx_w fb (dx_ix (dx_w fb (dx_ix (dx_var 0) (dx_var 2))) dx_int)) da_nil))))))))
  (ds_one (d_ret dx_bool))
  ds_nil))))
  (ds_one (d_ret (dx_eq (by exact hr.units) (dx_var 0) (dx_var 1))))))
abbrev N__law_reads : List Str := ["text", "endings", "due", "told", "place", "e"]
theorem sc__law_reads : FnScope N__law_reads ["text", "endings"] (defScope s__law_reads) := ⟨rfl, rfl, rfl, by decide +kernel, rfl, by decide +kernel, by decide +kernel⟩
def ts__law_reads : TDs := (sSeq (sSet ff 2 (eCall 2 C__law_read (aCons (eV 0) (aCons (eV 1) aNil))))
  (sSeq (sSet ff 3 (eC .none))
  (sSeq (sSet ff 4 (eC .none))
  (sSeq (sTry KN (sSet ff 3 (eCall 1 C_read_log (aCons (eV 0) aNil)))
  [⟨cm_TrunkError, some 5, fun a c d => (sSeq (sIf (tOrD (tNotD (tOf (eXis a c d KN cm_BadLine 5))) (tNotD (tOf (eXis a c d KN cm_ValueError 5))))
  (sRet true (eC (.bool false)))
  sNil)
  (sSeq (sIf (tOrD (tNotD (tOf (eCallW 1 C__law_is_int (aCons (eXf a c d kf_line 5 "line") aNil)))) (tNotD (tOf (eCallW 1 C__law_is_int (aCons (eXf a c d kf_column 5 "column") aNil)))))
  (sRet true (eC (.bool false)))
  sNil)
  (sSet ff 4 (eTup (aCons (eN (eXf a c d kf_line 5 "line")) (aCons (eN (eXf a c d kf_column 5 "column")) aNil))))))⟩])
  (sSeq (sIf (tIsN (eIx (eV 2) (eC (.int 0))))
  (sRet true (eAnd (eNotN (eV 4)) (eB (opD eqD) (eV 4) (eTup (aCons (eN (eIx (eV 2) (eC (.int 1)))) (aCons (eN (eIx (eV 2) (eC (.int 2)))) aNil))))))
  sNil)
  (sRet true (eAnd (eIsN (eV 4)) (eCall 2 C__law_same_row (aCons (eV 3) (aCons (eIx (eV 2) (eC (.int 0))) aNil))))))))))
theorem rdLg_all (l : List Nat) : ∀ (f low a : Nat) (acc xs : List Ev) (z : Nat), low ≤ 400 → (∀ x ∈ acc, x.2.1 ∈ ew) → rdLg l f low a acc = (some xs, z) → (∀ x ∈ xs, x.2.1 ∈ ew) ∧ xs.length ≤ acc.length + f
  | 0, low, a, acc, xs, z, _, _, h => by simp [rdLg] at h
  | f + 1, low, a, acc, xs, z, h0, ha, h => by
    rw [rdLg] at h
    split at h
    · rcases rdL_spec h0 (l.drop a) with ⟨t, e, n, v, r', e1, _, _, e4⟩ | ⟨q, r', e1, _⟩
      · rw [e1] at h
        have he : e ∈ ew := by
          obtain ⟨_, _, u, hu, _⟩ := e4
          rcases hu with hu | hu
          · exact hu.1
          · exact (ew_num e hu.1).1
        have := rdLg_all l f t _ _ xs z e4.2.1 (fun x hx => by
          rcases List.mem_append.mp hx with hx | hx
          · exact ha x hx
          · simp at hx; subst hx; exact he) h
        refine ⟨this.1, ?_⟩
        have h2 := this.2
        simp at h2
        omega
      · rw [e1] at h; cases h
    · cases h
      exact ⟨ha, by omega⟩
theorem word_ok : ∀ e ∈ ew, PyData.strOk (wordS e) = true := by decide +kernel
theorem badLine_at {s : Str} {d q r : List Nat} (e0 : s.cps.toList = d ++ q ++ r) (hq : 10 ∉ q) (hd : d = [] ∨ d.getLast? = some 10) : badLine s (d ++ q).length = ⟨"BadLine", [("line", .int (((d.count 10 : Nat) : Int) + 1)), ("column", .int (1 + (q.length : Int)))]⟩ := by
  have ec : (cutT s (d ++ q).length).cps.toList = d ++ q := by
    unfold cutT
    rw [cutS_to, e0, List.take_left' rfl]
  have nl : (Str.ofString "\n") = chr1 10 := rfl
  unfold badLine
  rw [nl, count_one, rfind_split _ _ d q ec hq hd, ec, List.count_append, List.count_eq_zero_of_not_mem hq, Nat.add_zero]
  congr 4
  · congr 2
    simp
    omega
def C__law_reads : Ctr := fun args R _ => ∃ (s : Str), args = [.d (.str s), .d (.list (endS.map .str))] ∧ s.length ≤ 4000 ∧ R (.d (.bool true))
theorem ad__law_reads : AdOk C__law_reads ts__law_reads N__law_reads 2 := by
  rintro args R RX hl ⟨s, rfl, hs, h⟩
  have sb := sizeB
  have ls := slen s
  have main := log_spec (ev := evOf) (fun low t e n v hv _ => evOf_eq hv) s.cps.toList (s.cps.toList.length + 1) [] s.cps.toList 0 [] rfl (by omega) (by omega) (.inl rfl)
  simp only [List.length_nil, List.count_nil] at main
  rw [← ls] at main
  simp [ts__law_reads, startD]
  rcases main with ⟨xs, z, e1, e2⟩ | ⟨d, q, r, e0, hq, hd, e1, e2⟩
  · refine ⟨s, rfl, hs, ?_⟩
    rw [e2]
    simp
    refine ⟨s, rfl, by omega, ?_⟩
    have e1' : rdLg s.cps.toList (s.length + 1) 0 0 [] = (some xs, z) := e1
    have all := rdLg_all s.cps.toList (s.length + 1) 0 0 [] xs z (by omega) (by simp) e1
    rw [e1']
    simp
    refine ⟨xs, rfl, fun x hx => word_ok _ (all.1 x hx), ?_, h⟩
    have := all.2
    simp at this
    omega
  · refine ⟨s, rfl, hs, ?_⟩
    rw [e2]
    simp
    refine ⟨s, rfl, by omega, ?_⟩
    have e1' : rdLg s.cps.toList (s.length + 1) 0 0 [] = (none, (d ++ q).length) := e1
    rw [e1']
    simp only
    rw [badLine_at e0 hq hd]
    have lk : ∀ a b : PyData, List.lookup (Str.ofString "column") [(Str.ofString "line", a), (Str.ofString "column", b)] = some b := fun a b => by
      have n1 : (Str.ofString "column" == Str.ofString "line") = false := by decide +kernel
      simp [List.lookup, n1]
    have ix1 : ∀ (a b c : PyData), atI [a, b, c] 1 = some b := fun a b c => by rw [show (1 : Int) = ((1 : Nat) : Int) from rfl, atI_at]; rfl
    have ix2 : ∀ (a b c : PyData), atI [a, b, c] 2 = some c := fun a b c => by rw [show (2 : Int) = ((2 : Nat) : Int) from rfl, atI_at]; rfl
    have sh : ∀ a b : Int, shp 1 (.tuple [.int a, .int b]) := fun a b => shp_tup (n := 0) fun z hz => by
      simp at hz
      rcases hz with rfl | rfl <;> exact shp_int _ _
    simp [sCl, nolX, cm_TrunkError, cm_BadLine, cm_ValueError, lk, isIntD, someD, ix1, ix2, eqD_same (sh _ _) (show 1 ≤ 64 by omega)]
    exact h
theorem h__law_reads (T : Tx K mg) : Has P w K mg base (LK K) "_law_reads" 6 ["text", "endings"] C__law_reads := by
  obtain ⟨_, F__law_same_row, B__law_same_row, M__law_same_row, K__law_same_row⟩ := h__law_same_row (P := P) (w := w) (base := base) T
  obtain ⟨_, F_read_log, B_read_log, M_read_log, K_read_log⟩ := h_read_log (P := P) (w := w) (base := base) T
  obtain ⟨_, F__law_read, B__law_read, M__law_read, K__law_read⟩ := h__law_read (P := P) (w := w) (base := base) T
  have W__law_is_int := w__law_is_int (P := P) (w := w) (base := base) T
  have m_isinstance : mg "isinstance" = none := T.fr "isinstance" (by decide)
  have m_ValueError : mg "ValueError" = none := T.fr "ValueError" (by decide)
  obtain ⟨fd, FD⟩ := T.d__law_reads
  refine ⟨fd, ?_, FD.bindsN fun _ _ _ _ _ _ us hl => match us, hl with | [_, _], _ => rfl, T.g__law_reads, FD.kp⟩
  refine fn_ok (ts := ts__law_reads) FD sc__law_reads (fun cdv A outer s H E hr => ?_) ad__law_reads
  have sc := sc__law_reads
  exact (ds_cons (d_set 2 sc.nd (dx_call (k := 3) F__law_read takes_cx (by exact hr.mono (by decide)) (by rfl) M__law_read K__law_read B__law_read (da_cons (dx_var 0) (da_cons (dx_var 1) da_nil))))
  (ds_cons (d_set 3 sc.nd dx_none)
  (ds_cons (d_set 4 sc.nd dx_none)
  (ds_cons (d_try (kn := KN) (by rfl) (by rfl) sc.nd takes_cx (fun W pn xe tk po => (ds_one (d_set 3 sc.nd (dx_call (k := 5) F_read_log tk (by exact hr.mono (by decide)) (by rfl) M_read_log K_read_log B_read_log (da_cons (dx_var 0) da_nil)))))
  (HdD.as (i := 5) (m := cm_TrunkError) (t := fun a c d => (sSeq (sIf (tOrD (tNotD (tOf (eXis a c d KN cm_BadLine 5))) (tNotD (tOf (eXis a c d KN cm_ValueError 5))))
  (sRet true (eC (.bool false)))
  sNil)
  (sSeq (sIf (tOrD (tNotD (tOf (eCallW 1 C__law_is_int (aCons (eXf a c d kf_line 5 "line") aNil)))) (tNotD (tOf (eCallW 1 C__law_is_int (aCons (eXf a c d kf_column 5 "column") aNil)))))
  (sRet true (eC (.bool false)))
  sNil)
  (sSet ff 4 (eTup (aCons (eN (eXf a c d kf_line 5 "line")) (aCons (eN (eXf a c d kf_column 5 "column")) aNil))))))) ⟨by rfl, by decide, .inl T.g_TrunkError⟩ T.xm_TrunkError (by rfl) (by rfl) (fun a oe c d pn hz hf => (ds_cons (d_if (dt_w (dw_or (dt_not (dt_of (dx_xis (kn := KN) (m := cm_BadLine) (c := .ref (He.ga K "BadLine")) T.is_BadLine hz hf 5 (fun _ h => h) (pe_glob (by rfl) T.g_BadLine rfl (by decide)) (by rfl) m_isinstance (by decide +kernel)))) (dw_or1 (dt_not (dt_of (dx_xis (kn := KN) (m := cm_ValueError) (c := .ty "ValueError") T.is_ValueError hz hf 5 (fun _ h => h) (pe_bltn (v := .ty "ValueError") (by rfl) m_ValueError (by decide +kernel) rfl (by decide) (by decide)) (by rfl) m_isinstance (by decide +kernel)))))))
  (ds_one (d_ret dx_bool))
  ds_nil)
  (ds_cons (d_if (dt_w (dw_or (dt_not (dt_of (dx_callW (k := 1) W__law_is_int (roomM hr (by decide)) (by rfl) (da_cons (dx_w fb (dx_xf (kn := kf_line) T.f_line hz hf 5)) da_nil)))) (dw_or1 (dt_not (dt_of (dx_callW (k := 1) W__law_is_int (roomM hr (by decide)) (by rfl) (da_cons (dx_w fb (dx_xf (kn := kf_column) T.f_column hz hf 5)) da_nil)))))))
  (ds_one (d_ret dx_bool))
  ds_nil)
  (ds_one (d_set 4 sc.nd (dx_tup (da_cons (dx_n (dx_xf (kn := kf_line) T.f_line hz hf 5)) (da_cons (dx_n (dx_xf (kn := kf_column) T.f_column hz hf 5)) da_nil)))))))) HdD.nil))
  (ds_cons (d_if (dt_isNone (dx_w fb (dx_ix (dx_var 2) dx_int)))
  (ds_one (d_ret (dx_and (dx_notNone (dx_var 4)) (dx_one (dx_eq (by exact hr.units) (dx_var 4) (dx_tup (da_cons (dx_n (dx_w fb (dx_ix (dx_var 2) dx_int))) (da_cons (dx_n (dx_w fb (dx_ix (dx_var 2) dx_int))) da_nil))))))))
  ds_nil)
  (ds_one (d_ret (dx_and (dx_isNone (dx_var 4)) (dx_one (dx_call (k := 2) F__law_same_row takes_cx (by exact hr.mono (by decide)) (by rfl) M__law_same_row K__law_same_row B__law_same_row (da_cons (dx_var 3) (da_cons (dx_w fb (dx_ix (dx_var 2) dx_int)) da_nil))))))))))))
abbrev N__law_char : List Str := ["source", "chars"]
theorem sc__law_char : FnScope N__law_char ["source"] (defScope s__law_char) := ⟨rfl, rfl, rfl, by decide +kernel, rfl, by decide +kernel, by decide +kernel⟩
def ts__law_char : TDs := (sSeq (sSet ff 1 (eC (.str " !\"#$&'()*+,-./0123456789:;<=>?@ABCDEFGHIJKLMNOPQRSTUVWXYZ[\\]^_`")))
  (sSeq (sSet ff 1 (eB addV (eV 1) (eC (.str "abcdefghijklmnopqrstuvwxyz{|}~\n"))))
  (sSeq (sIf (tB2 (opD eqD) (eCall 2 C__law_take (aCons (eV 0) (aCons (eC (.int 2)) aNil))) (eC (.int 1)))
  (sSet ff 1 (eC (.str "0123456789 \n")))
  sNil)
  (sRet false (eIx (eV 1) (eCall 2 C__law_take (aCons (eV 0) (aCons (e1 lenV (eV 1)) aNil))))))))
def C__law_char : Ctr := fun args R _ => args = [.tok] ∧ ∀ c : Nat, R (.d (.str (chr1 c)))
theorem chars_len : (Str.ofString " !\"#$&'()*+,-./0123456789:;<=>?@ABCDEFGHIJKLMNOPQRSTUVWXYZ[\\]^_`").length + (Str.ofString "abcdefghijklmnopqrstuvwxyz{|}~\n").length = 95 := by decide +kernel
theorem chars_len2 : (Str.ofString "0123456789 \n").length = 12 := by decide +kernel
theorem ad__law_char : AdOk C__law_char ts__law_char N__law_char 1 := by
  rintro args R RX hl ⟨rfl, h⟩
  have sb := sizeB
  have l1 := chars_len
  have l2 := chars_len2
  have pick : ∀ (s : Str), s.length ≤ sizeLine → ∀ k : Nat, k < s.length → (s.length ≤ sizeLine ∧ (match atI s.cps.toList (k : Int) with | some z => R (SV.d (PyData.str { cps := #[z] })) | none => False)) := fun s hs k hk => by
    rw [atI_at, List.getElem?_eq_getElem (by rw [← slen]; exact hk)]
    exact ⟨hs, h _⟩
  simp only [ts__law_char, startD]
  simp
  refine ⟨by omega, fun k hk => ?_⟩
  split
  · exact ⟨by omega, by omega, by omega, fun k hk => pick _ (by omega) k hk⟩
  · have l3 := app_len (Str.ofString " !\"#$&'()*+,-./0123456789:;<=>?@ABCDEFGHIJKLMNOPQRSTUVWXYZ[\\]^_`") (Str.ofString "abcdefghijklmnopqrstuvwxyz{|}~\n")
    exact ⟨by omega, by omega, by omega, fun k hk => pick _ (by omega) k hk⟩
theorem h__law_char (T : Tx K mg) : Has P w K mg base (LK K) "_law_char" 2 ["source"] C__law_char := by
  obtain ⟨_, F__law_take, B__law_take, M__law_take, K__law_take⟩ := h__law_take (P := P) (w := w) (base := base) T
  have m_len : mg "len" = none := T.fr "len" (by decide)
  obtain ⟨fd, FD⟩ := T.d__law_char
  refine ⟨fd, ?_, FD.bindsN fun _ _ _ _ _ _ us hl => match us, hl with | [_], _ => rfl, T.g__law_char, FD.kp⟩
  refine fn_ok (ts := ts__law_char) FD sc__law_char (fun cdv A outer s H E hr => ?_) ad__law_char
  have sc := sc__law_char
  exact (ds_cons (d_set 1 sc.nd dx_str)
  (ds_cons (d_set 1 sc.nd (dx_add (dx_var 1) dx_str))
  (ds_cons (d_if (dt_eq (by exact hr.units) (dx_call (k := 1) F__law_take takes_cx (by exact hr.mono (by decide)) (by rfl) M__law_take K__law_take B__law_take (da_cons (dx_var 0) (da_cons (dx_w fb dx_int) da_nil))) dx_int)
  (ds_one (d_set 1 sc.nd dx_str))
  ds_nil)
  (ds_one (d_ret (dx_w fb (dx_ix (dx_var 1) (dx_call (k := 1) F__law_take takes_cx (by exact hr.mono (by decide)) (by rfl) M__law_take K__law_take B__law_take (da_cons (dx_var 0) (da_cons (dx_w fb (dx_len (by rfl) m_len (dx_var 1))) da_nil))))))))))
abbrev N__law_odd_text : List Str := ["k", "texts"]
theorem sc__law_odd_text : FnScope N__law_odd_text ["k"] (defScope s__law_odd_text) := ⟨rfl, rfl, rfl, by decide +kernel, rfl, by decide +kernel, by decide +kernel⟩
def ts__law_odd_text : TDs := (sSeq (sSet ff 1 (eLst (aCons (eC (.str "\n")) (aCons (eC (.str " ")) (aCons (eC (.str "0")) (aCons (eC (.str "00 crash\n")) (aCons (eC (.str "401 crash\n")) (aCons (eC (.str "400 crash\n")) (aCons (eC (.str "0  crash\n")) (aCons (eC (.str "0 give  up\n")) (aCons (eC (.str "0 crash \n")) aNil)))))))))))
  (sSeq (sSet ff 1 (eB addV (eV 1) (eLst (aCons (eC (.str "0 ask 40\n")) (aCons (eC (.str "0 ask 00\n")) (aCons (eC (.str "0 ask -1\n")) (aCons (eC (.str "0 crash -1\n")) (aCons (eC (.str "0 crash\n\n")) (aCons (eC (.str "0 giveup\n")) (aCons (eC (.str "1 ask")) aNil))))))))))
  (sSeq (sSet ff 1 (eB addV (eV 1) (eLst (aCons (eC (.str "5 ask 1\n5 do 1\n4 do 2\n")) (aCons (eC (.str "40 hear 3\n4 late 3\n")) (aCons (eC (.str "0 Ask 0\n")) (aCons (eC (.str "+1 crash\n")) (aCons (eC (.str "0 ask 39\n ")) aNil))))))))
  (sSeq (sSet ff 1 (eB addV (eV 1) (eLst (aCons (eC (.str "1 again 1\n1 agein 1\n")) (aCons (eC (.str "0 ask 3 9\n")) (aCons (eC (.str "0 ask\t1\n")) aNil))))))
  (sRet false (eIx (eV 1) (eV 0)))))))
def C__law_odd_text : Ctr := fun args R _ => ∃ k : Nat, args = [.d (.int k)] ∧ k < 24 ∧ ∀ s : Str, s.length ≤ 40 → R (.d (.str s))
theorem ad__law_odd_text : AdOk C__law_odd_text ts__law_odd_text N__law_odd_text 1 := by
  rintro args R RX hl ⟨k, rfl, hk, h⟩
  have sb := sizeB
  have pick : ∀ (l : List PyData), l.length = 24 → (∀ d ∈ l, ∃ s : Str, d = .str s ∧ s.length ≤ 40) → (match atI l (k : Int) with | some z => nolist z = true ∧ R (SV.d z) | none => False) := fun l hl hs => by
    rw [atI_at, List.getElem?_eq_getElem (by omega)]
    obtain ⟨s, e, h2⟩ := hs l[k] (List.getElem_mem _)
    simp only
    rw [e]
    exact ⟨rfl, h s h2⟩
  simp only [ts__law_odd_text, startD]
  simp
  refine ⟨by omega, by omega, by omega, pick _ rfl ?_⟩
  intro d hd
  simp only [List.mem_cons, List.not_mem_nil, or_false] at hd
  repeat' (first | (rcases hd with rfl | hd) | (subst hd))
  all_goals exact ⟨_, rfl, by decide +kernel⟩
theorem h__law_odd_text (T : Tx K mg) : Has P w K mg base (LK K) "_law_odd_text" 1 ["k"] C__law_odd_text := by
  obtain ⟨fd, FD⟩ := T.d__law_odd_text
  refine ⟨fd, ?_, FD.bindsN fun _ _ _ _ _ _ us hl => match us, hl with | [_], _ => rfl, T.g__law_odd_text, FD.kp⟩
  refine fn_ok (ts := ts__law_odd_text) FD sc__law_odd_text (fun cdv A outer s H E hr => ?_) ad__law_odd_text
  have sc := sc__law_odd_text
  exact (ds_cons (d_set 1 sc.nd (dx_lst (da_cons dx_str (da_cons dx_str (da_cons dx_str (da_cons dx_str (da_cons dx_str (da_cons dx_str (da_cons dx_str (da_cons dx_str (da_cons dx_str da_nil)))))))))))
  (ds_cons (d_set 1 sc.nd (dx_add (dx_var 1) (dx_lst (da_cons dx_str (da_cons dx_str (da_cons dx_str (da_cons dx_str (da_cons dx_str (da_cons dx_str (da_cons dx_str da_nil))))))))))
  (ds_cons (d_set 1 sc.nd (dx_add (dx_var 1) (dx_lst (da_cons dx_str (da_cons dx_str (da_cons dx_str (da_cons dx_str (da_cons dx_str da_nil))))))))
  (ds_cons (d_set 1 sc.nd (dx_add (dx_var 1) (dx_lst (da_cons dx_str (da_cons dx_str (da_cons dx_str da_nil))))))
  (ds_one (d_ret (dx_w fb (dx_ix (dx_var 1) (dx_var 0)))))))))
abbrev N__law_second_text : List Str := ["text", "other", "source", "kind", "at", "char", "lines", "line"]
theorem sc__law_second_text : FnScope N__law_second_text ["text", "other", "source"] (defScope s__law_second_text) := ⟨rfl, rfl, rfl, by decide +kernel, rfl, by decide +kernel, by decide +kernel⟩
def ts__law_second_text : TDs := (sSeq (sSet ff 3 (eCall 2 C__law_take (aCons (eV 2) (aCons (eC (.int 8)) aNil))))
  (sSeq (sSet ff 4 (eCall 2 C__law_take (aCons (eV 2) (aCons (eB addV (e1 lenV (eV 0)) (eC (.int 1))) aNil))))
  (sSeq (sSet ff 5 (eCall 1 C__law_char (aCons (eV 2) aNil)))
  (sSeq (sSet ff 6 (eSl (eSm splitV (eV 0) (eC (.str "\n"))) oNone (oSome (eNeg (eC (.int 1))))))
  (sSeq (sIf (tB2 (opD eqD) (eV 3) (eC (.int 0)))
  (sRet true (eB addV (eB addV (eSl (eV 0) oNone (oSome (eV 4))) (eV 5)) (eSl (eV 0) (oSome (eV 4)) oNone)))
  sNil)
  (sSeq (sIf (tB2 (opD eqD) (eV 3) (eC (.int 1)))
  (sRet true (eB addV (eSl (eV 0) oNone (oSome (eV 4))) (eSl (eV 0) (oSome (eB addV (eV 4) (eC (.int 1)))) oNone)))
  sNil)
  (sSeq (sIf (tOrD (tB2 (opD eqD) (eV 3) (eC (.int 2))) (tB2 (opD eqD) (eV 3) (eC (.int 3))))
  (sRet true (eB addV (eB addV (eSl (eV 0) oNone (oSome (eV 4))) (eV 5)) (eSl (eV 0) (oSome (eB addV (eV 4) (eC (.int 1)))) oNone)))
  sNil)
  (sSeq (sIf (tB2 (opD eqD) (eV 3) (eC (.int 4)))
  (sRet true (eSl (eV 0) oNone (oSome (eV 4))))
  sNil)
  (sSeq (sIf (tAndD (tB2 (opD eqD) (eV 3) (eC (.int 5))) (tB2 (opD (cmpI fun i j => decide (j < i))) (e1 lenV (eV 6)) (eC (.int 1))))
  (sSeq (sSet ff 4 (eCall 2 C__law_take (aCons (eV 2) (aCons (eB (opD subD) (e1 lenV (eV 6)) (eC (.int 1))) aNil))))
  (sSeq (sSet ff 6 (eB addV (eB addV (eSl (eV 6) oNone (oSome (eV 4))) (eLst (aCons (eN (eIx (eV 6) (eB addV (eV 4) (eC (.int 1))))) (aCons (eN (eIx (eV 6) (eV 4))) aNil)))) (eSl (eV 6) (oSome (eB addV (eV 4) (eC (.int 2)))) oNone)))
  (sRet true (eSm joinV (eC (.str "")) (lcD (iVarD 6) (gN 7) tYesD (eB addV (eV 7) (eC (.str "\n"))) [7])))))
  sNil)
  (sSeq (sIf (tB2 (opD eqD) (eV 3) (eC (.int 6)))
  (sRet true (eB addV (eV 0) (eV 1)))
  sNil)
  (sRet true (eCall 1 C__law_odd_text (aCons (eCall 2 C__law_take (aCons (eV 2) (aCons (eC (.int 24)) aNil))) aNil)))))))))))))
def C__law_second_text : Ctr := fun args R _ => ∃ s t : Str, args = [.d (.str s), .d (.str t), .tok] ∧ s.length ≤ 1000 ∧ t.length ≤ 1000 ∧ ∀ r : Str, r.length ≤ 4000 → R (.d (.str r))
theorem mem_le_sum {x : Nat} : ∀ {l : List Nat}, x ∈ l → x ≤ l.sum
  | a :: r, h => by
    rcases List.mem_cons.mp h with rfl | h
    · simp
    · have := mem_le_sum h; simp; omega
theorem spl_sum {c : Nat} : ∀ {l : List Nat}, (((spl c l).map fun p => p.length + 1).sum) = l.length + 1
  | [] => by simp [spl]
  | a :: r => by
    have ih := spl_sum (c := c) (l := r)
    rw [spl]
    split
    · simp [ih]; omega
    · obtain ⟨q, qs, e⟩ := spl_ne c r
      rw [e] at ih ⊢
      simp at ih ⊢; omega
theorem front_sum : ∀ (l : List (List Nat)), ((l.dropLast.map fun p => p.length + 1).sum) ≤ (l.map fun p => p.length + 1).sum
  | [] => by simp
  | [x] => by simp
  | x :: y :: r => by
    have := front_sum (y :: r)
    simp only [List.dropLast_cons₂, List.map_cons, List.sum_cons] at this ⊢
    omega
theorem ad__law_second_text : AdOk C__law_second_text ts__law_second_text N__law_second_text 3 := by
  rintro args R RX hl ⟨s, t, rfl, hs, ht, h⟩
  have sb := sizeB
  have ss : s.length ≤ sizeLine := by omega
  have nl : (Str.ofString "\n") = chr1 10 := rfl
  have nl1 : (chr1 10).length = 1 := rfl
  have hto : ∀ a : Nat, (cutS s none (some (a : Int))).length ≤ 1000 := fun a => by rw [slen, cutS_to, List.length_take, ← slen]; omega
  have hfr : ∀ a : Nat, (cutS s (some (a : Int)) none).length ≤ 1000 := fun a => by rw [slen, cutS_from, List.length_drop, ← slen]; omega
  have c1 : ∀ c : Nat, (chr1 c).length = 1 := fun c => rfl
  have ev1 : ∀ k : Nat, (k : Int) + 1 = ((k + 1 : Nat) : Int) := fun k => by omega
  have ev2 : ∀ k : Nat, (k : Int) + 2 = ((k + 2 : Nat) : Int) := fun k => by omega
  simp [ts__law_second_text, startD, nl]
  intro k hk
  refine ⟨ss, by omega, by omega, fun k1 hk1 => ⟨rfl, fun c => ?_⟩⟩
  have a1 := hto k1
  have a2 := hfr k1
  have a3 : (cutS s (some ((k1 : Int) + 1)) none).length ≤ 1000 := by rw [ev1]; exact hfr _
  simp [ss, nl1, split_one s (show 10 < 256 by omega), strs_nol2, cutL_front, app_len, c1]
  refine ⟨by omega, ?_⟩
  split
  · exact ⟨by omega, by omega, h _ (by simp [app_len, c1]; omega)⟩
  split
  · exact ⟨by omega, h _ (by simp [app_len, c1]; omega)⟩
  split
  · exact ⟨by omega, by omega, h _ (by simp [app_len, c1]; omega)⟩
  split
  · exact ⟨by omega, by omega, h _ (by simp [app_len, c1]; omega)⟩
  split
  · exact h _ (by omega)
  split
  · have hP := front_sum (spl 10 s.cps.toList)
    rw [spl_sum, ← slen] at hP
    rw [← List.map_dropLast]
    have hPn := spl_num (c := 10) (l := s.cps.toList)
    rw [← slen] at hPn
    have hPl : (spl 10 s.cps.toList).length - 1 = (spl 10 s.cps.toList).dropLast.length := by simp
    have hPm : (spl 10 s.cps.toList).dropLast.length ≤ 1001 := by rw [← hPl]; omega
    rw [hPl]
    generalize (spl 10 s.cps.toList).dropLast = P at hP hPm
    split
    · refine ⟨by omega, by omega, fun j hj => ⟨strs_nol2 P, ?_⟩⟩
      have j1 : j + 1 < P.length := by omega
      rw [ev1, atI_at, atI_at, List.getElem?_map, List.getElem?_map, List.getElem?_eq_getElem j1, List.getElem?_eq_getElem (by omega : j < P.length), ev2, cutL_to, cutL_from, ← List.map_take, ← List.map_drop]
      simp only [Option.map_some, Function.comp]
      have eP : P = P.take j ++ P[j] :: P[j + 1] :: P.drop (j + 2) := by
        rw [← List.drop_eq_getElem_cons j1, ← List.drop_eq_getElem_cons (by omega : j < P.length), List.take_append_drop]
      generalize P.take j = A at eP ⊢
      generalize P.drop (j + 2) = B at eP ⊢
      generalize P[j] = x at eP ⊢
      generalize P[j + 1] = y at eP ⊢
      have eM : A.map (PyData.str ∘ S) ++ PyData.str (S y) :: PyData.str (S x) :: B.map (PyData.str ∘ S) = (A ++ y :: x :: B).map (PyData.str ∘ S) := by simp
      have hP' : ((A ++ y :: x :: B).map fun p => p.length + 1).sum ≤ s.length + 1 := by
        rw [eP] at hP
        simp at hP ⊢
        omega
      have hPm' : (A ++ y :: x :: B).length ≤ 1001 := by
        rw [eP] at hPm
        simpa using hPm
      rw [eM, if_pos (strs_nol2 _)]
      have ln : A.length + B.length ≤ 1001 := by simp at hPm'; omega
      refine ⟨rfl, rfl, strs_nol2 _, ⟨rfl, rfl⟩, by rw [List.length_map]; omega, strs_nol2 P, ?_, strs_nol2 _, by rw [List.length_map, List.length_map]; omega, ?_⟩
      · have : A.map (PyData.str ∘ S) ++ [PyData.str (S y), PyData.str (S x)] = (A ++ [y, x]).map (PyData.str ∘ S) := by simp
        rw [this]; exact strs_nol2 _
      · generalize (A ++ y :: x :: B) = M at hP' hPm' ⊢
        clear hP hPm eP eM ln
        have each : ∀ p ∈ M, p.length ≤ 1001 := fun p hp => by
          have : p.length + 1 ∈ M.map fun p => p.length + 1 := List.mem_map.mpr ⟨p, hp, rfl⟩
          have := mem_le_sum this
          omega
        simp [lcD, ownSeq]
        refine ⟨by omega, lcL_map (fun d => match d with | .str e => .str (e ++ chr1 10) | d => d) _ _ _ (fun d hd k1 k0 hk => ?_) ?_⟩
        · obtain ⟨p, hp, rfl⟩ := List.mem_map.mp hd
          have := each p hp
          have := S_len p
          simp [wipeD, c1]
          exact ⟨by omega, hk⟩
        · have em : (M.map (PyData.str ∘ S)).map (fun d => match d with | .str e => PyData.str (e ++ chr1 10) | d => d) = (M.map fun p => S p ++ chr1 10).map .str := by
            rw [List.map_map, List.map_map]
            rfl
          rw [List.nil_append, em]
          have e0 : ((Str.ofString "")).length = 0 := rfl
          have eS : ((M.map fun p => S p ++ chr1 10).map fun x => x.length).sum = (M.map fun p => p.length + 1).sum := by
            rw [List.map_map]
            congr 1
            apply List.map_congr_left
            intro p _
            show (S p ++ chr1 10).length = _
            rw [app_len, S_len]; rfl
          refine ⟨_, strsD_map _, ?_, h _ ?_⟩
          · rw [e0, eS]; omega
          · rw [slen, join_nil, List.length_flatten, List.map_map]
            have : (List.map (List.length ∘ fun s : Str => s.cps.toList) (M.map fun p => S p ++ chr1 10)) = ((M.map fun p => S p ++ chr1 10).map fun x => x.length) := by
              apply List.map_congr_left
              intro p _
              rfl
            rw [this, eS]
            omega
    split
    · omega
    · refine fun k2 hk2 => ⟨k2, rfl, by omega, fun r hr => ?_⟩
      exact h _ (by omega)
  split
  · exact ⟨by omega, h _ (by rw [app_len]; omega)⟩
  · refine fun k2 hk2 => ⟨k2, rfl, by omega, fun r hr => ?_⟩
    exact h _ (by omega)
theorem h__law_second_text (T : Tx K mg) : Has P w K mg base (LK K) "_law_second_text" 3 ["text", "other", "source"] C__law_second_text := by
  obtain ⟨_, F__law_odd_text, B__law_odd_text, M__law_odd_text, K__law_odd_text⟩ := h__law_odd_text (P := P) (w := w) (base := base) T
  obtain ⟨_, F__law_take, B__law_take, M__law_take, K__law_take⟩ := h__law_take (P := P) (w := w) (base := base) T
  obtain ⟨_, F__law_char, B__law_char, M__law_char, K__law_char⟩ := h__law_char (P := P) (w := w) (base := base) T
  have m_len : mg "len" = none := T.fr "len" (by decide)
  obtain ⟨fd, FD⟩ := T.d__law_second_text
  refine ⟨fd, ?_, FD.bindsN fun _ _ _ _ _ _ us hl => match us, hl with | [_, _, _], _ => rfl, T.g__law_second_text, FD.kp⟩
  refine fn_ok (ts := ts__law_second_text) FD sc__law_second_text (fun cdv A outer s H E hr => ?_) ad__law_second_text
  have sc := sc__law_second_text
  exact (ds_cons (d_set 3 sc.nd (dx_call (k := 1) F__law_take takes_cx (by exact hr.mono (by decide)) (by rfl) M__law_take K__law_take B__law_take (da_cons (dx_var 2) (da_cons (dx_w fb dx_int) da_nil))))
  (ds_cons (d_set 4 sc.nd (dx_call (k := 1) F__law_take takes_cx (by exact hr.mono (by decide)) (by rfl) M__law_take K__law_take B__law_take (da_cons (dx_var 2) (da_cons (dx_w fb (dx_add (dx_len (by rfl) m_len (dx_var 0)) dx_int)) da_nil))))
  (ds_cons (d_set 5 sc.nd (dx_call (k := 2) F__law_char takes_cx (by exact hr.mono (by decide)) (by rfl) M__law_char K__law_char B__law_char (da_cons (dx_var 2) da_nil)))
  (ds_cons (d_set 6 sc.nd (dx_slice (dx_split (dx_var 0) dx_str) do_none (do_some (dx_neg dx_int))))
  (ds_cons (d_if (dt_eq (by exact hr.units) (dx_var 3) dx_int)
  (ds_one (d_ret (dx_add (dx_add (dx_slice (dx_var 0) do_none (do_some (dx_var 4))) (dx_var 5)) (dx_slice (dx_var 0) (do_some (dx_var 4)) do_none))))
  ds_nil)
  (ds_cons (d_if (dt_eq (by exact hr.units) (dx_var 3) dx_int)
  (ds_one (d_ret (dx_add (dx_slice (dx_var 0) do_none (do_some (dx_var 4))) (dx_slice (dx_var 0) (do_some (dx_add (dx_var 4) dx_int)) do_none))))
  ds_nil)
  (ds_cons (d_if (dt_w (dw_or (dt_eq (by exact hr.units) (dx_var 3) dx_int) (dw_or1 (dt_eq (by exact hr.units) (dx_var 3) dx_int))))
  (ds_one (d_ret (dx_add (dx_add (dx_slice (dx_var 0) do_none (do_some (dx_var 4))) (dx_var 5)) (dx_slice (dx_var 0) (do_some (dx_add (dx_var 4) dx_int)) do_none))))
  ds_nil)
  (ds_cons (d_if (dt_eq (by exact hr.units) (dx_var 3) dx_int)
  (ds_one (d_ret (dx_slice (dx_var 0) do_none (do_some (dx_var 4)))))
  ds_nil)
  (ds_cons (d_if (dt_w (dw_and (dt_eq (by exact hr.units) (dx_var 3) dx_int) (dw_and1 (dt_gt (dx_len (by rfl) m_len (dx_var 6)) dx_int))))
  (ds_cons (d_set 4 sc.nd (dx_call (k := 1) F__law_take takes_cx (by exact hr.mono (by decide)) (by rfl) M__law_take K__law_take B__law_take (da_cons (dx_var 2) (da_cons (dx_w fb (dx_sub (dx_len (by rfl) m_len (dx_var 6)) dx_int)) da_nil))))
  (ds_cons (d_set 6 sc.nd (dx_add (dx_add (dx_slice (dx_var 6) do_none (do_some (dx_var 4))) (dx_lst (da_cons (dx_n (dx_w fb (dx_ix (dx_var 6) (dx_add (dx_var 4) dx_int)))) (da_cons (dx_n (dx_w fb (dx_ix (dx_var 6) (dx_var 4)))) da_nil)))) (dx_slice (dx_var 6) (do_some (dx_add (dx_var 4) dx_int)) do_none)))
  (ds_one (d_ret (dx_join dx_str (dx_lc (own := [("line", 7)]) sc.nd (di_var 6) (blkOk_by (own := [("line", 7)]) (N := N__law_second_text) (sc := defScope s__law_second_text) (by decide +kernel)) (fun _ _ _ _ _ => (dg_name 7 sc.nd)) (fun _ _ _ _ _ => dts_nil) (fun _ _ _ _ _ => (dx_add (dx_var 7) dx_str))))))))
  ds_nil)
  (ds_cons (d_if (dt_eq (by exact hr.units) (dx_var 3) dx_int)
  (ds_one (d_ret (dx_add (dx_var 0) (dx_var 1))))
  ds_nil)
  (ds_one (d_ret (dx_call (k := 1) F__law_odd_text takes_cx (by exact hr.mono (by decide)) (by rfl) M__law_odd_text K__law_odd_text B__law_odd_text (da_cons (dx_w fb (dx_call (k := 1) F__law_take takes_cx (by exact hr.mono (by decide)) (by rfl) M__law_take K__law_take B__law_take (da_cons (dx_var 2) (da_cons (dx_w fb dx_int) da_nil)))) da_nil))))))))))))))
abbrev N__law_odd_thing : List Str := ["source", "things", "kind"]
theorem sc__law_odd_thing : FnScope N__law_odd_thing ["source"] (defScope s__law_odd_thing) := ⟨rfl, rfl, rfl, by decide +kernel, rfl, by decide +kernel, by decide +kernel⟩
def ts__law_odd_thing : TDs := (sSeq (sSet ff 1 (eLst (aCons (eC .none) (aCons (eTup aNil) (aCons (eC (.int 7)) (aCons (eC (.str "ask")) (aCons (eTup (aCons (eC (.int 0)) (aCons (eC (.str "ask")) aNil))) (aCons (eTup (aCons (eC (.int 0)) (aCons (eC (.str "ask")) (aCons (eC (.int 0)) (aCons (eC (.int 0)) aNil))))) (aCons (eTup (aCons (eC (.bool true)) (aCons (eC (.str "ask")) (aCons (eC (.int 0)) aNil)))) (aCons (eTup (aCons (eC (.int 0)) (aCons (eC (.str "ask")) (aCons (eC (.bool true)) aNil)))) (aCons (eTup (aCons (eC (.int 0)) (aCons (eC (.str "ask")) (aCons (eNeg (eC (.int 1))) aNil)))) aNil)))))))))))
  (sSeq (sSet ff 1 (eB addV (eV 1) (eLst (aCons (eTup (aCons (eC (.int 0)) (aCons (eC (.str "ask")) (aCons (eC (.int 40)) aNil)))) (aCons (eTup (aCons (eC (.int 0)) (aCons (eC (.str "crash")) (aCons (eC (.int 0)) aNil)))) (aCons (eTup (aCons (eC (.int 0)) (aCons (eC (.str "give up")) (aCons (eC (.int 0)) aNil)))) (aCons (eTup (aCons (eC (.int 401)) (aCons (eC (.str "late")) (aCons (eC (.int 0)) aNil)))) (aCons (eTup (aCons (eNeg (eC (.int 1))) (aCons (eC (.str "late")) (aCons (eC (.int 0)) aNil)))) aNil))))))))
  (sSeq (sSet ff 1 (eB addV (eV 1) (eLst (aCons (eTup (aCons (eC (.int 0)) (aCons (eC (.str "giveup")) (aCons (eNeg (eC (.int 1))) aNil)))) (aCons (eTup (aCons (eC (.int 0)) (aCons (eC .none) (aCons (eC (.int 0)) aNil)))) (aCons (eTup (aCons (eC (.str "0")) (aCons (eC (.str "ask")) (aCons (eC (.int 0)) aNil)))) (aCons (eTup (aCons (eC (.int 0)) (aCons (eC (.str "do")) (aCons (eC (.str "1")) aNil)))) (aCons (eTup (aCons (eC (.int 0)) (aCons (eC (.str "crash")) (aCons (eC .none) aNil)))) aNil))))))))
  (sSeq (sSet ff 2 (eCall 2 C__law_take (aCons (eV 0) (aCons (eC (.int 24)) aNil))))
  (sSeq (sIf (tB2 (opD (cmpI fun i j => decide (i < j))) (eV 2) (eC (.int 19)))
  (sRet false (eIx (eV 1) (eV 2)))
  sNil)
  (sRet true (eCall 3 C__law_event (aCons (eV 0) (aCons (eC (.int 0)) (aCons (eC (.int 400)) aNil))))))))))
def C__law_odd_thing : Ctr := fun args R _ => args = [.tok] ∧ ∀ x : PyData, nolist x = true → R (.d x)
theorem ad__law_odd_thing : AdOk C__law_odd_thing ts__law_odd_thing N__law_odd_thing 1 := by
  rintro args R RX hl ⟨rfl, h⟩
  have sb := sizeB
  have pick : ∀ (l : List PyData) (k : Nat), k < l.length → (∀ d ∈ l, nolist d = true) → (match atI l (k : Int) with | some z => nolist z = true ∧ R (SV.d z) | none => False) := fun l k hl hs => by
    rw [atI_at, List.getElem?_eq_getElem hl]
    exact ⟨hs _ (List.getElem_mem _), h _ (hs _ (List.getElem_mem _))⟩
  simp only [ts__law_odd_thing, startD]
  simp
  refine ⟨by omega, by omega, fun k hk => ?_⟩
  split
  · refine pick _ _ (by simp; omega) ?_
    intro d hd
    simp only [List.mem_cons, List.not_mem_nil, or_false] at hd
    repeat' (first | (rcases hd with rfl | hd) | (subst hd))
    all_goals rfl
  · exact at__law_event (by omega) (by omega) (by omega) fun x ex _ _ => h x (isEv_nol ex)
theorem h__law_odd_thing (T : Tx K mg) : Has P w K mg base (LK K) "_law_odd_thing" 3 ["source"] C__law_odd_thing := by
  obtain ⟨_, F__law_event, B__law_event, M__law_event, K__law_event⟩ := h__law_event (P := P) (w := w) (base := base) T
  obtain ⟨_, F__law_take, B__law_take, M__law_take, K__law_take⟩ := h__law_take (P := P) (w := w) (base := base) T
  obtain ⟨fd, FD⟩ := T.d__law_odd_thing
  refine ⟨fd, ?_, FD.bindsN fun _ _ _ _ _ _ us hl => match us, hl with | [_], _ => rfl, T.g__law_odd_thing, FD.kp⟩
  refine fn_ok (ts := ts__law_odd_thing) FD sc__law_odd_thing (fun cdv A outer s H E hr => ?_) ad__law_odd_thing
  have sc := sc__law_odd_thing
  exact (ds_cons (d_set 1 sc.nd (dx_lst (da_cons dx_none (da_cons (dx_tup da_nil) (da_cons dx_int (da_cons dx_str (da_cons (dx_tup (da_cons dx_int (da_cons dx_str da_nil))) (da_cons (dx_tup (da_cons dx_int (da_cons dx_str (da_cons dx_int (da_cons dx_int da_nil))))) (da_cons (dx_tup (da_cons dx_bool (da_cons dx_str (da_cons dx_int da_nil)))) (da_cons (dx_tup (da_cons dx_int (da_cons dx_str (da_cons dx_bool da_nil)))) (da_cons (dx_tup (da_cons dx_int (da_cons dx_str (da_cons (dx_neg dx_int) da_nil)))) da_nil)))))))))))
  (ds_cons (d_set 1 sc.nd (dx_add (dx_var 1) (dx_lst (da_cons (dx_tup (da_cons dx_int (da_cons dx_str (da_cons dx_int da_nil)))) (da_cons (dx_tup (da_cons dx_int (da_cons dx_str (da_cons dx_int da_nil)))) (da_cons (dx_tup (da_cons dx_int (da_cons dx_str (da_cons dx_int da_nil)))) (da_cons (dx_tup (da_cons dx_int (da_cons dx_str (da_cons dx_int da_nil)))) (da_cons (dx_tup (da_cons (dx_neg dx_int) (da_cons dx_str (da_cons dx_int da_nil)))) da_nil))))))))
  (ds_cons (d_set 1 sc.nd (dx_add (dx_var 1) (dx_lst (da_cons (dx_tup (da_cons dx_int (da_cons dx_str (da_cons (dx_neg dx_int) da_nil)))) (da_cons (dx_tup (da_cons dx_int (da_cons dx_none (da_cons dx_int da_nil)))) (da_cons (dx_tup (da_cons dx_str (da_cons dx_str (da_cons dx_int da_nil)))) (da_cons (dx_tup (da_cons dx_int (da_cons dx_str (da_cons dx_str da_nil)))) (da_cons (dx_tup (da_cons dx_int (da_cons dx_str (da_cons dx_none da_nil)))) da_nil))))))))
  (ds_cons (d_set 2 sc.nd (dx_call (k := 1) F__law_take takes_cx (by exact hr.mono (by decide)) (by rfl) M__law_take K__law_take B__law_take (da_cons (dx_var 0) (da_cons (dx_w fb dx_int) da_nil))))
  (ds_cons (d_if (dt_lt (dx_var 2) dx_int)
  (ds_one (d_ret (dx_w fb (dx_ix (dx_var 1) (dx_var 2)))))
  ds_nil)
  (ds_one (d_ret (dx_call (k := 2) F__law_event takes_cx (by exact hr.mono (by decide)) (by rfl) M__law_event K__law_event B__law_event (da_cons (dx_var 0) (da_cons (dx_w fb dx_int) (da_cons (dx_w fb dx_int) da_nil)))))))))))
abbrev N__law_is_event : List Str := ["thing"]
theorem sc__law_is_event : FnScope N__law_is_event ["thing"] (defScope s__law_is_event) := ⟨rfl, rfl, rfl, by decide +kernel, rfl, by decide +kernel, by decide +kernel⟩
def ts__law_is_event : TDs := (sSeq (sIf (tOrD (tNotD (tOf (eIsi isTupS (eV 0)))) (tB2 (opD neD) (e1 lenV (eV 0)) (eC (.int 3))))
  (sRet true (eC (.bool false)))
  sNil)
  (sSeq (sIf (tOrD (tNotD (tOf (eCall 1 C__law_is_int (aCons (eIx (eV 0) (eC (.int 0))) aNil)))) (tOrD (tNotD (tOf (eIsi isStrS (eIx (eV 0) (eC (.int 1)))))) (tNotD (tOf (eCall 1 C__law_is_int (aCons (eIx (eV 0) (eC (.int 2))) aNil))))))
  (sRet true (eC (.bool false)))
  sNil)
  (sSeq (sIf (tOrD (tB2 (opD (cmpI fun i j => decide (i < j))) (eIx (eV 0) (eC (.int 0))) (eC (.int 0))) (tB2 (opD (cmpI fun i j => decide (j < i))) (eIx (eV 0) (eC (.int 0))) (eC (.int 400))))
  (sRet true (eC (.bool false)))
  sNil)
  (sSeq (sIf (tB2 (opD (inD false)) (eIx (eV 0) (eC (.int 1))) (eLst (aCons (eC (.str "crash")) (aCons (eC (.str "give up")) aNil))))
  (sRet true (eB (opD eqD) (eIx (eV 0) (eC (.int 2))) (eNeg (eC (.int 1)))))
  sNil)
  (sRet true (eAnd (eB (opD (inD false)) (eIx (eV 0) (eC (.int 1))) (eCall 0 C__law_numbered aNil)) (eAnd (eB (opD (cmpI fun i j => decide (i ≤ j))) (eC (.int 0)) (eIx (eV 0) (eC (.int 2)))) (eB (opD (cmpI fun i j => decide (i ≤ j))) (eIx (eV 0) (eC (.int 2))) (eC (.int 39))))))))))
def C__law_is_event : Ctr := fun args R _ => ∃ x, args = [.d x] ∧ nolist x = true ∧ R (.d (.bool (isEv x)))
@[simp] theorem at__law_is_event (x : PyData) (R : SV → Prop) (RX : Exn → Prop) : C__law_is_event [.d x] R RX ↔ (nolist x = true ∧ R (.d (.bool (isEv x)))) := ⟨fun ⟨_, e, h⟩ => by cases e; exact h, fun h => ⟨_, rfl, h⟩⟩
theorem ix31 (a b c : PyData) : atI [a, b, c] 1 = some b := by rw [show (1 : Int) = ((1 : Nat) : Int) from rfl, atI_at]; rfl
theorem ix32 (a b c : PyData) : atI [a, b, c] 2 = some c := by rw [show (2 : Int) = ((2 : Nat) : Int) from rfl, atI_at]; rfl
theorem ad__law_is_event : AdOk C__law_is_event ts__law_is_event N__law_is_event 1 := by
  rintro args R RX hl ⟨x, rfl, h1, h2⟩
  have pl : plainW.map PyData.str = [.str "crash", .str "give up"] := rfl
  have other : ∀ xs : List PyData, xs.length ≠ 3 → isEv (.tuple xs) = false := fun xs h => by
    rcases xs with _ | ⟨t, _ | ⟨w, _ | ⟨n, _ | ⟨_, _⟩⟩⟩⟩ <;> first | rfl | (simp at h; done) | (cases w <;> rfl)
  cases x with
  | tuple xs =>
    by_cases h3 : xs.length = 3
    · obtain ⟨t, w, n, rfl⟩ : ∃ t w n, xs = [t, w, n] := by
        rcases xs with _ | ⟨t, _ | ⟨w, _ | ⟨n, _ | ⟨_, _⟩⟩⟩⟩ <;> simp at h3
        exact ⟨t, w, n, rfl⟩
      simp at h1
      obtain ⟨ht, hw, hn⟩ := h1
      have ot := okD_nol ht
      have ow := okD_nol hw
      have on := okD_nol hn
      cases t with
      | int t =>
        cases w with
        | str w =>
          cases n with
          | int n =>
            simp [ts__law_is_event, startD, isIntD, ix31, ix32, pl.symm, inD_strsL, hn]
            simp [isEv, inRD] at h2
            by_cases c1 : t < 0
            · have : ¬ 0 ≤ t := by omega
              simp [c1, this] at h2 ⊢
              exact h2
            · have e1 : 0 ≤ t := by omega
              by_cases c2 : 400 < t
              · have : ¬ t ≤ 400 := by omega
                simp [c1, c2, this] at h2 ⊢
                exact h2
              · have e2 : t ≤ 400 := by omega
                by_cases hp : w ∈ plainW
                · have e3 : (decide (-1 ≤ n) && decide (n ≤ -1)) = decide (n = -1) := by
                    rw [Bool.eq_iff_iff]; simp; omega
                  simp [c1, c2, e1, e2, hp, e3] at h2 ⊢
                  exact ⟨by decide, h2⟩
                · by_cases hm : w ∈ numW
                  · simp [c1, c2, e1, e2, hp, hm] at h2 ⊢
                    by_cases c3 : 0 ≤ n
                    · simp [c3] at h2 ⊢
                      exact ⟨by decide, h2⟩
                    · simp [c3] at h2 ⊢
                      exact ⟨by decide, h2⟩
                  · simp [c1, c2, e1, e2, hp, hm] at h2 ⊢
                    exact ⟨by decide, h2⟩
          | _ =>
            simp [ts__law_is_event, startD, isIntD, ix31, ix32, on]
            have e : ∀ z, isEv (.tuple [.int t, .str w, z]) = false ∨ ∃ i, z = .int i := fun z => by
              cases z <;> first | exact .inr ⟨_, rfl⟩ | (left; simp [isEv, inRD])
            rcases e _ with e | ⟨i, e⟩
            · rw [e] at h2
              first | exact h2 | exact ⟨hn, h2⟩ | simpa using h2
            · cases e
        | _ =>
          simp [ts__law_is_event, startD, isIntD, ix31, ix32, ow, isStrD]
          simp [isEv] at h2
          first | exact h2 | exact ⟨hw, h2⟩ | simpa using h2
      | _ =>
        simp [ts__law_is_event, startD, isIntD, ot]
        have e : ∀ z, (∀ i, z ≠ PyData.int i) → isEv (.tuple [z, w, n]) = false := fun z hz => by
          unfold isEv
          split
          · rename_i t' w' n' e
            simp only [PyData.tuple.injEq, List.cons.injEq] at e
            obtain ⟨rfl, _⟩ := e
            cases z <;> simp [inRD] at hz ⊢
          · rfl
        rw [e _ (by intro i; simp)] at h2
        first | exact h2 | exact ⟨ht, h2⟩ | simpa using h2
    · rw [other xs h3] at h2
      have e : ¬ ((xs.length : Int) = 3) := by omega
      simpa [ts__law_is_event, startD, e] using h2
  | _ => first
    | (simp [nolist] at h1; done)
    | (simp [ts__law_is_event, startD, isTupD, isEv] at h2 ⊢; exact h2)
theorem h__law_is_event (T : Tx K mg) : Has P w K mg base (LK K) "_law_is_event" 2 ["thing"] C__law_is_event := by
  obtain ⟨_, F__law_numbered, B__law_numbered, M__law_numbered, K__law_numbered⟩ := h__law_numbered (P := P) (w := w) (base := base) T
  obtain ⟨_, F__law_is_int, B__law_is_int, M__law_is_int, K__law_is_int⟩ := h__law_is_int (P := P) (w := w) (base := base) T
  have m_str : mg "str" = none := T.fr "str" (by decide)
  have m_isinstance : mg "isinstance" = none := T.fr "isinstance" (by decide)
  have m_tuple : mg "tuple" = none := T.fr "tuple" (by decide)
  have m_len : mg "len" = none := T.fr "len" (by decide)
  obtain ⟨fd, FD⟩ := T.d__law_is_event
  refine ⟨fd, ?_, FD.bindsN fun _ _ _ _ _ _ us hl => match us, hl with | [_], _ => rfl, T.g__law_is_event, FD.kp⟩
  refine fn_ok (ts := ts__law_is_event) FD sc__law_is_event (fun cdv A outer s H E hr => ?_) ad__law_is_event
  have sc := sc__law_is_event
  exact (ds_cons (d_if (dt_w (dw_or (dt_not (dt_of (dx_isi kit_tup (by rfl) m_tuple (by decide +kernel) (by rfl) m_isinstance (by decide +kernel) (dx_var 0)))) (dw_or1 (dt_ne (by exact hr.units) (dx_len (by rfl) m_len (dx_var 0)) dx_int))))
  (ds_one (d_ret dx_bool))
  ds_nil)
  (ds_cons (d_if (dt_w (dw_or (dt_not (dt_of (dx_call (k := 1) F__law_is_int takes_cx (by exact hr.mono (by decide)) (by rfl) M__law_is_int K__law_is_int B__law_is_int (da_cons (dx_w fb (dx_ix (dx_var 0) dx_int)) da_nil)))) (dw_or (dt_not (dt_of (dx_isi kit_str (by rfl) m_str (by decide +kernel) (by rfl) m_isinstance (by decide +kernel) (dx_w fb (dx_ix (dx_var 0) dx_int))))) (dw_or1 (dt_not (dt_of (dx_call (k := 1) F__law_is_int takes_cx (by exact hr.mono (by decide)) (by rfl) M__law_is_int K__law_is_int B__law_is_int (da_cons (dx_w fb (dx_ix (dx_var 0) dx_int)) da_nil))))))))
  (ds_one (d_ret dx_bool))
  ds_nil)
  (ds_cons (d_if (dt_w (dw_or (dt_lt (dx_w fb (dx_ix (dx_var 0) dx_int)) dx_int) (dw_or1 (dt_gt (dx_w fb (dx_ix (dx_var 0) dx_int)) dx_int))))
  (ds_one (d_ret dx_bool))
  ds_nil)
  (ds_cons (d_if (dt_in (by exact Room.u65 hr) (dx_w fb (dx_ix (dx_var 0) dx_int)) (dx_lst (da_cons dx_str (da_cons dx_str da_nil))))
  (ds_one (d_ret (dx_eq (by exact hr.units) (dx_w fb (dx_ix (dx_var 0) dx_int)) (dx_neg dx_int))))
  ds_nil)
  (ds_one (d_ret (dx_and (dx_in (by exact Room.u65 hr) (dx_w fb (dx_ix (dx_var 0) dx_int)) (dx_call0 (k := 1) F__law_numbered takes_cx (by exact hr.mono (by decide)) (by rfl) M__law_numbered K__law_numbered B__law_numbered)) (dx_and (dx_le dx_int (dx_w fb (dx_ix (dx_var 0) dx_int))) (dx_one (dx_le (dx_w fb (dx_ix (dx_var 0) dx_int)) dx_int))))))))))
abbrev N__law_first_bad : List Str := ["row", "low", "k"]
theorem sc__law_first_bad : FnScope N__law_first_bad ["row"] (defScope s__law_first_bad) := ⟨rfl, rfl, rfl, by decide +kernel, rfl, by decide +kernel, by decide +kernel⟩
def ts__law_first_bad : TDs := (sSeq (sSet ff 1 (eC (.int 0)))
  (sSeq (sFor (iRng1D (e1 lenV (eV 0))) (gN 2)
  (sSeq (sIf (tOrD (tNotD (tOf (eCall 1 C__law_is_event (aCons (eIx (eV 0) (eV 2)) aNil)))) (tB2 (opD (cmpI fun i j => decide (i < j))) (eIx (eIx (eV 0) (eV 2)) (eC (.int 0))) (eV 1)))
  (sRet false (eV 2))
  sNil)
  (sSet fb 1 (eIx (eIx (eV 0) (eV 2)) (eC (.int 0))))))
  (sRet true (eC .none))))
def badD (o : Option Nat) : PyData := match o with
  | none => .none
  | some k => .int (k : Nat)
def C__law_first_bad : Ctr := fun args R _ => ∃ xs, args = [.d (.tuple xs)] ∧ nolistA xs = true ∧ xs.length ≤ 1000 ∧ R (.d (badD (scanL 0 0 xs)))
@[simp] theorem at__law_first_bad (xs : List PyData) (R : SV → Prop) (RX : Exn → Prop) : C__law_first_bad [.d (.tuple xs)] R RX ↔ (nolistA xs = true ∧ xs.length ≤ 1000 ∧ R (.d (badD (scanL 0 0 xs)))) := ⟨fun ⟨_, e, h⟩ => by cases e; exact h, fun h => ⟨_, rfl, h⟩⟩
theorem ad__law_first_bad : AdOk C__law_first_bad ts__law_first_bad N__law_first_bad 1 := by
  rintro args R RX hl ⟨xs, rfl, h1, h0, h2⟩
  simp [ts__law_first_bad, startD]
  refine ⟨by omega, forL_range (fun k δ => ∃ (low : Int) (o : Option SV), δ = [some (.d (.tuple xs)), some (.d (.int low)), o] ∧ scanL low k (xs.drop k) = scanL 0 0 xs) 0 _ ?_ ?_ _ ⟨0, none, rfl, rfl⟩⟩
  · rintro k δ K hk hK ⟨low, o, rfl, hs⟩
    have g : xs[k]? = some xs[k] := List.getElem?_eq_getElem hk
    have nx := nolA_mem h1 xs[k] (List.getElem_mem _)
    rw [List.drop_eq_getElem_cons hk, scanL] at hs
    generalize xs[k] = x at g nx hs
    simp [atI_at, g, nx]
    cases he : isEv x with
    | false =>
      simp [he] at hs ⊢
      rw [← hs] at h2
      exact h2
    | true =>
      obtain ⟨i, w, n, rfl, _, _⟩ := isEv_out he
      simp [he, tickD] at hs ⊢
      by_cases hlt : i < low
      · have : ¬ low ≤ i := by omega
        simp [this] at hs
        simp [hlt]
        rw [← hs] at h2
        exact h2
      · have : low ≤ i := by omega
        simp [this] at hs
        simp [hlt]
        exact hK _ ⟨i, _, rfl, hs⟩
  · rintro δ ⟨low, o, rfl, hs⟩
    rw [List.drop_length, scanL] at hs
    rw [← hs] at h2
    simp
    exact h2
theorem h__law_first_bad (T : Tx K mg) : Has P w K mg base (LK K) "_law_first_bad" 3 ["row"] C__law_first_bad := by
  obtain ⟨_, F__law_is_event, B__law_is_event, M__law_is_event, K__law_is_event⟩ := h__law_is_event (P := P) (w := w) (base := base) T
  have m_range : mg "range" = none := T.fr "range" (by decide)
  have m_len : mg "len" = none := T.fr "len" (by decide)
  obtain ⟨fd, FD⟩ := T.d__law_first_bad
  refine ⟨fd, ?_, FD.bindsN fun _ _ _ _ _ _ us hl => match us, hl with | [_], _ => rfl, T.g__law_first_bad, FD.kp⟩
  refine fn_ok (ts := ts__law_first_bad) FD sc__law_first_bad (fun cdv A outer s H E hr => ?_) ad__law_first_bad
  have sc := sc__law_first_bad
  exact (ds_cons (d_set 1 sc.nd dx_int)
  (ds_cons (d_for (by exact passes_of rfl) (by rfl) (di_range1 true (by rfl) m_range (dx_len (by rfl) m_len (dx_var 0))) (dg_name 2 sc.nd)
  (ds_cons (d_if (dt_w (dw_or (dt_not (dt_of (dx_call (k := 2) F__law_is_event takes_cx (by exact hr.mono (by decide)) (by rfl) M__law_is_event K__law_is_event B__law_is_event (da_cons (dx_w fb (dx_ix (dx_var 0) (dx_var 2))) da_nil)))) (dw_or1 (dt_lt (dx_w fb (dx_ix (dx_w fb (dx_ix (dx_var 0) (dx_var 2))) dx_int)) (dx_var 1)))))
  (ds_one (d_ret (dx_var 2)))
  ds_nil)
  (ds_one (d_set 1 sc.nd (dx_w fb (dx_ix (dx_w fb (dx_ix (dx_var 0) (dx_var 2))) dx_int))))))
  (ds_one (d_ret dx_none))))
abbrev N__law_is_book : List Str := ["book", "row", "asked", "heard", "k", "due", "event", "tick"]
theorem sc__law_is_book : FnScope N__law_is_book ["book", "row", "asked", "heard"] (defScope s__law_is_book) := ⟨rfl, rfl, rfl, by decide +kernel, rfl, by decide +kernel, by decide +kernel⟩
def ts__law_is_book : TDs := (sSeq (sIf (tOrD (tNotD (tOf (eIsi isTupS (eV 0)))) (tB2 (opD neD) (e1 lenV (eV 0)) (eC (.int 2))))
  (sRet true (eC (.bool false)))
  sNil)
  (sSeq (sFor (iRng1D (eC (.int 2))) (gN 4)
  (sSeq (sSet ff 5 (lcD (iVarD 1) (gN 6) (tB2 (opD (inD false)) (eIx (eV 6) (eC (.int 1))) (eIx (eLst (aCons (eV 2) (aCons (eV 3) aNil))) (eV 4))) (eN (eIx (eV 6) (eC (.int 0)))) [6]))
  (sSeq (sIf (tOrD (tNotD (tOf (eIsi isTupS (eIx (eV 0) (eV 4))))) (tB2 (opD neD) (e1 (un1 lstD) (eIx (eV 0) (eV 4))) (eV 5)))
  (sRet true (eC (.bool false)))
  sNil)
  (sIf (tB2 (opD (cmpI fun i j => decide (j < i))) (e1 lenV (lcD (iSeqD fb (eIx (eV 0) (eV 4))) (gN 7) (tNotD (tOf (eCall 1 C__law_is_int (aCons (eV 7) aNil)))) (eN (eV 7)) [7])) (eC (.int 0)))
  (sRet true (eC (.bool false)))
  sNil))))
  (sRet true (eC (.bool true)))))
def C__law_is_book : Ctr := fun args R _ => ∃ (a h : List Str) (xs : List PyData), args = [.d (bookD a h xs), .d (.tuple xs), .d (.list (a.map .str)), .d (.list (h.map .str))] ∧ (∀ x ∈ xs, isEv x = true) ∧ xs.length ≤ 1000 ∧ R (.d (.bool true))
theorem ad__law_is_book : AdOk C__law_is_book ts__law_is_book N__law_is_book 4 := by
  rintro args R RX hl ⟨a, h, xs, rfl, ev, h0, hr⟩
  simp [ts__law_is_book, startD, bookD]
  refine forL_range (fun k δ => ∃ o4 o5 o6 o7, δ = [some (.d (bookD a h xs)), some (.d (.tuple xs)), some (.d (.list (a.map .str))), some (.d (.list (h.map .str))), o4, o5, o6, o7]) 0 2 ?_ ?_ _ ⟨none, none, none, none, rfl⟩
  · rintro k δ K hk hK ⟨o4, o5, o6, o7, rfl⟩
    have fin : ∀ W : List Str, nolistA (ticksW W xs) = true ∧ (∀ R : SV → Prop, neD (.list (ticksW W xs)) (.list (ticksW W xs)) R = R (.d (.bool false))) ∧ (ticksW W xs).length ≤ 1000 := fun W => by
      refine ⟨ticksW_nol W xs, fun R => neD_same (shp_lst (n := 0) fun z hz => ?_) (by omega) R, ?_⟩
      · obtain ⟨i, rfl⟩ := ticksW_int W xs z hz
        exact shp_int _ _
      · have : (ticksW W xs).length ≤ xs.length := List.length_filterMap_le _ _
        omega
    obtain rfl | rfl : k = 0 ∨ k = 1 := by omega
    · obtain ⟨f1, f2, f3⟩ := fin a
      simp [bookD, lcD, ownSeq]
      refine ⟨by omega, lcL_ok (fun x => match x with
        | .tuple [.int i, .str w, _] => if w ∈ a then some (.int i) else none
        | _ => none) _ _ _ (fun d hd k1 k0 hk => ?_) ?_⟩
      · obtain ⟨i, w, n, rfl, _, _⟩ := isEv_out (ev d hd)
        simp [wipeD, ix31, inD_strsL]
        by_cases hw : w ∈ a
        · simpa [hw] using hk
        · simpa [hw] using hk
      · have e0 : ([] ++ xs.filterMap (fun x => match x with
          | .tuple [.int i, .str w, _] => if w ∈ a then some (PyData.int i) else none
          | _ => none)) = ticksW a xs := rfl
        rw [e0]
        simp [f1, lstD, f2, seqV]
        refine ⟨by omega, lcL_ok (fun _ => none) _ _ _ (fun d hd k1 k0 hk => ?_) ?_⟩
        · obtain ⟨i, rfl⟩ := ticksW_int a xs d hd
          simp [wipeD, isIntD]
          simpa using hk
        · simp
          exact hK _ ⟨_, _, _, _, rfl⟩
    · obtain ⟨f1, f2, f3⟩ := fin h
      have at1 : ∀ x y : PyData, atI [x, y] 1 = some y := fun x y => by rw [show (1 : Int) = ((1 : Nat) : Int) from rfl, atI_at]; rfl
      simp [bookD, lcD, ownSeq, at1]
      refine ⟨by omega, lcL_ok (fun x => match x with
        | .tuple [.int i, .str w, _] => if w ∈ h then some (.int i) else none
        | _ => none) _ _ _ (fun d hd k1 k0 hk => ?_) ?_⟩
      · obtain ⟨i, w, n, rfl, _, _⟩ := isEv_out (ev d hd)
        simp [wipeD, ix31, inD_strsL, at1]
        by_cases hw : w ∈ h
        · simpa [hw] using hk
        · simpa [hw] using hk
      · have e0 : ([] ++ xs.filterMap (fun x => match x with
          | .tuple [.int i, .str w, _] => if w ∈ h then some (PyData.int i) else none
          | _ => none)) = ticksW h xs := rfl
        rw [e0]
        simp [f1, lstD, f2, seqV]
        refine ⟨by omega, lcL_ok (fun _ => none) _ _ _ (fun d hd k1 k0 hk => ?_) ?_⟩
        · obtain ⟨i, rfl⟩ := ticksW_int h xs d hd
          simp [wipeD, isIntD]
          simpa using hk
        · simp
          exact hK _ ⟨_, _, _, _, rfl⟩
  · rintro δ ⟨o4, o5, o6, o7, rfl⟩
    simp
    exact hr
theorem h__law_is_book (T : Tx K mg) : Has P w K mg base (LK K) "_law_is_book" 2 ["book", "row", "asked", "heard"] C__law_is_book := by
  obtain ⟨_, F__law_is_int, B__law_is_int, M__law_is_int, K__law_is_int⟩ := h__law_is_int (P := P) (w := w) (base := base) T
  have m_range : mg "range" = none := T.fr "range" (by decide)
  have m_len : mg "len" = none := T.fr "len" (by decide)
  have m_tuple : mg "tuple" = none := T.fr "tuple" (by decide)
  have m_isinstance : mg "isinstance" = none := T.fr "isinstance" (by decide)
  have m_list : mg "list" = none := T.fr "list" (by decide)
  obtain ⟨fd, FD⟩ := T.d__law_is_book
  refine ⟨fd, ?_, FD.bindsN fun _ _ _ _ _ _ us hl => match us, hl with | [_, _, _, _], _ => rfl, T.g__law_is_book, FD.kp⟩
  refine fn_ok (ts := ts__law_is_book) FD sc__law_is_book (fun cdv A outer s H E hr => ?_) ad__law_is_book
  have sc := sc__law_is_book
  exact (ds_cons (d_if (dt_w (dw_or (dt_not (dt_of (dx_isi kit_tup (by rfl) m_tuple (by decide +kernel) (by rfl) m_isinstance (by decide +kernel) (dx_var 0)))) (dw_or1 (dt_ne (by exact hr.units) (dx_len (by rfl) m_len (dx_var 0)) dx_int))))
  (ds_one (d_ret dx_bool))
  ds_nil)
  (ds_cons (d_for (by exact passes_of rfl) (by rfl) (di_range1 true (by rfl) m_range dx_int) (dg_name 4 sc.nd)
  (ds_cons (d_setLc (own := [("event", 6)]) 5 sc.nd (di_var 1) (blkOk_by (own := [("event", 6)]) (N := N__law_is_book) (sc := defScope s__law_is_book) (by decide +kernel)) (fun _ _ _ _ _ => (dg_name 6 sc.nd)) (fun _ _ _ _ _ => (dts_one (dt_in (by exact Room.u65 hr) (dx_w fb (dx_ix (dx_var 6) dx_int)) (dx_w fb (dx_ix (dx_lstB (da_cons (dx_var 2) (da_cons (dx_var 3) da_nil))) (dx_var 4)))))) (fun _ _ _ _ _ => (dx_n (dx_w fb (dx_ix (dx_var 6) dx_int)))) (by exact sw_true rfl rfl rfl (by decide +kernel)))
  (ds_cons (d_if (dt_w (dw_or (dt_not (dt_of (dx_isi kit_tup (by rfl) m_tuple (by decide +kernel) (by rfl) m_isinstance (by decide +kernel) (dx_w fb (dx_ix (dx_var 0) (dx_var 4)))))) (dw_or1 (dt_ne (by exact hr.units) (dx_lstc (by rfl) m_list (dx_w fb (dx_ix (dx_var 0) (dx_var 4)))) (dx_var 5)))))
  (ds_one (d_ret dx_bool))
  ds_nil)
  (ds_one (d_if (dt_gt (dx_len (by rfl) m_len (dx_lc (own := [("tick", 7)]) sc.nd (di_seq (fl := fb) false (dx_w fb (dx_ix (dx_var 0) (dx_var 4)))) (blkOk_by (own := [("tick", 7)]) (N := N__law_is_book) (sc := defScope s__law_is_book) (by decide +kernel)) (fun _ _ _ _ _ => (dg_name 7 sc.nd)) (fun _ _ _ _ _ => (dts_one (dt_not (dt_of (dx_call (k := 1) F__law_is_int takes0 (by exact hr.mono (by decide)) (by rfl) M__law_is_int K__law_is_int B__law_is_int (da_cons (dx_var 7) da_nil)))))) (fun _ _ _ _ _ => (dx_n (dx_var 7))))) dx_int)
  (ds_one (d_ret dx_bool))
  ds_nil)))))
  (ds_one (d_ret dx_bool))))
abbrev N__law_are_books : List Str := ["row"]
theorem sc__law_are_books : FnScope N__law_are_books ["row"] (defScope s__law_are_books) := ⟨rfl, rfl, rfl, by decide +kernel, rfl, by decide +kernel, by decide +kernel⟩
def ts__law_are_books : TDs := (sSeq (sIf (tNotD (tOf (eCall 4 C__law_is_book (aCons (eCall 1 C_caller_book (aCons (eV 0) aNil)) (aCons (eV 0) (aCons (eLst (aCons (eC (.str "ask")) aNil)) (aCons (eLst (aCons (eC (.str "hear")) (aCons (eC (.str "late")) aNil))) aNil)))))))
  (sRet true (eC (.bool false)))
  sNil)
  (sRet true (eCall 4 C__law_is_book (aCons (eCall 1 C_server_book (aCons (eV 0) aNil)) (aCons (eV 0) (aCons (eLst (aCons (eC (.str "arrive")) aNil)) (aCons (eLst (aCons (eC (.str "do")) (aCons (eC (.str "again")) aNil))) aNil)))))))
def C__law_are_books : Ctr := fun args R _ => ∃ xs, args = [.d (.tuple xs)] ∧ scanL 0 0 xs = none ∧ xs.length ≤ 1000 ∧ R (.d (.bool true))
theorem at__law_is_book {a h : List Str} {xs : List PyData} {y y1 y2 : PyData} {R : SV → Prop} {RX : Exn → Prop} (e : y = bookD a h xs) (e1 : y1 = .list (a.map .str)) (e2 : y2 = .list (h.map .str)) (h1 : ∀ x ∈ xs, isEv x = true) (h2 : xs.length ≤ 1000) (hr : R (.d (.bool true))) : C__law_is_book [.d y, .d (.tuple xs), .d y1, .d y2] R RX := ⟨a, h, xs, by rw [e, e1, e2], h1, h2, hr⟩
theorem ad__law_are_books : AdOk C__law_are_books ts__law_are_books N__law_are_books 1 := by
  rintro args R RX hl ⟨xs, rfl, hs, h0, h⟩
  have ev := scan_none hs
  have nl := nolA_of (xs := xs) fun x hx => isEv_nol (ev x hx)
  simp [ts__law_are_books, startD]
  refine ⟨xs, rfl, nl, h0, ?_⟩
  rw [hs]
  simp
  refine at__law_is_book (a := ["ask"]) (h := ["hear", "late"]) rfl rfl rfl ev h0 ?_
  simp
  refine ⟨xs, rfl, nl, h0, ?_⟩
  rw [hs]
  simp
  exact at__law_is_book (a := ["arrive"]) (h := ["do", "again"]) rfl rfl rfl ev h0 h
theorem h__law_are_books (T : Tx K mg) : Has P w K mg base (LK K) "_law_are_books" 6 ["row"] C__law_are_books := by
  obtain ⟨_, F__law_is_book, B__law_is_book, M__law_is_book, K__law_is_book⟩ := h__law_is_book (P := P) (w := w) (base := base) T
  obtain ⟨_, F_server_book, B_server_book, M_server_book, K_server_book⟩ := h_server_book (P := P) (w := w) (base := base) T
  obtain ⟨_, F_caller_book, B_caller_book, M_caller_book, K_caller_book⟩ := h_caller_book (P := P) (w := w) (base := base) T
  obtain ⟨fd, FD⟩ := T.d__law_are_books
  refine ⟨fd, ?_, FD.bindsN fun _ _ _ _ _ _ us hl => match us, hl with | [_], _ => rfl, T.g__law_are_books, FD.kp⟩
  refine fn_ok (ts := ts__law_are_books) FD sc__law_are_books (fun cdv A outer s H E hr => ?_) ad__law_are_books
  have sc := sc__law_are_books
  exact (ds_cons (d_if (dt_not (dt_of (dx_call (k := 2) F__law_is_book takes_cx (by exact hr.mono (by decide)) (by rfl) M__law_is_book K__law_is_book B__law_is_book (da_cons (dx_w fb (dx_call (k := 5) F_caller_book takes_cx (by exact hr.mono (by decide)) (by rfl) M_caller_book K_caller_book B_caller_book (da_cons (dx_var 0) da_nil))) (da_cons (dx_var 0) (da_cons (dx_w fb (dx_lst (da_cons dx_str da_nil))) (da_cons (dx_w fb (dx_lst (da_cons dx_str (da_cons dx_str da_nil)))) da_nil)))))))
  (ds_one (d_ret dx_bool))
  ds_nil)
  (ds_one (d_ret (dx_call (k := 2) F__law_is_book takes_cx (by exact hr.mono (by decide)) (by rfl) M__law_is_book K__law_is_book B__law_is_book (da_cons (dx_w fb (dx_call (k := 5) F_server_book takes_cx (by exact hr.mono (by decide)) (by rfl) M_server_book K_server_book B_server_book (da_cons (dx_var 0) da_nil))) (da_cons (dx_var 0) (da_cons (dx_w fb (dx_lst (da_cons dx_str da_nil))) (da_cons (dx_w fb (dx_lst (da_cons dx_str (da_cons dx_str da_nil)))) da_nil))))))))
abbrev N__law_checks : List Str := ["row", "thing", "judged", "due", "k", "told", "e"]
theorem sc__law_checks : FnScope N__law_checks ["row"] (defScope s__law_checks) := ⟨rfl, rfl, rfl, by decide +kernel, rfl, by decide +kernel, by decide +kernel⟩
def ts__law_checks : TDs := (sSeq (sFor (iSeqD fs (eVD 0)) (gN 1)
  (sSeq (sSet ff 2 (eCall 1 C_is_event (aCons (eV 1) aNil)))
  (sIf (tOrD (tNotD (tOf (eIsi isBoolS (eV 2)))) (tB2 (opD neD) (eV 2) (eCall 1 C__law_is_event (aCons (eV 1) aNil))))
  (sRet true (eC (.bool false)))
  sNil)))
  (sSeq (sSet ff 3 (eCall 1 C__law_first_bad (aCons (eV 0) aNil)))
  (sSeq (sFor (iRng1D (eC (.int 4))) (gN 4)
  (sSeq (sSet ff 5 (eC .none))
  (sSeq (sTry KN (sSeq (sIf (tB2 (opD eqD) (eV 4) (eC (.int 0)))
  (sExpr (eCall 1 C_check_log (aCons (eV 0) aNil)))
  sNil)
  (sSeq (sIf (tB2 (opD eqD) (eV 4) (eC (.int 1)))
  (sExpr (eCall 1 C_write_log (aCons (eV 0) aNil)))
  sNil)
  (sSeq (sIf (tB2 (opD eqD) (eV 4) (eC (.int 2)))
  (sExpr (eCall 1 C_caller_book (aCons (eV 0) aNil)))
  sNil)
  (sIf (tB2 (opD eqD) (eV 4) (eC (.int 3)))
  (sExpr (eCall 1 C_server_book (aCons (eV 0) aNil)))
  sNil))))
  [⟨cm_TrunkError, some 6, fun a c d => (sSeq (sIf (tOrD (tNotD (tOf (eXis a c d KN cm_BadBook 6))) (tOrD (tNotD (tOf (eXis a c d KN cm_ValueError 6))) (tNotD (tOf (eCallW 1 C__law_is_int (aCons (eXf a c d kf_part 6 "part") aNil))))))
  (sRet true (eC (.bool false)))
  sNil)
  (sSet fs 5 (eXf a c d kf_part 6 "part")))⟩])
  (sIf (tB2 (opD neD) (eV 5) (eV 3))
  (sRet true (eC (.bool false)))
  sNil))))
  (sRet true (eOr (eNotN (eV 3)) (eCall 1 C__law_are_books (aCons (eV 0) aNil)))))))
def C__law_checks : Ctr := fun args R _ => ∃ xs, args = [.d (.tuple xs)] ∧ nolistA xs = true ∧ xs.length ≤ 1000 ∧ R (.d (.bool true))
theorem at__law_checks {xs : List PyData} {R : SV → Prop} {RX : Exn → Prop} (h1 : nolistA xs = true) (h2 : xs.length ≤ 1000) (h : R (.d (.bool true))) : C__law_checks [.d (.tuple xs)] R RX := ⟨xs, rfl, h1, h2, h⟩
theorem at_write_log (xs : List PyData) (R : SV → Prop) (RX : Exn → Prop) : C_write_log [.d (.tuple xs)] R RX ↔ (nolistA xs = true ∧ xs.length ≤ 1000 ∧ (match scanL 0 0 xs with | none => R (.d (.str (logText xs))) | some k => RX (badBook k))) := ⟨fun ⟨_, e, h⟩ => by cases e; exact h, fun h => ⟨_, rfl, h⟩⟩
theorem at_caller_book (xs : List PyData) (R : SV → Prop) (RX : Exn → Prop) : C_caller_book [.d (.tuple xs)] R RX ↔ (nolistA xs = true ∧ xs.length ≤ 1000 ∧ (match scanL 0 0 xs with | none => R (.d (bookD ["ask"] ["hear", "late"] xs)) | some k => RX (badBook k))) := ⟨fun ⟨_, e, h⟩ => by cases e; exact h, fun h => ⟨_, rfl, h⟩⟩
theorem at_server_book (xs : List PyData) (R : SV → Prop) (RX : Exn → Prop) : C_server_book [.d (.tuple xs)] R RX ↔ (nolistA xs = true ∧ xs.length ≤ 1000 ∧ (match scanL 0 0 xs with | none => R (.d (bookD ["arrive"] ["do", "again"] xs)) | some k => RX (badBook k))) := ⟨fun ⟨_, e, h⟩ => by cases e; exact h, fun h => ⟨_, rfl, h⟩⟩
theorem ad__law_checks : AdOk C__law_checks ts__law_checks N__law_checks 1 := by
  rintro args R RX hl ⟨xs, rfl, nl, h0, h⟩
  simp [ts__law_checks, startD, seqV]
  refine forL_list xs (fun i δ => ∃ o1 o2, δ = [some (.d (.tuple xs)), o1, o2, none, none, none, none]) ?_ ?_ _ ⟨none, none, rfl⟩
  · rintro i d δ K hd hK ⟨o1, o2, rfl⟩
    have nd := nolA_mem nl d (List.mem_of_getElem? hd)
    simp [nd, isBoolS]
    exact hK _ ⟨_, _, rfl⟩
  · rintro δ ⟨o1, o2, rfl⟩
    simp [nl, h0]
    refine forL_range (fun i δ => ∃ o4 o5 o6, δ = [some (.d (.tuple xs)), o1, o2, some (.d (badD (scanL 0 0 xs))), o4, o5, o6]) 0 4 ?_ ?_ _ ⟨none, none, none, rfl⟩
    · rintro k δ K hk hK ⟨o4, o5, o6, rfl⟩
      cases hs : scanL 0 0 xs with
      | none =>
        rw [hs] at hK
        obtain rfl | rfl | rfl | rfl : k = 0 ∨ k = 1 ∨ k = 2 ∨ k = 3 := by omega
        · simp [nl, h0, hs, badD]
          exact hK _ ⟨_, _, _, rfl⟩
        · simp [nl, h0, hs, badD, at_write_log]
          exact hK _ ⟨_, _, _, rfl⟩
        · simp [nl, h0, hs, badD, at_caller_book]
          exact hK _ ⟨_, _, _, rfl⟩
        · simp [nl, h0, hs, badD, at_server_book]
          exact hK _ ⟨_, _, _, rfl⟩
      | some b =>
        rw [hs] at hK
        have nx : ∀ z, K [some (SV.d (PyData.tuple xs)), o1, o2, some (SV.d (PyData.int (b : Nat))), some (SV.d (PyData.int z)), some (SV.d (PyData.int (b : Nat))), none] := fun z => hK _ ⟨_, _, _, rfl⟩
        have kn : Str.ofString "BadBook" ∈ KN := by decide +kernel
        obtain rfl | rfl | rfl | rfl : k = 0 ∨ k = 1 ∨ k = 2 ∨ k = 3 := by omega
        · simp [nl, h0, hs, badD, badBook, sCl, nolX, cm_TrunkError, cm_BadBook, cm_ValueError, isIntD, someD, List.lookup]
          exact nx _
        · simp [nl, h0, hs, badD, at_write_log, badBook, sCl, nolX, cm_TrunkError, cm_BadBook, cm_ValueError, isIntD, someD, List.lookup]
          exact nx _
        · simp [nl, h0, hs, badD, at_caller_book, badBook, sCl, nolX, cm_TrunkError, cm_BadBook, cm_ValueError, isIntD, someD, List.lookup]
          exact nx _
        · simp [nl, h0, hs, badD, at_server_book, badBook, sCl, nolX, cm_TrunkError, cm_BadBook, cm_ValueError, isIntD, someD, List.lookup]
          exact nx _
    · rintro δ ⟨o4, o5, o6, rfl⟩
      simp
      cases hs : scanL 0 0 xs with
      | none =>
        simp [badD, isNoneV]
        exact ⟨xs, rfl, hs, h0, h⟩
      | some b =>
        simp [badD, isNoneV]
        exact h
theorem h__law_checks (T : Tx K mg) : Has P w K mg base (LK K) "_law_checks" 7 ["row"] C__law_checks := by
  obtain ⟨_, F__law_are_books, B__law_are_books, M__law_are_books, K__law_are_books⟩ := h__law_are_books (P := P) (w := w) (base := base) T
  obtain ⟨_, F_server_book, B_server_book, M_server_book, K_server_book⟩ := h_server_book (P := P) (w := w) (base := base) T
  obtain ⟨_, F_caller_book, B_caller_book, M_caller_book, K_caller_book⟩ := h_caller_book (P := P) (w := w) (base := base) T
  obtain ⟨_, F_write_log, B_write_log, M_write_log, K_write_log⟩ := h_write_log (P := P) (w := w) (base := base) T
  obtain ⟨_, F_check_log, B_check_log, M_check_log, K_check_log⟩ := h_check_log (P := P) (w := w) (base := base) T
  obtain ⟨_, F__law_first_bad, B__law_first_bad, M__law_first_bad, K__law_first_bad⟩ := h__law_first_bad (P := P) (w := w) (base := base) T
  obtain ⟨_, F__law_is_event, B__law_is_event, M__law_is_event, K__law_is_event⟩ := h__law_is_event (P := P) (w := w) (base := base) T
  obtain ⟨_, F_is_event, B_is_event, M_is_event, K_is_event⟩ := h_is_event (P := P) (w := w) (base := base) T
  have W__law_is_int := w__law_is_int (P := P) (w := w) (base := base) T
  have m_range : mg "range" = none := T.fr "range" (by decide)
  have m_isinstance : mg "isinstance" = none := T.fr "isinstance" (by decide)
  have m_ValueError : mg "ValueError" = none := T.fr "ValueError" (by decide)
  have m_bool : mg "bool" = none := T.fr "bool" (by decide)
  obtain ⟨fd, FD⟩ := T.d__law_checks
  refine ⟨fd, ?_, FD.bindsN fun _ _ _ _ _ _ us hl => match us, hl with | [_], _ => rfl, T.g__law_checks, FD.kp⟩
  refine fn_ok (ts := ts__law_checks) FD sc__law_checks (fun cdv A outer s H E hr => ?_) ad__law_checks
  have sc := sc__law_checks
  exact (ds_cons (d_for (by exact passes_of rfl) (by rfl) (di_seq (fl := fs) true (dx_varD 0)) (dg_name 1 sc.nd)
  (ds_cons (d_set 2 sc.nd (dx_call (k := 3) F_is_event takes_cx (by exact hr.mono (by decide)) (by rfl) M_is_event K_is_event B_is_event (da_cons (dx_var 1) da_nil)))
  (ds_one (d_if (dt_w (dw_or (dt_not (dt_of (dx_isi kit_bool (by rfl) m_bool (by decide +kernel) (by rfl) m_isinstance (by decide +kernel) (dx_var 2)))) (dw_or1 (dt_ne (by exact hr.units) (dx_var 2) (dx_call (k := 2) F__law_is_event takes_cx (by exact hr.mono (by decide)) (by rfl) M__law_is_event K__law_is_event B__law_is_event (da_cons (dx_var 1) da_nil))))))
  (ds_one (d_ret dx_bool))
  ds_nil))))
  (ds_cons (d_set 3 sc.nd (dx_call (k := 3) F__law_first_bad takes_cx (by exact hr.mono (by decide)) (by rfl) M__law_first_bad K__law_first_bad B__law_first_bad (da_cons (dx_var 0) da_nil)))
  (ds_cons (d_for (by exact passes_of rfl) (by rfl) (di_range1 true (by rfl) m_range dx_int) (dg_name 4 sc.nd)
  (ds_cons (d_set 5 sc.nd dx_none)
  (ds_cons (d_try (kn := KN) (by rfl) (by rfl) sc.nd takes_cx (fun W pn xe tk po => (ds_cons (d_if (dt_eq (by exact hr.units) (dx_var 4) dx_int)
  (ds_one (d_expr (dx_call (k := 4) F_check_log tk (by exact hr.mono (by decide)) (by rfl) M_check_log K_check_log B_check_log (da_cons (dx_var 0) da_nil))))
  ds_nil)
  (ds_cons (d_if (dt_eq (by exact hr.units) (dx_var 4) dx_int)
  (ds_one (d_expr (dx_call (k := 5) F_write_log tk (by exact hr.mono (by decide)) (by rfl) M_write_log K_write_log B_write_log (da_cons (dx_var 0) da_nil))))
  ds_nil)
  (ds_cons (d_if (dt_eq (by exact hr.units) (dx_var 4) dx_int)
  (ds_one (d_expr (dx_call (k := 5) F_caller_book tk (by exact hr.mono (by decide)) (by rfl) M_caller_book K_caller_book B_caller_book (da_cons (dx_var 0) da_nil))))
  ds_nil)
  (ds_one (d_if (dt_eq (by exact hr.units) (dx_var 4) dx_int)
  (ds_one (d_expr (dx_call (k := 5) F_server_book tk (by exact hr.mono (by decide)) (by rfl) M_server_book K_server_book B_server_book (da_cons (dx_var 0) da_nil))))
  ds_nil))))))
  (HdD.as (i := 6) (m := cm_TrunkError) (t := fun a c d => (sSeq (sIf (tOrD (tNotD (tOf (eXis a c d KN cm_BadBook 6))) (tOrD (tNotD (tOf (eXis a c d KN cm_ValueError 6))) (tNotD (tOf (eCallW 1 C__law_is_int (aCons (eXf a c d kf_part 6 "part") aNil))))))
  (sRet true (eC (.bool false)))
  sNil)
  (sSet fs 5 (eXf a c d kf_part 6 "part")))) ⟨by rfl, by decide, .inl T.g_TrunkError⟩ T.xm_TrunkError (by rfl) (by rfl) (fun a oe c d pn hz hf => (ds_cons (d_if (dt_w (dw_or (dt_not (dt_of (dx_xis (kn := KN) (m := cm_BadBook) (c := .ref (He.ga K "BadBook")) T.is_BadBook hz hf 6 (fun _ h => h) (pe_glob (by rfl) T.g_BadBook rfl (by decide)) (by rfl) m_isinstance (by decide +kernel)))) (dw_or (dt_not (dt_of (dx_xis (kn := KN) (m := cm_ValueError) (c := .ty "ValueError") T.is_ValueError hz hf 6 (fun _ h => h) (pe_bltn (v := .ty "ValueError") (by rfl) m_ValueError (by decide +kernel) rfl (by decide) (by decide)) (by rfl) m_isinstance (by decide +kernel)))) (dw_or1 (dt_not (dt_of (dx_callW (k := 1) W__law_is_int (roomM hr (by decide)) (by rfl) (da_cons (dx_w fb (dx_xf (kn := kf_part) T.f_part hz hf 6)) da_nil))))))))
  (ds_one (d_ret dx_bool))
  ds_nil)
  (ds_one (d_set 5 sc.nd (dx_xf (kn := kf_part) T.f_part hz hf 6))))) HdD.nil))
  (ds_one (d_if (dt_ne (by exact hr.units) (dx_var 5) (dx_var 3))
  (ds_one (d_ret dx_bool))
  ds_nil)))))
  (ds_one (d_ret (dx_or (dx_notNone (dx_var 3)) (dx_one (dx_call (k := 6) F__law_are_books takes_cx (by exact hr.mono (by decide)) (by rfl) M__law_are_books K__law_are_books B__law_are_books (da_cons (dx_var 0) da_nil)))))))))
abbrev N_law : List Str := ["script", "endings", "row", "text", "told", "other", "source", "at"]
theorem sc_law : FnScope N_law ["script"] (defScope s_law) := ⟨rfl, rfl, rfl, by decide +kernel, rfl, by decide +kernel, by decide +kernel⟩
def ts_law : TDs := (sSeq (sIf (tOrD (tB2 (opD neD) (eC cv_MOST_TICK) (eC (.int 400))) (tB2 (opD neD) (eC cv_LAST_NUMBER) (eC (.int 39))))
  (sRet true (eC (.bool false)))
  sNil)
  (sSeq (sSet ff 1 (eCall 0 C__law_endings aNil))
  (sSeq (sSet ff 2 (eCall 1 C__law_row (aCons (eTok okN (eCall 2 C__law_source (aCons (eV 0) (aCons (eC (.int 0)) aNil)))) aNil)))
  (sSeq (sSet ff 3 (eCall 1 C__law_write (aCons (eV 2) aNil)))
  (sSeq (sSet ff 4 (eCall 1 C_write_log (aCons (eV 2) aNil)))
  (sSeq (sIf (tOrD (tNotD (tOf (eIsi isStrS (eV 4)))) (tOrD (tB2 (opD neD) (eV 4) (eV 3)) (tNotD (tOf (eCall 2 C__law_reads (aCons (eV 3) (aCons (eV 1) aNil)))))))
  (sRet true (eC (.bool false)))
  sNil)
  (sSeq (sSet ff 5 (eCall 1 C__law_write (aCons (eCall 1 C__law_row (aCons (eTok okN (eCall 2 C__law_source (aCons (eV 0) (aCons (eC (.int 1)) aNil)))) aNil)) aNil)))
  (sSeq (sIf (tNotD (tOf (eCall 2 C__law_reads (aCons (eCall 3 C__law_second_text (aCons (eV 3) (aCons (eV 5) (aCons (eTok okN (eCall 2 C__law_source (aCons (eV 0) (aCons (eC (.int 2)) aNil)))) aNil)))) (aCons (eV 1) aNil)))))
  (sRet true (eC (.bool false)))
  sNil)
  (sSeq (sSet ff 6 (eTok okN (eCall 2 C__law_source (aCons (eV 0) (aCons (eC (.int 3)) aNil)))))
  (sSeq (sSet ff 7 (eCall 2 C__law_take (aCons (eV 6) (aCons (eB addV (e1 lenV (eV 2)) (eC (.int 1))) aNil))))
  (sRet true (eAnd (eCall 1 C__law_checks (aCons (eV 2) aNil)) (eCall 1 C__law_checks (aCons (eB addV (eB addV (eSl (eV 2) oNone (oSome (eV 7))) (eTup (aCons (eCall 1 C__law_odd_thing (aCons (eV 6) aNil)) aNil))) (eSl (eV 2) (oSome (eV 7)) oNone)) aNil))))))))))))))
def C_law : Ctr := fun args R RX => ∃ ns : List Int, args = [.d (.list (ns.map .int))] ∧ ns.length ≤ 63 ∧ (∀ z ∈ ns, Builtin.Int.intBits z ≤ 1048576) ∧ R (.d (.bool true))
theorem ad_law : AdOk C_law ts_law N_law 1 := by
  rintro args R RX hl ⟨ns, rfl, hn, hb, h⟩
  have src : ∀ a b c : Int, ∃ ns, SV.own [.int a, .int b, .int c] = SV.own (intsD ns) ∧ okN ns := fun a b c => ⟨[a, b, c], rfl, rfl⟩
  have evs : ∀ xs : List PyData, scanL 0 0 xs = none → (∀ x ∈ xs, isEv x = true) ∧ nolistA xs = true := fun xs hs => ⟨scan_none hs, nolA_of fun x hx => isEv_nol (scan_none hs x hx)⟩
  simp [ts_law, startD]
  refine ⟨rfl, ?_⟩
  simp [strs_nol]
  refine ⟨ns, 0, rfl, fun a b c => ⟨src a b c, rfl, fun xs hs hxl => ?_⟩⟩
  obtain ⟨ev, nl⟩ := evs xs hs
  have tl := logText_len ev
  rw [storeV_ff]
  refine ⟨xs, rfl, ev, by omega, ?_⟩
  simp only [storeV_ff, toArg_d]
  rw [at_write_log]
  refine ⟨nl, by omega, ?_⟩
  rw [hs]
  simp [isStrD]
  refine ⟨logText xs, rfl, by omega, ?_⟩
  simp
  refine ⟨ns, 1, rfl, fun a b c => ⟨src a b c, rfl, fun ys hs2 hxl2 => ?_⟩⟩
  obtain ⟨ev2, nl2⟩ := evs ys hs2
  have tl2 := logText_len ev2
  refine ⟨ys, rfl, ev2, by omega, ?_⟩
  simp only [storeV_ff, toArg_d]
  refine ⟨ns, 2, rfl, fun a b c => ⟨src a b c, ?_⟩⟩
  refine ⟨logText xs, logText ys, rfl, by omega, by omega, fun r hr => ?_⟩
  refine ⟨r, rfl, by omega, ?_⟩
  simp
  refine ⟨ns, 3, rfl, fun a b c => ⟨src a b c, ?_⟩⟩
  refine ⟨by omega, by omega, fun k hk => ?_⟩
  refine at__law_checks nl (by omega) ?_
  have sb := sizeB
  simp
  refine ⟨nl, rfl, fun x hx => ?_⟩
  have l1 : (xs.take k).length ≤ 20 := by rw [List.length_take]; omega
  have l2 : (xs.drop k).length ≤ 20 := by rw [List.length_drop]; omega
  have n1 : nolistA (xs.take k) = true := nolA_of fun y hy => nolA_mem nl y (List.mem_of_mem_take hy)
  have n2 : nolistA (xs.drop k) = true := nolA_of fun y hy => nolA_mem nl y (List.mem_of_mem_drop hy)
  have n3 : nolistA (xs.take k ++ [x]) = true := nolA_of fun y hy => by
    rcases List.mem_append.mp hy with hy | hy
    · exact nolA_mem n1 y hy
    · simp at hy; subst hy; exact hx
  have n4 : nolistA (xs.take k ++ (x :: xs.drop k)) = true := nolA_of fun y hy => by
    rcases List.mem_append.mp hy with hy | hy
    · exact nolA_mem n1 y hy
    · rcases List.mem_cons.mp hy with rfl | hy
      · exact hx
      · exact nolA_mem n2 y hy
  simp [cutL_to, cutL_from, n1, n2, n3, nl, hx]
  refine ⟨by omega, by omega, ?_⟩
  exact at__law_checks n4 (by simp; omega) h
theorem law_fn (T : Tx K mg) : ∃ fd : FuncData, FunD K "law" "law" (defArgs s_law) (defBody s_law) (defScope s_law) [] [] (He.ga K "law") fd ∧ ∀ base : Heap, Bq K mg base → FnOk P w K mg base (L2.CX P w) 8 (He.ga K "law") fd ["script"] (spD K (LK K) 1 C_law) := by
  obtain ⟨fd, FD⟩ := T.d_law
  refine ⟨fd, FD, fun base bq => ?_⟩
  obtain ⟨_, F__law_checks, B__law_checks, M__law_checks, K__law_checks⟩ := h__law_checks (P := P) (w := w) (base := base) T
  obtain ⟨_, F__law_odd_thing, B__law_odd_thing, M__law_odd_thing, K__law_odd_thing⟩ := h__law_odd_thing (P := P) (w := w) (base := base) T
  obtain ⟨_, F__law_take, B__law_take, M__law_take, K__law_take⟩ := h__law_take (P := P) (w := w) (base := base) T
  obtain ⟨_, F__law_source, B__law_source, M__law_source, K__law_source⟩ := h__law_source (P := P) (w := w) (base := base) T
  obtain ⟨_, F__law_reads, B__law_reads, M__law_reads, K__law_reads⟩ := h__law_reads (P := P) (w := w) (base := base) T
  obtain ⟨_, F__law_second_text, B__law_second_text, M__law_second_text, K__law_second_text⟩ := h__law_second_text (P := P) (w := w) (base := base) T
  obtain ⟨_, F__law_write, B__law_write, M__law_write, K__law_write⟩ := h__law_write (P := P) (w := w) (base := base) T
  obtain ⟨_, F__law_row, B__law_row, M__law_row, K__law_row⟩ := h__law_row (P := P) (w := w) (base := base) T
  obtain ⟨_, F_write_log, B_write_log, M_write_log, K_write_log⟩ := h_write_log (P := P) (w := w) (base := base) T
  obtain ⟨_, F__law_endings, B__law_endings, M__law_endings, K__law_endings⟩ := h__law_endings (P := P) (w := w) (base := base) T
  have m_len : mg "len" = none := T.fr "len" (by decide)
  have m_str : mg "str" = none := T.fr "str" (by decide)
  have m_isinstance : mg "isinstance" = none := T.fr "isinstance" (by decide)
  obtain ⟨_, mc_MOST_TICK⟩ := T.c_MOST_TICK
  obtain ⟨_, mc_LAST_NUMBER⟩ := T.c_LAST_NUMBER
  refine fn_ok (ts := ts_law) FD sc_law (fun cdv A outer s H E hr => ?_) ad_law
  have sc := sc_law
  exact (ds_cons (d_if (dt_w (dw_or (dt_ne (by exact hr.units) (dx_glob_int (by rfl) mc_MOST_TICK) dx_int) (dw_or1 (dt_ne (by exact hr.units) (dx_glob_int (by rfl) mc_LAST_NUMBER) dx_int))))
  (ds_one (d_ret dx_bool))
  ds_nil)
  (ds_cons (d_set 1 sc.nd (dx_call0 (k := 2) F__law_endings takes_cx (by exact hr.mono (by decide)) (by rfl) M__law_endings K__law_endings B__law_endings))
  (ds_cons (d_set 2 sc.nd (dx_call (k := 3) F__law_row takes_cx (by exact hr.mono (by decide)) (by rfl) M__law_row K__law_row B__law_row (da_cons (dx_w fb (dx_tok lkI (dx_call (k := 1) F__law_source takes_cx (by exact hr.mono (by decide)) (by rfl) M__law_source K__law_source B__law_source (da_cons (dx_var 0) (da_cons (dx_w fb dx_int) da_nil))))) da_nil)))
  (ds_cons (d_set 3 sc.nd (dx_call (k := 2) F__law_write takes_cx (by exact hr.mono (by decide)) (by rfl) M__law_write K__law_write B__law_write (da_cons (dx_var 2) da_nil)))
  (ds_cons (d_set 4 sc.nd (dx_call (k := 5) F_write_log takes_cx (by exact hr.mono (by decide)) (by rfl) M_write_log K_write_log B_write_log (da_cons (dx_var 2) da_nil)))
  (ds_cons (d_if (dt_w (dw_or (dt_not (dt_of (dx_isi kit_str (by rfl) m_str (by decide +kernel) (by rfl) m_isinstance (by decide +kernel) (dx_var 4)))) (dw_or (dt_ne (by exact hr.units) (dx_var 4) (dx_var 3)) (dw_or1 (dt_not (dt_of (dx_call (k := 6) F__law_reads takes_cx (by exact hr.mono (by decide)) (by rfl) M__law_reads K__law_reads B__law_reads (da_cons (dx_var 3) (da_cons (dx_var 1) da_nil)))))))))
  (ds_one (d_ret dx_bool))
  ds_nil)
  (ds_cons (d_set 5 sc.nd (dx_call (k := 2) F__law_write takes_cx (by exact hr.mono (by decide)) (by rfl) M__law_write K__law_write B__law_write (da_cons (dx_w fb (dx_call (k := 3) F__law_row takes_cx (by exact hr.mono (by decide)) (by rfl) M__law_row K__law_row B__law_row (da_cons (dx_w fb (dx_tok lkI (dx_call (k := 1) F__law_source takes_cx (by exact hr.mono (by decide)) (by rfl) M__law_source K__law_source B__law_source (da_cons (dx_var 0) (da_cons (dx_w fb dx_int) da_nil))))) da_nil))) da_nil)))
  (ds_cons (d_if (dt_not (dt_of (dx_call (k := 6) F__law_reads takes_cx (by exact hr.mono (by decide)) (by rfl) M__law_reads K__law_reads B__law_reads (da_cons (dx_w fb (dx_call (k := 3) F__law_second_text takes_cx (by exact hr.mono (by decide)) (by rfl) M__law_second_text K__law_second_text B__law_second_text (da_cons (dx_var 3) (da_cons (dx_var 5) (da_cons (dx_w fb (dx_tok lkI (dx_call (k := 1) F__law_source takes_cx (by exact hr.mono (by decide)) (by rfl) M__law_source K__law_source B__law_source (da_cons (dx_var 0) (da_cons (dx_w fb dx_int) da_nil))))) da_nil))))) (da_cons (dx_var 1) da_nil)))))
  (ds_one (d_ret dx_bool))
  ds_nil)
  (ds_cons (d_set 6 sc.nd (dx_tok lkI (dx_call (k := 1) F__law_source takes_cx (by exact hr.mono (by decide)) (by rfl) M__law_source K__law_source B__law_source (da_cons (dx_var 0) (da_cons (dx_w fb dx_int) da_nil)))))
  (ds_cons (d_set 7 sc.nd (dx_call (k := 1) F__law_take takes_cx (by exact hr.mono (by decide)) (by rfl) M__law_take K__law_take B__law_take (da_cons (dx_var 6) (da_cons (dx_w fb (dx_add (dx_len (by rfl) m_len (dx_var 2)) dx_int)) da_nil))))
  (ds_one (d_ret (dx_and (dx_call (k := 7) F__law_checks takes_cx (by exact hr.mono (by decide)) (by rfl) M__law_checks K__law_checks B__law_checks (da_cons (dx_var 2) da_nil)) (dx_one (dx_call (k := 7) F__law_checks takes_cx (by exact hr.mono (by decide)) (by rfl) M__law_checks K__law_checks B__law_checks (da_cons (dx_w fb (dx_add (dx_add (dx_slice (dx_var 2) do_none (do_some (dx_var 7))) (dx_tup (da_cons (dx_call (k := 3) F__law_odd_thing takes_cx (by exact hr.mono (by decide)) (by rfl) M__law_odd_thing K__law_odd_thing B__law_odd_thing (da_cons (dx_var 6) da_nil)) da_nil))) (dx_slice (dx_var 2) (do_some (dx_var 7)) do_none))) da_nil))))))))))))))))

end
end TK

namespace TK
open PySem PySem.Spec PyProof.Rows L2 DL
def hfn : List He.DefD := [⟨("is_int", none), "is_int", "is_int", defArgs s_is_int, defBody s_is_int, defScope s_is_int, [], []⟩,
  ⟨("is_int_in", none), "is_int_in", "is_int_in", defArgs s_is_int_in, defBody s_is_int_in, defScope s_is_int_in, [], []⟩,
  ⟨("is_event", none), "is_event", "is_event", defArgs s_is_event, defBody s_is_event, defScope s_is_event, [], []⟩,
  ⟨("check_log", none), "check_log", "check_log", defArgs s_check_log, defBody s_check_log, defScope s_check_log, [], []⟩,
  ⟨("_write_event", none), "_write_event", "_write_event", defArgs s__write_event, defBody s__write_event, defScope s__write_event, [], []⟩,
  ⟨("write_log", none), "write_log", "write_log", defArgs s_write_log, defBody s_write_log, defScope s_write_log, [], []⟩,
  ⟨("_refuse", none), "_refuse", "_refuse", defArgs s__refuse, defBody s__refuse, defScope s__refuse, [], []⟩,
  ⟨("_can_begin", none), "_can_begin", "_can_begin", defArgs s__can_begin, defBody s__can_begin, defScope s__can_begin, [], []⟩,
  ⟨("_read_number", none), "_read_number", "_read_number", defArgs s__read_number, defBody s__read_number, defScope s__read_number, [], []⟩,
  ⟨("_read_char", none), "_read_char", "_read_char", defArgs s__read_char, defBody s__read_char, defScope s__read_char, [], []⟩,
  ⟨("_common", none), "_common", "_common", defArgs s__common, defBody s__common, defScope s__common, [], []⟩,
  ⟨("_read_word", none), "_read_word", "_read_word", defArgs s__read_word, defBody s__read_word, defScope s__read_word, [], []⟩,
  ⟨("read_log", none), "read_log", "read_log", defArgs s_read_log, defBody s_read_log, defScope s_read_log, [], []⟩,
  ⟨("_ticks", none), "_ticks", "_ticks", defArgs s__ticks, defBody s__ticks, defScope s__ticks, [], []⟩,
  ⟨("caller_book", none), "caller_book", "caller_book", defArgs s_caller_book, defBody s_caller_book, defScope s_caller_book, [], []⟩,
  ⟨("server_book", none), "server_book", "server_book", defArgs s_server_book, defBody s_server_book, defScope s_server_book, [], []⟩,
  ⟨("_law_source", none), "_law_source", "_law_source", defArgs s__law_source, defBody s__law_source, defScope s__law_source, [], []⟩,
  ⟨("_law_take", none), "_law_take", "_law_take", defArgs s__law_take, defBody s__law_take, defScope s__law_take, [], []⟩,
  ⟨("_law_is_int", none), "_law_is_int", "_law_is_int", defArgs s__law_is_int, defBody s__law_is_int, defScope s__law_is_int, [], []⟩,
  ⟨("_law_numbered", none), "_law_numbered", "_law_numbered", defArgs s__law_numbered, defBody s__law_numbered, defScope s__law_numbered, [], []⟩,
  ⟨("_law_event", none), "_law_event", "_law_event", defArgs s__law_event, defBody s__law_event, defScope s__law_event, [], []⟩,
  ⟨("_law_row", none), "_law_row", "_law_row", defArgs s__law_row, defBody s__law_row, defScope s__law_row, [], []⟩,
  ⟨("_law_write", none), "_law_write", "_law_write", defArgs s__law_write, defBody s__law_write, defScope s__law_write, [], []⟩,
  ⟨("_law_endings", none), "_law_endings", "_law_endings", defArgs s__law_endings, defBody s__law_endings, defScope s__law_endings, [], []⟩,
  ⟨("_law_begins", none), "_law_begins", "_law_begins", defArgs s__law_begins, defBody s__law_begins, defScope s__law_begins, [], []⟩,
  ⟨("_law_place", none), "_law_place", "_law_place", defArgs s__law_place, defBody s__law_place, defScope s__law_place, [], []⟩,
  ⟨("_law_line", none), "_law_line", "_law_line", defArgs s__law_line, defBody s__law_line, defScope s__law_line, [], []⟩,
  ⟨("_law_read", none), "_law_read", "_law_read", defArgs s__law_read, defBody s__law_read, defScope s__law_read, [], []⟩,
  ⟨("_law_same_row", none), "_law_same_row", "_law_same_row", defArgs s__law_same_row, defBody s__law_same_row, defScope s__law_same_row, [], []⟩,
  ⟨("_law_reads", none), "_law_reads", "_law_reads", defArgs s__law_reads, defBody s__law_reads, defScope s__law_reads, [], []⟩,
  ⟨("_law_char", none), "_law_char", "_law_char", defArgs s__law_char, defBody s__law_char, defScope s__law_char, [], []⟩,
  ⟨("_law_odd_text", none), "_law_odd_text", "_law_odd_text", defArgs s__law_odd_text, defBody s__law_odd_text, defScope s__law_odd_text, [], []⟩,
  ⟨("_law_second_text", none), "_law_second_text", "_law_second_text", defArgs s__law_second_text, defBody s__law_second_text, defScope s__law_second_text, [], []⟩,
  ⟨("_law_odd_thing", none), "_law_odd_thing", "_law_odd_thing", defArgs s__law_odd_thing, defBody s__law_odd_thing, defScope s__law_odd_thing, [], []⟩,
  ⟨("_law_is_event", none), "_law_is_event", "_law_is_event", defArgs s__law_is_event, defBody s__law_is_event, defScope s__law_is_event, [], []⟩,
  ⟨("_law_first_bad", none), "_law_first_bad", "_law_first_bad", defArgs s__law_first_bad, defBody s__law_first_bad, defScope s__law_first_bad, [], []⟩,
  ⟨("_law_is_book", none), "_law_is_book", "_law_is_book", defArgs s__law_is_book, defBody s__law_is_book, defScope s__law_is_book, [], []⟩,
  ⟨("_law_are_books", none), "_law_are_books", "_law_are_books", defArgs s__law_are_books, defBody s__law_are_books, defScope s__law_are_books, [], []⟩,
  ⟨("_law_checks", none), "_law_checks", "_law_checks", defArgs s__law_checks, defBody s__law_checks, defScope s__law_checks, [], []⟩,
  ⟨("law", none), "law", "law", defArgs s_law, defBody s_law, defScope s_law, [], []⟩,
  ⟨("BadBook", some "__init__"), "__init__", "BadBook.__init__", defArgs i_BadBook, defBody i_BadBook, defScope i_BadBook, [], []⟩,
  ⟨("BadLine", some "__init__"), "__init__", "BadLine.__init__", defArgs i_BadLine, defBody i_BadLine, defScope i_BadLine, [], []⟩]
def hfa0 : List He.Fa := [.glo "is_int", .glo "is_int_in", .glo "is_event", .glo "check_log", .glo "_write_event", .glo "write_log", .glo "_refuse", .glo "_can_begin", .glo "_read_number", .glo "_read_char", .glo "_common", .glo "_read_word", .glo "read_log", .glo "_ticks", .glo "caller_book", .glo "server_book", .glo "_law_source", .glo "_law_take", .glo "_law_is_int", .glo "_law_numbered", .glo "_law_event", .glo "_law_row", .glo "_law_write", .glo "_law_endings", .glo "_law_begins", .glo "_law_place", .glo "_law_line", .glo "_law_read", .glo "_law_same_row", .glo "_law_reads"]
def hfa1 : List He.Fa := [.glo "_law_char", .glo "_law_odd_text", .glo "_law_second_text", .glo "_law_odd_thing", .glo "_law_is_event", .glo "_law_first_bad", .glo "_law_is_book", .glo "_law_are_books", .glo "_law_checks", .glo "law", .glo "TrunkError", .glo "BadBook", .glo "BadLine", .free "len", .free "isinstance", .free "int", .free "bool", .free "str", .free "tuple", .free "list", .free "range", .free "max", .free "min", .free "abs", .free "ord", .free "sorted", .free "sum", .free "set", .free "dict", .free "enumerate"]
def hfa2 : List He.Fa := [.free "zip", .free "reversed", .free "repr", .free "ValueError", .free "next", .int "MOST_TICK" 400, .int "LAST_NUMBER" 39, .glo "NUMBERED", .glo "PLAIN", .glo "ENDED", .str "DIGITS" "0123456789"]
def hfa : List He.Fa := hfa0 ++ hfa1 ++ hfa2
def exL (K : PySem.W.Frag) : List Bool := [errB K "TrunkError" [],
  errB K "BadBook" ["part"],
  errB K "BadLine" ["line", "column"],
  KN.all (fun y => decide (PySem.W.exmOne K (.ref (He.ga K y)) (.ref (He.ga K "TrunkError")) = some (cm_TrunkError y))),
  KN.all (fun y => decide (PySem.W.exmOne K (.ref (He.ga K y)) (.ref (He.ga K "BadBook")) = some (cm_BadBook y))),
  KN.all (fun y => decide (PySem.W.exmOne K (.ref (He.ga K y)) (.ref (He.ga K "BadLine")) = some (cm_BadLine y))),
  KN.all (fun y => decide (PySem.W.kitOne K (.ref (He.ga K y)) (.ref (He.ga K "TrunkError")) = some (cm_TrunkError y))),
  KN.all (fun y => decide (PySem.W.kitOne K (.ref (He.ga K y)) (.ref (He.ga K "BadBook")) = some (cm_BadBook y))),
  KN.all (fun y => decide (PySem.W.kitOne K (.ref (He.ga K y)) (.ref (He.ga K "BadLine")) = some (cm_BadLine y))),
  KN.all (fun y => decide (PySem.W.kitOne K (.ref (He.ga K y)) (.type "ValueError") = some (cm_ValueError y))),
  decide (PySem.W.findIn K (.ref (He.ga K "BadBook")) "__init__" = some (some (.ref (He.ma K (He.ga K "BadBook") "__init__")))),
  decide (PySem.W.typeIn K (.ref (He.ma K (He.ga K "BadBook") "__init__")) = some (.type "function")),
  decide (PySem.W.findIn K (.ref (He.ga K "BadLine")) "__init__" = some (some (.ref (He.ma K (He.ga K "BadLine") "__init__")))),
  decide (PySem.W.typeIn K (.ref (He.ma K (He.ga K "BadLine") "__init__")) = some (.type "function")),
  He.tupB K "NUMBERED" [.str "ask", .str "arrive", .str "do", .str "again", .str "hear", .str "late"],
  He.tupB K "PLAIN" [.str "crash", .str "give up"],
  He.tupB K "ENDED" [.str "ask ", .str "arrive ", .str "do ", .str "again ", .str "hear ", .str "late ", .str "crash\n", .str "give up\n"]]
def exB (K : PySem.W.Frag) : Bool := (exL K).all id
theorem exB_at {K : PySem.W.Frag} (h : exB K = true) (i : Nat) {b : Bool} (e : (exL K)[i]? = some b) : b = true := List.all_eq_true.mp h b (List.mem_of_getElem? e)
abbrev Rh : PySem.W.OpenRow := PySem.W.OpenLaw.row PySem.Challenge.rw_trunkcall_k49_log_texts
abbrev hk : PySem.W.Hook := He.hookX 6 hfa hfn [] tabDefs exB
def hob (s : PySem.W.SharedT) : He.AlX := He.obsX 6 hfa hfn [] tabDefs exB (HandSHeadRun.getT s)
theorem hob_eq (s : PySem.W.SharedT) : hob s = hk.obs s.abs := He.obsX_eq (HandSHeadRun.getT_eq s)
def loose0 : List Str := ["TrunkError", "BadBook", "BadLine", "is_int", "is_int_in", "MOST_TICK", "LAST_NUMBER", "NUMBERED", "PLAIN", "ENDED", "DIGITS", "is_event", "check_log", "_write_event", "write_log", "_refuse", "_can_begin", "_read_number", "_read_char", "_common", "_read_word", "read_log", "_ticks", "caller_book", "server_book", "_law_source", "_law_take", "_law_is_int", "_law_numbered", "_law_event"]
def loose1 : List Str := ["_law_row", "_law_write", "_law_endings", "_law_begins", "_law_place", "_law_line", "_law_read", "_law_same_row", "_law_reads", "_law_char", "_law_odd_text", "_law_second_text", "_law_odd_thing", "_law_is_event", "_law_first_bad", "_law_is_book", "_law_are_books", "_law_checks"]
def loose : List Str := loose0 ++ loose1
theorem hrun (w : World) : HandSHeadRun.RunEq Rh (PySem.W.view Rh.prog [53]) hk hob 4000 loose w := by
  intro os
  kernel_rfl
theorem frees_in : ∀ x ∈ frees, (He.Fa.free x) ∈ hfa := by
  intro x hx
  rcases (by simpa [frees] using hx : x = "len" ∨ x = "isinstance" ∨ x = "int" ∨ x = "bool" ∨ x = "str" ∨ x = "tuple" ∨ x = "list" ∨ x = "range" ∨ x = "max" ∨ x = "min" ∨ x = "abs" ∨ x = "ord" ∨ x = "sorted" ∨ x = "sum" ∨ x = "set" ∨ x = "dict" ∨ x = "enumerate" ∨ x = "zip" ∨ x = "reversed" ∨ x = "repr" ∨ x = "ValueError" ∨ x = "next") with rfl | rfl | rfl | rfl | rfl | rfl | rfl | rfl | rfl | rfl | rfl | rfl | rfl | rfl | rfl | rfl | rfl | rfl | rfl | rfl | rfl | rfl
  · exact List.mem_of_getElem? (i := 43) rfl
  · exact List.mem_of_getElem? (i := 44) rfl
  · exact List.mem_of_getElem? (i := 45) rfl
  · exact List.mem_of_getElem? (i := 46) rfl
  · exact List.mem_of_getElem? (i := 47) rfl
  · exact List.mem_of_getElem? (i := 48) rfl
  · exact List.mem_of_getElem? (i := 49) rfl
  · exact List.mem_of_getElem? (i := 50) rfl
  · exact List.mem_of_getElem? (i := 51) rfl
  · exact List.mem_of_getElem? (i := 52) rfl
  · exact List.mem_of_getElem? (i := 53) rfl
  · exact List.mem_of_getElem? (i := 54) rfl
  · exact List.mem_of_getElem? (i := 55) rfl
  · exact List.mem_of_getElem? (i := 56) rfl
  · exact List.mem_of_getElem? (i := 57) rfl
  · exact List.mem_of_getElem? (i := 58) rfl
  · exact List.mem_of_getElem? (i := 59) rfl
  · exact List.mem_of_getElem? (i := 60) rfl
  · exact List.mem_of_getElem? (i := 61) rfl
  · exact List.mem_of_getElem? (i := 62) rfl
  · exact List.mem_of_getElem? (i := 63) rfl
  · exact List.mem_of_getElem? (i := 64) rfl
theorem tx_of {w : World} {K : PySem.W.Frag} {h : Heap} {mg : Str → Option Value} (X : K.In h) (G : h.Ns mainGlobals mg) (c : He.SaysX hfa hfn [] tabDefs exB w h K) : Tx K mg := by
  have cd : He.SaysD hfa hfn K := c.t.d
  have glo : ∀ x : Str, (He.Fa.glo x) ∈ hfa → mg x = some (.ref (He.ga K x)) := fun x hx => He.glo_ok X G (cd.facts hx)
  have df : ∀ i {d : He.DefD}, hfn[i]? = some d → ∃ fd, FunD K d.name d.qual d.params d.body d.scope (d.dvs K) (d.kws K) (He.fAd K d.at_) fd := fun i d e => cd.defs (List.mem_of_getElem? e)
  have ga : ∀ (i : Nat) {x : Str}, hfa[i]? = some (.glo x) → mg x = some (.ref (He.ga K x)) := fun i x e => glo x (List.mem_of_getElem? e)
  have fre : ∀ x : Str, frees.contains x = true → mg x = none := fun x hx => He.free_ok X G (cd.facts (by
      have h1 : x ∈ frees := by simpa using hx
      exact frees_in x h1))
  have er : ∀ y ∈ KN, XfC K (He.ga K y) ∧ ExcC K (He.ga K y) := by
    intro y hy
    rcases (by simpa [KN] using hy : y = "TrunkError" ∨ y = "BadBook" ∨ y = "BadLine") with rfl | rfl | rfl
    · exact ⟨(errB_ok (exB_at c.more 0 rfl : errB K "TrunkError" [] = true)).xf, (errB_ok (exB_at c.more 0 rfl : errB K "TrunkError" [] = true)).excC⟩
    · exact ⟨(errB_ok (exB_at c.more 1 rfl : errB K "BadBook" ["part"] = true)).xf, (errB_ok (exB_at c.more 1 rfl : errB K "BadBook" ["part"] = true)).excC⟩
    · exact ⟨(errB_ok (exB_at c.more 2 rfl : errB K "BadLine" ["line", "column"] = true)).xf, (errB_ok (exB_at c.more 2 rfl : errB K "BadLine" ["line", "column"] = true)).excC⟩
  exact {
    fr := fre
    d_is_int := df 0 rfl
    g_is_int := ga 0 rfl
    d_is_int_in := df 1 rfl
    g_is_int_in := ga 1 rfl
    d_is_event := df 2 rfl
    g_is_event := ga 2 rfl
    d_check_log := df 3 rfl
    g_check_log := ga 3 rfl
    d__write_event := df 4 rfl
    g__write_event := ga 4 rfl
    d_write_log := df 5 rfl
    g_write_log := ga 5 rfl
    d__refuse := df 6 rfl
    g__refuse := ga 6 rfl
    d__can_begin := df 7 rfl
    g__can_begin := ga 7 rfl
    d__read_number := df 8 rfl
    g__read_number := ga 8 rfl
    d__read_char := df 9 rfl
    g__read_char := ga 9 rfl
    d__common := df 10 rfl
    g__common := ga 10 rfl
    d__read_word := df 11 rfl
    g__read_word := ga 11 rfl
    d_read_log := df 12 rfl
    g_read_log := ga 12 rfl
    d__ticks := df 13 rfl
    g__ticks := ga 13 rfl
    d_caller_book := df 14 rfl
    g_caller_book := ga 14 rfl
    d_server_book := df 15 rfl
    g_server_book := ga 15 rfl
    d__law_source := df 16 rfl
    g__law_source := ga 16 rfl
    d__law_take := df 17 rfl
    g__law_take := ga 17 rfl
    d__law_is_int := df 18 rfl
    g__law_is_int := ga 18 rfl
    d__law_numbered := df 19 rfl
    g__law_numbered := ga 19 rfl
    d__law_event := df 20 rfl
    g__law_event := ga 20 rfl
    d__law_row := df 21 rfl
    g__law_row := ga 21 rfl
    d__law_write := df 22 rfl
    g__law_write := ga 22 rfl
    d__law_endings := df 23 rfl
    g__law_endings := ga 23 rfl
    d__law_begins := df 24 rfl
    g__law_begins := ga 24 rfl
    d__law_place := df 25 rfl
    g__law_place := ga 25 rfl
    d__law_line := df 26 rfl
    g__law_line := ga 26 rfl
    d__law_read := df 27 rfl
    g__law_read := ga 27 rfl
    d__law_same_row := df 28 rfl
    g__law_same_row := ga 28 rfl
    d__law_reads := df 29 rfl
    g__law_reads := ga 29 rfl
    d__law_char := df 30 rfl
    g__law_char := ga 30 rfl
    d__law_odd_text := df 31 rfl
    g__law_odd_text := ga 31 rfl
    d__law_second_text := df 32 rfl
    g__law_second_text := ga 32 rfl
    d__law_odd_thing := df 33 rfl
    g__law_odd_thing := ga 33 rfl
    d__law_is_event := df 34 rfl
    g__law_is_event := ga 34 rfl
    d__law_first_bad := df 35 rfl
    g__law_first_bad := ga 35 rfl
    d__law_is_book := df 36 rfl
    g__law_is_book := ga 36 rfl
    d__law_are_books := df 37 rfl
    g__law_are_books := ga 37 rfl
    d__law_checks := df 38 rfl
    g__law_checks := ga 38 rfl
    d_law := df 39 rfl
    g_law := ga 39 rfl
    g_TrunkError := ga 40 rfl
    g_BadBook := ga 41 rfl
    g_BadLine := ga 42 rfl
    c_MOST_TICK := He.int_ok X G (cd.facts (List.mem_of_getElem? (i := 65) rfl))
    c_LAST_NUMBER := He.int_ok X G (cd.facts (List.mem_of_getElem? (i := 66) rfl))
    c_NUMBERED := ⟨ga 67 rfl, fun M => Dp.tup (He.tupB_ok (exB_at c.more 14 rfl) M) (.cons (.str _) (.cons (.str _) (.cons (.str _) (.cons (.str _) (.cons (.str _) (.cons (.str _) (.nil)))))))⟩
    c_PLAIN := ⟨ga 68 rfl, fun M => Dp.tup (He.tupB_ok (exB_at c.more 15 rfl) M) (.cons (.str _) (.cons (.str _) (.nil)))⟩
    c_ENDED := ⟨ga 69 rfl, fun M => Dp.tup (He.tupB_ok (exB_at c.more 16 rfl) M) (.cons (.str _) (.cons (.str _) (.cons (.str _) (.cons (.str _) (.cons (.str _) (.cons (.str _) (.cons (.str _) (.cons (.str _) (.nil)))))))))⟩
    c_DIGITS := He.str_ok X G (cd.facts (List.mem_of_getElem? (i := 70) rfl))
    e_TrunkError := errB_ok (exB_at c.more 0 rfl)
    e_BadBook := errB_ok (exB_at c.more 1 rfl)
    e_BadLine := errB_ok (exB_at c.more 2 rfl)
    xm_TrunkError := fun y hy => of_decide_eq_true (List.all_eq_true.mp (exB_at c.more 3 rfl : (KN.all _) = true) y hy)
    is_TrunkError := fun y hy => ⟨(er y hy).2, of_decide_eq_true (List.all_eq_true.mp (exB_at c.more 6 rfl : (KN.all _) = true) y hy)⟩
    xm_BadBook := fun y hy => of_decide_eq_true (List.all_eq_true.mp (exB_at c.more 4 rfl : (KN.all _) = true) y hy)
    is_BadBook := fun y hy => ⟨(er y hy).2, of_decide_eq_true (List.all_eq_true.mp (exB_at c.more 7 rfl : (KN.all _) = true) y hy)⟩
    xm_BadLine := fun y hy => of_decide_eq_true (List.all_eq_true.mp (exB_at c.more 5 rfl : (KN.all _) = true) y hy)
    is_BadLine := fun y hy => ⟨(er y hy).2, of_decide_eq_true (List.all_eq_true.mp (exB_at c.more 8 rfl : (KN.all _) = true) y hy)⟩
    is_ValueError := fun y hy => ⟨(er y hy).2, of_decide_eq_true (List.all_eq_true.mp (exB_at c.more 9 rfl : (KN.all _) = true) y hy)⟩
    di_BadBook := df 40 rfl
    fi_BadBook := of_decide_eq_true (exB_at c.more 10 rfl)
    ti_BadBook := of_decide_eq_true (exB_at c.more 11 rfl)
    di_BadLine := df 41 rfl
    fi_BadLine := of_decide_eq_true (exB_at c.more 12 rfl)
    ti_BadLine := of_decide_eq_true (exB_at c.more 13 rfl)
    f_part := by
      intro y hy
      rcases (by simpa using hy : y = "BadBook") with rfl
      exact ⟨(errB_ok (exB_at c.more 1 rfl : errB K "BadBook" ["part"] = true)).xf, (errB_ok (exB_at c.more 1 rfl : errB K "BadBook" ["part"] = true)).no _ (by decide)⟩
    f_line := by
      intro y hy
      rcases (by simpa using hy : y = "BadLine") with rfl
      exact ⟨(errB_ok (exB_at c.more 2 rfl : errB K "BadLine" ["line", "column"] = true)).xf, (errB_ok (exB_at c.more 2 rfl : errB K "BadLine" ["line", "column"] = true)).no _ (by decide)⟩
    f_column := by
      intro y hy
      rcases (by simpa using hy : y = "BadLine") with rfl
      exact ⟨(errB_ok (exB_at c.more 2 rfl : errB K "BadLine" ["line", "column"] = true)).xf, (errB_ok (exB_at c.more 2 rfl : errB K "BadLine" ["line", "column"] = true)).no _ (by decide)⟩ }
theorem tabs_in {K : PySem.W.Frag} : ∀ p ∈ tabs K, ∃ q ∈ tabDefs, p.1 = (He.cT K q).2 := by
  intro p hp
  exact absurd hp (by simp [tabs])
theorem hid0_sqL {K : PySem.W.Frag} {H : Hp} {a : Addr} {xs : List V} (h : SqL K H a xs) : SqL K (hid (fun _ => false) H) a xs := by
  have one : ∀ o, H a = some o → tblB o = false → hid (fun _ => false) H a = some o := fun o e n => hid_of rfl e n
  rcases h with (h | ⟨o, h⟩) | h
  · exact .inl (.inl (one _ h rfl))
  · exact .inl (.inr ⟨o, one _ h rfl⟩)
  · exact .inr h
theorem law_at {w : World} {K : PySem.W.Frag} {h : Heap} {mg : Str → Option Value} {fa : Addr} (X : K.In h) (G : h.Ns mainGlobals mg) (hlaw : mg ("law" : Str) = some (.ref fa)) (c : He.SaysX hfa hfn [] tabDefs exB w h K) : LamX.LawAtS PySem.Challenge.rw_trunkcall_k49_log_texts w K (L2.CX (PySem.Challenge.rw_trunkcall_k49_log_texts).prog w) 8 63 "script" mg fa h := by
  have T := tx_of X G c
  obtain ⟨fd, FD, F⟩ := law_fn (P := (PySem.Challenge.rw_trunkcall_k49_log_texts).prog) (w := w) T
  have e := hlaw.symm.trans T.g_law
  cases e
  have b := FunD.bindsA (ps := ["script"]) FD fun _ _ _ _ _ _ us hl => match us, hl with | [_], _ => rfl
  refine ⟨fd, tabDefs.map (He.cT K), spD K (LK K) 1 C_law, fun p hp => ?_, fun p hp => ?_, fun p hp => ?_, fun s v => b s [v] rfl, fun H a ns hl hb hT hS => ?_, fun base KX G TB => F base fun p hp => TB _ (List.mem_map.mpr ⟨p, hp, rfl⟩)⟩
  · obtain ⟨q, hq, rfl⟩ := List.mem_map.mp hp
    exact c.empty q hq
  · obtain ⟨q, hq, rfl⟩ := List.mem_map.mp hp
    exact c.out q hq
  · obtain ⟨q, hq, rfl⟩ := List.mem_map.mp hp
    exact PySem.W.codeHd_of_K X (c.hd q hq)
  · refine ⟨fun _ => false, [.d (.list (ns.map .int))], fun sv => sv = .d (.bool true), fun _ => False, rfl, ⟨(fun _ z => nomatch z), fun p hp => ?_⟩, .cons ⟨Dp.lst (hid0_sqL hS) (ints_dp ns), rfl⟩ .nil, ⟨ns, rfl, hl, hb, rfl⟩, fun sv v L' H' e _ _ o => ?_, fun _ _ _ _ _ z => z.elim⟩
    · obtain ⟨q, hq, e⟩ := tabs_in p hp
      exact LamX.TabS.nil (by rw [e]; exact hT _ (List.mem_map.mpr ⟨q, hq, rfl⟩))
    · subst e
      cases o
      rfl
end TK
open PySem PySem.W PySem.Calls PyProof.Rows
theorem PySem.Challenge.cw_trunkcall_k49_log_texts_holds : PySem.Challenge.rw_trunkcall_k49_log_texts.Holds := by
  w_on; o_law
  refine HandSHeadRun.head_any (r := OpenLaw.row PySem.Challenge.rw_trunkcall_k49_log_texts) (q := view (OpenLaw.row PySem.Challenge.rw_trunkcall_k49_log_texts).prog [53]) (H := TK.hk) (ob := TK.hob) (M := 4000) (loose := TK.loose) (d := HandSHeadRun.topDef (OpenLaw.row PySem.Challenge.rw_trunkcall_k49_log_texts).prog 53) (kwd := []) TK.hob_eq
    (by kernel_rfl) (fun s => by kernel_rfl) TK.hrun (by kernel_rfl) (by kernel_rfl) (by kernel_rfl) (by rfl) (by first | assumption | decide +kernel) (by decide +kernel) ⟨rfl, rfl, rfl, rfl, rfl, by decide +kernel⟩ ?hw ?hc
  case hw => w_witness2
  case hc =>
    refine LamX.walk_ofTsE (l := PySem.Challenge.rw_trunkcall_k49_log_texts) (n := 63) (k := 8) (x := "script") (CX := fun w => L2.CX (PySem.Challenge.rw_trunkcall_k49_log_texts).prog w) rfl (by decide) (by kernel_rfl) ⟨rfl, by decide, by decide⟩ ?F (fun w H s e s' z => ?E)
    case E => obtain ⟨_, _, _, _, _, _, _, _, _, _, _, _, z⟩ := z; exact z
    case F =>
      intro w mg fa h Y G hmg0
      obtain ⟨K, KX, c⟩ := Y
      have hmg : mg ("law" : PySem.Str) = some (.ref fa) := by
        have e : (HandSHeadRun.topDef (OpenLaw.row PySem.Challenge.rw_trunkcall_k49_log_texts).prog 53).name = ("law" : PySem.Str) := by kernel_rfl
        rw [← e]
        exact hmg0
      exact ⟨K, KX, TK.law_at KX G hmg c⟩
