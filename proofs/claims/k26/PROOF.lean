import PyProof.Rows.All
import Wide.All
import OpenK.AllK
import Wide.FinOn
import HandS.ForMost
import HandS.ForExc
import HandS.AnyAll
import HandS.Strs
import HandS.Lambda
import KE.LtData
import HandS.TupAny
import HandS.TupMul
import HandS.Deep
import HandS.Wide
import KE.DataCmp
import HandS.Flow
import KE.SortData
import HandS.SortOrd
import HandS.IsInst
import HandS.RaiseMore
import HandS.Style
import KE.KDictKeyed
import KE.KDictCopyH
import PyProof.EnumMake
import KE.GoesMore
import HandS.DictTup
import HandS.Zip
import HandS.Rev
import HandS.RevRange
import HandS.WideBits
import HandS.GenList
import KE.SortKeyHeap
import HandS.Defaults
import HandS.ExcOwn
import HandS.EndTab
import HandS.HeadEnd
import HandS.Head0
import HandS.Head1
import HandS.Head2
import HandS.HeadHook1
import HandS.HeadHook2
import HandS.HeadHook3
import HandS.HeadHook4
import KE.DatumOrd
import HandS.Text
import PyProof.Rows.StrFin3
import PySem.Challenge.RW_matroidworks_k26_polynomials
set_option Elab.async false
set_option linter.all false
set_option maxRecDepth 100000
namespace Dx
open PySem PySem.Spec PyProof.Rows L2

/-! ### plain data -/
inductive D where
  | non | bl (b : Bool) | int (i : Int) | str (s : Str)
  | tup (ds : List D) | lst (ds : List D) | scr (ds : List D) | ftup (ds : List D)
  | dct (t : Bool) (ks vs : List D) | set (ds : List D) | mat (m b r : D)
  deriving Inhabited

/-- a result: a value, an error by its number, or nothing that is told -/
inductive Res (α : Type) where
  | ok (a : α) | exc (n : Nat) | bad

/-! ### heaps: what is hidden, what grows -/
def isExt : HO → Bool
  | .ext _ => true
  | _ => false
def hide (H : Hp) (O : Addr → Bool) : Hp := fun a => match H a with
  | some o => if O a = true ∧ isExt o = false then none else some o
  | none => none
theorem hide_of {H : Hp} {O : Addr → Bool} {a : Addr} (h : O a = false) : hide H O a = H a := by
  unfold hide
  cases e : H a with
  | none => rfl
  | some o =>
    show (if O a = true ∧ isExt o = false then none else some o) = some o
    rw [if_neg (fun z => by rw [h] at z; cases z.1)]
theorem hide_some' {H : Hp} {O : Addr → Bool} {a : Addr} {o : HO} (h : hide H O a = some o) : (O a = false ∨ isExt o = true) ∧ H a = some o := by
  unfold hide at h
  cases e : H a with
  | none => rw [e] at h; cases h
  | some u =>
    rw [e] at h
    have h : (if O a = true ∧ isExt u = false then none else some u) = some o := h
    split at h
    · cases h
    · rename_i n
      cases h
      refine ⟨?_, rfl⟩
      cases e1 : O a with
      | false => exact .inl rfl
      | true =>
        cases e2 : isExt o with
        | true => exact .inr rfl
        | false => exact absurd ⟨e1, e2⟩ n
theorem hide_mk {H : Hp} {O : Addr → Bool} {a : Addr} {o : HO} (h : O a = false ∨ isExt o = true) (e : H a = some o) : hide H O a = some o := by
  unfold hide
  rw [e]
  show (if O a = true ∧ isExt o = false then none else some o) = some o
  rw [if_neg]
  intro z
  rcases h with h | h
  · rw [h] at z; cases z.1
  · rw [h] at z; cases z.2
theorem hide_some {H : Hp} {O : Addr → Bool} {a : Addr} {o : HO} (h : hide H O a = some o) (n : isExt o = false := by rfl) : O a = false ∧ H a = some o := by
  obtain ⟨h1, h2⟩ := hide_some' h
  refine ⟨?_, h2⟩
  rcases h1 with h1 | h1
  · exact h1
  · rw [n] at h1; cases h1
/-- the name of the code object that is made at a place of the text -/
class Nm where
  nm : Nat → Nat → Str
variable [Nm]
/-- a table's code objects are known -/
def TbOk (H : Hp) (ps : Array Value) : Prop := TriplesOk ps.toList ∧ ∀ (pos : Pos) (cv : Value), codeAmong pos ps.toList = some cv → ∃ c, cv = .ref c ∧ H c = some (LamX.CodeO c (Nm.nm pos.line pos.col))
theorem TbOk.keep {H H' : Hp} {ps : Array Value} (t : TbOk H ps) (k : ∀ c phi, H c = some (.ext phi) → H' c = some (.ext phi)) : TbOk H' ps :=
  ⟨t.1, fun pos cv h => let ⟨c, h1, h2⟩ := t.2 pos cv h; ⟨c, h1, k c _ h2⟩⟩
/-- one thing changes that is no code object -/
theorem TbOk.at {H H' : Hp} {d : Addr} {ps : Array Value} (k : ∀ c, c ≠ d → H' c = H c) (hd : ∀ phi, H d ≠ some (.ext phi)) (t : TbOk H ps) : TbOk H' ps :=
  t.keep fun c phi h => (k c fun z => hd phi (z ▸ h)).trans h
theorem TbOk.hide {H : Hp} {O : Addr → Bool} {ps : Array Value} : TbOk (hide H O) ps ↔ TbOk H ps :=
  ⟨fun t => t.keep fun c phi h => (hide_some' h).2, fun t => t.keep fun c phi h => hide_mk (.inr rfl) h⟩
/-- all but the tables stays; tables grow -/
structure Ext (H H' : Hp) : Prop where
  keep : ∀ a o, H a = some o → (∀ ps, o ≠ .tbl ps) → H' a = some o
  tab : ∀ a ps, H a = some (.tbl ps) → ∃ ps', H' a = some (.tbl ps') ∧ (TbOk H ps → TbOk H' ps')
theorem Ext.code {H H' : Hp} (e : Ext H H') : ∀ c phi, H c = some (.ext phi) → H' c = some (.ext phi) := fun c phi h => e.keep c _ h fun ps z => nomatch z
theorem Ext.refl (H : Hp) : Ext H H := ⟨fun _ _ h _ => h, fun _ ps h => ⟨ps, h, id⟩⟩
theorem Ext.trans {H H1 H2 : Hp} (a : Ext H H1) (b : Ext H1 H2) : Ext H H2 :=
  ⟨fun c o h n => b.keep c o (a.keep c o h n) n, fun c ps h => by
    obtain ⟨ps1, h1, t1⟩ := a.tab c ps h
    obtain ⟨ps2, h2, t2⟩ := b.tab c ps1 h1
    exact ⟨ps2, h2, fun z => t2 (t1 z)⟩⟩
theorem Ext.new {H : Hp} {p : Addr} {o : HO} (h : H p = none) : Ext H (upd H p o) :=
  ⟨fun a u e _ => by rw [upd_ne (ne_of_none e h)]; exact e, fun a ps e => ⟨ps, by rw [upd_ne (ne_of_none e h)]; exact e, fun t => t.keep fun c phi e => by rw [upd_ne (ne_of_none e h)]; exact e⟩⟩
/-- what H does not know may change -/
theorem Ext.mut {H H' : Hp} {p : Addr} {o : HO} (e : Ext H H') (h : H p = none) (hm : ∀ phi, H' p ≠ some (.ext phi)) : Ext H (upd H' p o) :=
  ⟨fun a u ha n => by rw [upd_ne (ne_of_none ha h)]; exact e.keep a u ha n, fun a ps ha => by
    obtain ⟨ps1, h1, t1⟩ := e.tab a ps ha
    exact ⟨ps1, by rw [upd_ne (ne_of_none ha h)]; exact h1, fun t => (t1 t).keep fun c phi e => by rw [upd_ne (show c ≠ p from fun z => hm phi (z ▸ e))]; exact e⟩⟩
theorem Ext.hide {H H' : Hp} (e : Ext H H') (O : Addr → Bool) : Ext (hide H O) (hide H' O) :=
  ⟨fun a o h n => by
    obtain ⟨h1, h2⟩ := hide_some' h
    exact hide_mk h1 (e.keep a o h2 n), fun a ps h => by
    obtain ⟨h1, h2⟩ := hide_some h
    obtain ⟨ps1, q1, q2⟩ := e.tab a ps h2
    exact ⟨ps1, by rw [hide_of h1]; exact q1, fun t => TbOk.hide.mpr (q2 (TbOk.hide.mp t))⟩⟩
theorem Ext.unhide {H : Hp} {O O' : Addr → Bool} (h : ∀ a, O' a = true → O a = true) : Ext (Dx.hide H O) (Dx.hide H O') := by
  have k : ∀ a o, Dx.hide H O a = some o → Dx.hide H O' a = some o := fun a o e => by
    obtain ⟨h1, h2⟩ := hide_some' e
    refine hide_mk ?_ h2
    rcases h1 with h1 | h1
    · refine .inl ?_
      cases q : O' a with
      | false => rfl
      | true => rw [h a q] at h1; cases h1
    · exact .inr h1
  exact ⟨fun a o e _ => k a o e, fun a ps e => ⟨ps, k a _ e, fun t => t.keep fun c phi e => k c _ e⟩⟩
theorem Ext.ofHide {H : Hp} {O : Addr → Bool} : Ext (Dx.hide H O) H :=
  ⟨fun a o h _ => (hide_some' h).2, fun a ps h => ⟨ps, (hide_some' h).2, fun t => TbOk.hide.mp t⟩⟩
theorem Ext.free {H H' : Hp} (e : Ext H H') {p : Addr} (h : H' p = none) : H p = none := by
  cases q : H p with
  | none => rfl
  | some o =>
    by_cases n : ∃ ps, o = .tbl ps
    · obtain ⟨ps, rfl⟩ := n
      obtain ⟨ps1, h1, _⟩ := e.tab p ps q
      rw [h] at h1; cases h1
    · have := e.keep p o q fun ps z => n ⟨ps, z⟩
      rw [h] at this; cases this
theorem Ext.rd {H H' : Hp} (e : Ext H H') {a : Addr} {u : HO} (n : ∀ ps, u ≠ .tbl ps) (h : Rd H a u) : Rd H' a u := by
  rcases h with h | ⟨o, h⟩
  · exact .inl (e.keep a u h n)
  · exact .inr ⟨o, e.keep a _ h fun ps z => nomatch z⟩
theorem Ext.sqL {K : PySem.W.Frag} {H H' : Hp} (e : Ext H H') {a : Addr} {xs : List V} (h : SqL K H a xs) : SqL K H' a xs := by
  rcases h with h | h
  · exact .inl (e.rd (fun ps z => nomatch z) h)
  · exact .inr h
theorem Ext.sqT {K : PySem.W.Frag} {H H' : Hp} (e : Ext H H') {a : Addr} {xs : List V} (h : SqT K H a xs) : SqT K H' a xs := by
  rcases h with h | h
  · exact .inl (e.rd (fun ps z => nomatch z) h)
  · exact .inr h

theorem rd_hide {H : Hp} {O : Addr → Bool} {a : Addr} {u : HO} (h : Rd (hide H O) a u) : Rd H a u := by
  rcases h with h | ⟨o, h⟩
  · exact .inl (hide_some' h).2
  · exact .inr ⟨o, (hide_some' h).2⟩

/-! ### what stands for what -/
/-- a key of a dict -/
def kD : Key → D
  | .inl i => .int i
  | .inr s => .str s
/-- the class of matroids -/
structure MatC where
  K : PySem.W.Frag
  w : World
  C : Addr
mutual
/-- v stands for d in H -/
def Rp (M : MatC) (H : Hp) : D → V → Prop
  | .non, v => v = .non
  | .bl b, v => v = .bl b
  | .int i, v => v = .int i
  | .str s, v => v = .str s
  | .tup ds, v => ∃ a vs, v = .ref a ∧ H a = some (.tup vs) ∧ RpL M H ds vs
  | .lst ds, v => ∃ a vs, v = .ref a ∧ H a = some (.lst vs) ∧ RpL M H ds vs
  | .ftup ds, v => ∃ a vs o, v = .ref a ∧ o.dict = none ∧ H a = some (.frz o (.tup vs)) ∧ RpL M H ds vs
  | .scr ds, v => ∃ a vs, v = .ref a ∧ SqL M.K H a vs ∧ RpL M H ds vs
  | .dct t ks vs, v => ∃ a ws, v = .ref a ∧ RpL M H vs ws ∧ (match t with
      | false => ∃ kvs : List (Key × V), Rd H a (.dK kvs) ∧ ks = kvs.map (fun p => kD p.1) ∧ ws = kvs.map (·.2)
      | true => ∃ kvs : List (List Key × V), Rd H a (.dT kvs) ∧ ks = kvs.map (fun p => .tup (p.1.map kD)) ∧ ws = kvs.map (·.2))
  | .set ds, v => ∃ a S n, v = .ref a ∧ H a = some (SetO M.w a S n) ∧ ∃ is : List Int, ds = is.map .int ∧ is.Nodup ∧ n = is.length ∧ ∀ i, S i = decide (i ∈ is)
  | .mat m b r, v => ∃ a dx fs vm vb vr, v = .ref a ∧ H a = some (.ins M.C dx fs) ∧ fs.lookup ("many" : Str) = some vm ∧ fs.lookup ("bases" : Str) = some vb ∧ fs.lookup ("ranks" : Str) = some vr ∧ Rp M H m vm ∧ Rp M H b vb ∧ Rp M H r vr
def RpL (M : MatC) (H : Hp) : List D → List V → Prop
  | [], vs => vs = []
  | d :: ds, vs => ∃ v r, vs = v :: r ∧ Rp M H d v ∧ RpL M H ds r
end
mutual
theorem Rp.mono {M : MatC} {H H' : Hp} (e : Ext H H') : ∀ (d : D) {v : V}, Rp M H d v → Rp M H' d v
  | .non, _, h => h
  | .bl _, _, h => h
  | .int _, _, h => h
  | .str _, _, h => h
  | .tup ds, v, h => by
    unfold Rp at h ⊢
    obtain ⟨a, vs, h1, h2, h3⟩ := h
    exact ⟨a, vs, h1, e.keep a _ h2 (fun ps z => nomatch z), RpL.mono e ds h3⟩
  | .lst ds, v, h => by
    unfold Rp at h ⊢
    obtain ⟨a, vs, h1, h2, h3⟩ := h
    exact ⟨a, vs, h1, e.keep a _ h2 (fun ps z => nomatch z), RpL.mono e ds h3⟩
  | .ftup ds, v, h => by
    unfold Rp at h ⊢
    obtain ⟨a, vs, o, h1, h0, h2, h3⟩ := h
    exact ⟨a, vs, o, h1, h0, e.keep a _ h2 (fun ps z => nomatch z), RpL.mono e ds h3⟩
  | .scr ds, v, h => by
    unfold Rp at h ⊢
    obtain ⟨a, vs, h1, h2, h3⟩ := h
    exact ⟨a, vs, h1, e.sqL h2, RpL.mono e ds h3⟩
  | .dct t ks vs, v, h => by
    unfold Rp at h ⊢
    obtain ⟨a, ws, h1, h2, h3⟩ := h
    refine ⟨a, ws, h1, RpL.mono e vs h2, ?_⟩
    cases t with
    | false => obtain ⟨kvs, h4, h5⟩ := h3; exact ⟨kvs, e.rd (fun ps z => nomatch z) h4, h5⟩
    | true => obtain ⟨kvs, h4, h5⟩ := h3; exact ⟨kvs, e.rd (fun ps z => nomatch z) h4, h5⟩
  | .set ds, v, h => by
    unfold Rp at h ⊢
    obtain ⟨a, S, n, h1, h2, h3⟩ := h
    exact ⟨a, S, n, h1, e.keep a _ h2 (fun ps z => nomatch z), h3⟩
  | .mat m b r, v, h => by
    unfold Rp at h ⊢
    obtain ⟨a, dx, fs, vm, vb, vr, h1, h2, h3, h4, h5, h6, h7, h8⟩ := h
    exact ⟨a, dx, fs, vm, vb, vr, h1, e.keep a _ h2 (fun ps z => nomatch z), h3, h4, h5, Rp.mono e m h6, Rp.mono e b h7, Rp.mono e r h8⟩
theorem RpL.mono {M : MatC} {H H' : Hp} (e : Ext H H') : ∀ (ds : List D) {vs : List V}, RpL M H ds vs → RpL M H' ds vs
  | [], _, h => h
  | d :: ds, vs, h => by
    unfold RpL at h ⊢
    obtain ⟨v, r, h1, h2, h3⟩ := h
    exact ⟨v, r, h1, Rp.mono e d h2, RpL.mono e ds h3⟩
end
theorem RpL.length {M : MatC} {H : Hp} : ∀ {ds : List D} {vs : List V}, RpL M H ds vs → vs.length = ds.length
  | [], vs, h => by unfold RpL at h; rw [h]; rfl
  | d :: ds, vs, h => by
    unfold RpL at h
    obtain ⟨v, r, rfl, _, h3⟩ := h
    rw [List.length_cons, List.length_cons, RpL.length h3]
theorem RpL.get {M : MatC} {H : Hp} : ∀ {ds : List D} {vs : List V} {i : Nat} {d : D}, RpL M H ds vs → ds[i]? = some d → ∃ v, vs[i]? = some v ∧ Rp M H d v
  | [], _, _, _, _, e => by simp at e
  | d :: ds, vs, 0, d', h, e => by
    unfold RpL at h
    obtain ⟨v, r, rfl, h2, h3⟩ := h
    simp at e; subst e
    exact ⟨v, rfl, h2⟩
  | d :: ds, vs, i + 1, d', h, e => by
    unfold RpL at h
    obtain ⟨v, r, rfl, h2, h3⟩ := h
    obtain ⟨w, q1, q2⟩ := RpL.get (i := i) (d := d') h3 (by simpa using e)
    exact ⟨w, by simpa using q1, q2⟩
theorem RpL.getV {M : MatC} {H : Hp} : ∀ {ds : List D} {vs : List V} {i : Nat} {v : V}, RpL M H ds vs → vs[i]? = some v → ∃ d, ds[i]? = some d ∧ Rp M H d v
  | [], vs, _, _, h, e => by unfold RpL at h; subst h; simp at e
  | d :: ds, vs, 0, v', h, e => by
    unfold RpL at h
    obtain ⟨v, r, rfl, h2, h3⟩ := h
    simp at e; subst e
    exact ⟨d, rfl, h2⟩
  | d :: ds, vs, i + 1, v', h, e => by
    unfold RpL at h
    obtain ⟨v, r, rfl, h2, h3⟩ := h
    obtain ⟨w, q1, q2⟩ := RpL.getV (i := i) (v := v') h3 (by simpa using e)
    exact ⟨w, by simpa using q1, q2⟩
theorem RpL.nil {M : MatC} {H : Hp} : RpL M H [] [] := by unfold RpL; rfl
theorem RpL.cons {M : MatC} {H : Hp} {d : D} {ds : List D} {v : V} {vs : List V} (h : Rp M H d v) (t : RpL M H ds vs) : RpL M H (d :: ds) (v :: vs) := by
  unfold RpL; exact ⟨v, vs, rfl, h, t⟩
theorem RpL.append {M : MatC} {H : Hp} : ∀ {ds es : List D} {vs ws : List V}, RpL M H ds vs → RpL M H es ws → RpL M H (ds ++ es) (vs ++ ws)
  | [], _, vs, _, h, t => by unfold RpL at h; subst h; exact t
  | d :: ds, _, vs, _, h, t => by
    unfold RpL at h
    obtain ⟨v, r, rfl, h2, h3⟩ := h
    exact RpL.cons h2 (RpL.append h3 t)
theorem RpL.take {M : MatC} {H : Hp} : ∀ {ds : List D} {vs : List V} (n : Nat), RpL M H ds vs → RpL M H (ds.take n) (vs.take n)
  | ds, vs, 0, h => by simp only [List.take_zero]; exact .nil
  | [], vs, n + 1, h => by unfold RpL at h; subst h; simp only [List.take_nil]; exact .nil
  | d :: ds, vs, n + 1, h => by
    unfold RpL at h
    obtain ⟨v, r, rfl, h2, h3⟩ := h
    exact RpL.cons h2 (RpL.take n h3)
theorem RpL.drop {M : MatC} {H : Hp} : ∀ {ds : List D} {vs : List V} (n : Nat), RpL M H ds vs → RpL M H (ds.drop n) (vs.drop n)
  | ds, vs, 0, h => h
  | [], vs, n + 1, h => by unfold RpL at h; subst h; simp only [List.drop_nil]; exact .nil
  | d :: ds, vs, n + 1, h => by
    unfold RpL at h
    obtain ⟨v, r, rfl, h2, h3⟩ := h
    exact RpL.drop n h3
theorem RpL.set {M : MatC} {H : Hp} {d' : D} {v' : V} (q : Rp M H d' v') : ∀ {ds : List D} {vs : List V} (i : Nat), RpL M H ds vs → RpL M H (ds.set i d') (vs.set i v')
  | [], vs, i, h => by unfold RpL at h; subst h; simp only [List.set_nil]; exact .nil
  | d :: ds, vs, 0, h => by
    unfold RpL at h
    obtain ⟨v, r, rfl, h2, h3⟩ := h
    exact RpL.cons q h3
  | d :: ds, vs, i + 1, h => by
    unfold RpL at h
    obtain ⟨v, r, rfl, h2, h3⟩ := h
    exact RpL.cons h2 (RpL.set q i h3)

/-! ### the frame's slots -/
/-- a slot: empty, shared data, a list or a dict of one's own -/
inductive Slot where
  | none | sh (d : D) | own (ds : List D) | ownD (t : Bool) (ks vs : List D)
abbrev DEnv := List Slot
/-- a slot's own address -/
def isOwn : Slot → Bool
  | .own _ => true
  | .ownD _ _ _ => true
  | _ => false
/-- what an own slot has at its address -/
def OwnAt (M : MatC) (H Hv : Hp) (a : Addr) : Slot → Prop
  | .own ds => ∃ vs, H a = some (.lst vs) ∧ RpL M Hv ds vs
  | .ownD false ks vs => ∃ kvs : List (Key × V), H a = some (.dK kvs) ∧ ks = kvs.map (fun p => kD p.1) ∧ RpL M Hv vs (kvs.map (·.2))
  | .ownD true ks vs => ∃ kvs : List (List Key × V), H a = some (.dT kvs) ∧ ks = kvs.map (fun p => .tup (p.1.map kD)) ∧ RpL M Hv vs (kvs.map (·.2))
  | _ => False
/-- lists and dicts that change -/
def mu : HO → Bool
  | .lst _ => true
  | .dK _ => true
  | .dT _ => true
  | _ => false
theorem mu_nt {o : HO} (h : mu o = true) : ∀ ps, o ≠ .tbl ps := fun ps z => by rw [z] at h; cases h
/-- H₀: the heap at the def's entry; B: hidden from the def; O: hidden now -/
structure EnvR (M : MatC) (T : List Addr) (H₀ : Hp) (B O : Addr → Bool) (σ : L2.St) (H : Hp) (env : DEnv) : Prop where
  ext : Ext H₀ H
  sub : ∀ a, B a = true → O a = true
  len : σ.length = env.length
  sh : ∀ (i : Nat) (d : D), env[i]? = some (Slot.sh d) → ∃ v, σ[i]? = some (some v) ∧ Rp M (hide H O) d v
  own : ∀ (i : Nat) s, env[i]? = some s → isOwn s = true → ∃ a, σ[i]? = some (some (.ref a)) ∧ H₀ a = none ∧ O a = true ∧ B a = false ∧ OwnAt M H (hide H O) a s
  dis : ∀ (i j : Nat) (s t : Slot) (a : Addr), env[i]? = some s → env[j]? = some t → isOwn s = true → isOwn t = true → σ[i]? = some (some (.ref a)) → σ[j]? = some (some (.ref a)) → i = j
  tabs : ∀ P ∈ T, ∃ ps, H P = some (.tbl ps) ∧ TbOk H ps
  trk : ∀ a, O a = true → ∃ o, H a = some o ∧ mu o = true
theorem OwnAt.mono {M : MatC} {H H' Hv Hv' : Hp} {a : Addr} {s : Slot} (e : Ext H H') (e' : Ext Hv Hv') (h : OwnAt M H Hv a s) : OwnAt M H' Hv' a s := by
  cases s with
  | none => exact h
  | sh d => exact h
  | own ds =>
    obtain ⟨vs, h1, h2⟩ := h
    exact ⟨vs, e.keep a _ h1 (fun ps z => nomatch z), RpL.mono e' ds h2⟩
  | ownD t ks vs =>
    cases t with
    | false =>
      obtain ⟨kvs, h1, h2, h3⟩ := h
      exact ⟨kvs, e.keep a _ h1 (fun ps z => nomatch z), h2, RpL.mono e' vs h3⟩
    | true =>
      obtain ⟨kvs, h1, h2, h3⟩ := h
      exact ⟨kvs, e.keep a _ h1 (fun ps z => nomatch z), h2, RpL.mono e' vs h3⟩
theorem EnvR.mono {M : MatC} {T : List Addr} {H₀ : Hp} {B O : Addr → Bool} {σ : L2.St} {H H' : Hp} {env : DEnv} (r : EnvR M T H₀ B O σ H env) (e : Ext H H') : EnvR M T H₀ B O σ H' env where
  ext := r.ext.trans e
  sub := r.sub
  len := r.len
  sh := fun i d h => by
    obtain ⟨v, h1, h2⟩ := r.sh i d h
    exact ⟨v, h1, Rp.mono (e.hide O) d h2⟩
  own := fun i s h1 h2 => by
    obtain ⟨a, q1, q2, q3, q4, q5⟩ := r.own i s h1 h2
    exact ⟨a, q1, q2, q3, q4, q5.mono e (e.hide O)⟩
  dis := r.dis
  tabs := fun P hP => by
    obtain ⟨ps, h1, h2⟩ := r.tabs P hP
    obtain ⟨ps', h3, h4⟩ := e.tab P ps h1
    exact ⟨ps', h3, h4 h2⟩
  trk := fun a h => let ⟨o, h1, h2⟩ := r.trk a h; ⟨o, e.keep a o h1 (mu_nt h2), h2⟩
/-- what is read: the thing itself may be hidden, what it holds is not -/
def BRp (M : MatC) (H : Hp) (O : Addr → Bool) : D → V → Prop
  | .lst ds, v => ∃ a vs, v = .ref a ∧ H a = some (.lst vs) ∧ RpL M (hide H O) ds vs
  | .dct t ks vs, v => ∃ a ws, v = .ref a ∧ RpL M (hide H O) vs ws ∧ (match t with
      | false => ∃ kvs : List (Key × V), Rd H a (.dK kvs) ∧ ks = kvs.map (fun p => kD p.1) ∧ ws = kvs.map (·.2)
      | true => ∃ kvs : List (List Key × V), Rd H a (.dT kvs) ∧ ks = kvs.map (fun p => .tup (p.1.map kD)) ∧ ws = kvs.map (·.2))
  | d, v => Rp M (hide H O) d v
theorem Rp.br {M : MatC} {H : Hp} {O : Addr → Bool} : ∀ {d : D} {v : V}, Rp M (hide H O) d v → BRp M H O d v
  | .non, _, h => h
  | .bl _, _, h => h
  | .int _, _, h => h
  | .str _, _, h => h
  | .tup _, _, h => h
  | .ftup _, _, h => h
  | .set _, _, h => h
  | .scr _, _, h => h
  | .mat _ _ _, _, h => h
  | .lst ds, v, h => by
    unfold Rp at h
    obtain ⟨a, vs, h1, h2, h3⟩ := h
    exact ⟨a, vs, h1, (hide_some h2).2, h3⟩
  | .dct t ks vs, v, h => by
    unfold Rp at h
    obtain ⟨a, ws, h1, h2, h3⟩ := h
    refine ⟨a, ws, h1, h2, ?_⟩
    cases t with
    | false => obtain ⟨kvs, h4, h5⟩ := h3; exact ⟨kvs, rd_hide h4, h5⟩
    | true => obtain ⟨kvs, h4, h5⟩ := h3; exact ⟨kvs, rd_hide h4, h5⟩
theorem BRp.mono {M : MatC} {H H' : Hp} {O : Addr → Bool} (e : Ext H H') : ∀ {d : D} {v : V}, BRp M H O d v → BRp M H' O d v
  | .non, _, h => Rp.mono (M := M) (e.hide O) .non h
  | .bl b, _, h => Rp.mono (M := M) (e.hide O) (.bl b) h
  | .int i, _, h => Rp.mono (M := M) (e.hide O) (.int i) h
  | .str s, _, h => Rp.mono (M := M) (e.hide O) (.str s) h
  | .tup ds, _, h => Rp.mono (M := M) (e.hide O) (.tup ds) h
  | .ftup ds, _, h => Rp.mono (M := M) (e.hide O) (.ftup ds) h
  | .set ds, _, h => Rp.mono (M := M) (e.hide O) (.set ds) h
  | .scr ds, _, h => Rp.mono (M := M) (e.hide O) (.scr ds) h
  | .mat m b r, _, h => Rp.mono (M := M) (e.hide O) (.mat m b r) h
  | .lst ds, v, h => by
    obtain ⟨a, vs, h1, h2, h3⟩ := h
    exact ⟨a, vs, h1, e.keep a _ h2 (fun ps z => nomatch z), RpL.mono (e.hide O) ds h3⟩
  | .dct t ks vs, v, h => by
    obtain ⟨a, ws, h1, h2, h3⟩ := h
    refine ⟨a, ws, h1, RpL.mono (e.hide O) vs h2, ?_⟩
    cases t with
    | false => obtain ⟨kvs, h4, h5⟩ := h3; exact ⟨kvs, e.rd (fun ps z => nomatch z) h4, h5⟩
    | true => obtain ⟨kvs, h4, h5⟩ := h3; exact ⟨kvs, e.rd (fun ps z => nomatch z) h4, h5⟩

/-! ### the judgements -/
/-- what a result asks behind an expression -/
def After {α : Type} (Ev : Nat → Hp → Prop) (r : Res α) (H : Hp) (P : α → Hp → Prop) : Prop := match r with
  | .ok a => ∀ H1, Ext H H1 → P a H1
  | .exc n => ∀ H1, Ext H H1 → Ev n H1
  | .bad => False
end Dx
namespace Dx
open PySem

/-! ### results -/
namespace Res
def bind {α β : Type} (r : Res α) (f : α → Res β) : Res β := match r with
  | .ok a => f a
  | .exc n => .exc n
  | .bad => .bad
instance : Monad Res where
  pure := .ok
  bind := bind
@[simp] theorem bind_ok {α β : Type} (a : α) (f : α → Res β) : ((Res.ok a) >>= f) = f a := rfl
@[simp] theorem bind_exc {α β : Type} (n : Nat) (f : α → Res β) : ((Res.exc n : Res α) >>= f) = .exc n := rfl
@[simp] theorem bind_bad {α β : Type} (f : α → Res β) : ((Res.bad : Res α) >>= f) = .bad := rfl
@[simp] theorem pure_eq {α : Type} (a : α) : (pure a : Res α) = .ok a := rfl
end Res

/-- within a comprehension nothing is raised -/
def noExc {α : Type} : Res α → Res α
  | .exc _ => .bad
  | r => r
@[simp] theorem noExc_ok {α : Type} (a : α) : noExc (.ok a) = .ok a := rfl
theorem noExc_of {α : Type} {r : Res α} {a : α} (h : noExc r = .ok a) : r = .ok a := by
  cases r with
  | ok b => exact h
  | exc n => cases h
  | bad => cases h
theorem noExc_ne {α : Type} {r : Res α} {n : Nat} : noExc r ≠ .exc n := by cases r <;> (intro h; cases h)
/-! ### data: for Python's own == and < -/
mutual
def pyD : D → Option PyData
  | .non => some .none
  | .bl b => some (.bool b)
  | .int i => some (.int i)
  | .str s => some (.str s)
  | .tup ds => (pyL ds).map .tuple
  | .ftup ds => (pyL ds).map .tuple
  | .lst ds => (pyL ds).map .list
  | _ => none
def pyL : List D → Option (List PyData)
  | [] => some []
  | d :: ds => match pyD d, pyL ds with
    | some x, some xs => some (x :: xs)
    | _, _ => none
end
def eqD (a b : D) : Option Bool := match pyD a, pyD b with
  | some x, some y => if SeqAt.shaped x = true ∧ SeqAt.shaped y = true then some (PyData.eqv x y) else none
  | _, _ => none
def notNone : PyData → Bool
  | .none => false
  | _ => true
def ordD (f : PyData → PyData → Bool) (a b : D) : Option Bool := match pyD a, pyD b with
  | some x, some y => if PySem.W.alike x y = true ∧ notNone x = true ∧ x.depth ≤ 60 then some (f x y) else none
  | _, _ => none
def ltD (a b : D) : Option Bool := ordD PySem.W.dataLt a b
/-- truth -/
def truD : D → Option Bool
  | .non => some false
  | .bl b => some b
  | .int i => some (i != 0)
  | .tup ds => some (!ds.isEmpty)
  | .lst ds => some (!ds.isEmpty)
  | _ => none
def optR {α : Type} : Option α → Res α
  | some a => .ok a
  | none => .bad
@[simp] theorem optR_some {α : Type} (a : α) : optR (some a) = .ok a := rfl

/-! ### the clean text -/
inductive Lit where
  | non | bl (b : Bool) | int (i : Int) | str (s : Str)
inductive Op where
  | add | sub | mul | fdiv | mod | pow | shl | shr | band | bor | bxor
inductive Cm where
  | eq | ne | lt | le | gt | ge | isN | notN | isin | nin
/-- a target -/
inductive Tg where
  | name (i : Nat) | tup (l : List Tg)
/-- built-ins by their names -/
inductive Bi where
  | len | abs | sum | min | max | tuple | tupleF | list | set | dict | int | str | sorted | isInt | isBool | isStr | isTuple | isMat
mutual
inductive E where
  | var (i : Nat) | lit (l : Lit)
  | bin (o : Op) (a b : E) | neg (a : E) | inv (a : E) | not (a : E)
  | andE (a b : E) | orE (a b : E)
  | cmp (o : Cm) (a b : E) | chain (o o' : Cm) (a b c : E)
  | ife (c : Tst) (a b : E)
  | tup (l : List E) | tupF (l : List E) | lst (l : List E) | newK | newT
  | idx (a b : E) | slc (a : E) (lo hi : Option E)
  | call (f : Nat) (l : List E)
  | bi (f : Bi) (l : List E)
  | bitlen (a : E) | get (d k x : E) | join (s a : E) | fld (a : E) (k : Nat)
  | lc (elt : E) (t : Tg) (it : It) (cs : List Tst) (own : List Nat)
  | allG (neg : Bool) (elt : E) (t : Tg) (it : It) (cs : List Tst) (own : List Nat)
  | sortK (a : E) (own : List Nat) (t : Nat) (key : E)
inductive It where
  | seq (a : E) | rng (l : List E) | rev (a : E) | revR (l : List E) | enum (a : E) | zip (a b : E) | keys (i : Nat) | items (i : Nat)
/-- tests -/
inductive Tst where
  | e (a : E) | not (t : Tst) | and (t u : Tst) | or (t u : Tst)
end

def litD : Lit → D
  | .non => .non
  | .bl b => .bl b
  | .int i => .int i
  | .str s => .str s
def small (i : Int) : Bool := decide (-(2 ^ 64) < i) && decide (i < 2 ^ 64)
def fits (n : Nat) : Bool := decide (n ≤ sizeLine)
def opD : Op → D → D → Res D
  | .add, .int i, .int j => .ok (.int (i + j))
  | .add, .str x, .str y => if fits (x.length + y.length) then .ok (.str (x ++ y)) else .bad
  | .add, .lst x, .lst y => if fits (x.length + y.length) then .ok (.lst (x ++ y)) else .bad
  | .add, .tup x, .tup y => if fits (x.length + y.length) then .ok (.tup (x ++ y)) else .bad
  | .sub, .int i, .int j => .ok (.int (i - j))
  | .mul, .int i, .int j => if small i || small j then .ok (.int (i * j)) else .bad
  | .mul, .lst x, .int k => if decide (0 ≤ k) && decide (k ≤ 1000) && decide (x.length ≤ 1000) then .ok (.lst (List.replicate k.toNat x).flatten) else .bad
  | .mul, .tup x, .int k => if decide (0 ≤ k) && decide (k ≤ 1000) && decide (x.length ≤ 1000) then .ok (.tup (List.replicate k.toNat x).flatten) else .bad
  | .fdiv, .int i, .int j => if decide (j ≠ 0) && decide (j.natAbs < 1073741824) then .ok (.int (i.fdiv j)) else .bad
  | .mod, .int i, .int j => if decide (j ≠ 0) then .ok (.int (i.fmod j)) else .bad
  | .pow, .int i, .int j => if decide (0 ≤ j) && decide (j ≤ 1000000) && decide (i.natAbs < 2 ^ 64) then .ok (.int (i ^ j.toNat)) else .bad
  | .shl, .int i, .int j => if decide (0 ≤ j) && decide (j ≤ 1000000) && decide (i.natAbs < 2 ^ 64) then .ok (.int (i * 2 ^ j.toNat)) else .bad
  | .shr, .int i, .int j => if decide (0 ≤ j) then .ok (.int (i / 2 ^ j.toNat)) else .bad
  | .band, .int i, .int j => .ok (.int (Builtin.bitAnd i j))
  | .bor, .int i, .int j => .ok (.int (Builtin.bitOr i j))
  | .bxor, .int i, .int j => .ok (.int (Builtin.bitXor i j))
  | _, _, _ => .bad
def items? : D → Option (List D)
  | .tup ds => some ds
  | .ftup ds => some ds
  | .lst ds => some ds
  | _ => none
def sameKind : D → D → Bool
  | .tup _, .tup _ => true
  | .lst _, .lst _ => true
  | _, _ => false
/-! keys of dicts -/
def atomEq : D → D → Bool
  | .int i, .int j => decide (i = j)
  | .str s, .str t => decide (s = t)
  | _, _ => false
def atomsEq : List D → List D → Bool
  | [], [] => true
  | x :: xs, y :: ys => atomEq x y && atomsEq xs ys
  | _, _ => false
def keyEq : D → D → Bool
  | .tup xs, .tup ys => atomsEq xs ys
  | x, y => atomEq x y
def keyK : D → Bool
  | .int _ => true
  | .str _ => true
  | _ => false
def keyT : D → Bool
  | .tup ds => ds.all keyK
  | _ => false
def findK (ks : List D) (k : D) : Option Nat := ks.findIdx? fun q => keyEq q k
/-- a key that fits the keys of a dict -/
def fitK (t : Bool) (k : D) : Bool := if t then keyT k else keyK k
def anyEq (x : D) (ds : List D) : Option Bool := match pyD x, pyL ds with
  | some p, some ps => if SeqAt.shaped p = true ∧ SeqAt.shaped (.list ps) = true then some (ps.any fun z => PyData.eqv z p) else none
  | _, _ => none
def isNonD : D → Bool
  | .non => true
  | _ => false
/-- is x among the keys -/
def cmD : Cm → D → D → Res Bool
  | .eq, a, b => optR (eqD a b)
  | .ne, a, b => optR ((eqD a b).map (!·))
  | .lt, a, b => optR (ordD (fun x y => PySem.W.dataLt x y) a b)
  | .gt, a, b => optR (ordD (fun x y => PySem.W.dataLt y x) a b)
  | .le, a, b => optR (ordD (fun x y => !PySem.W.dataLt y x) a b)
  | .ge, a, b => optR (ordD (fun x y => !PySem.W.dataLt x y) a b)
  | .isN, a, .non => .ok (isNonD a)
  | .notN, a, .non => .ok (!isNonD a)
  | .isin, a, .tup ds => optR (anyEq a ds)
  | .isin, a, .lst ds => optR (anyEq a ds)
  | .isin, a, .dct t ks _ => if fitK t a then .ok (findK ks a).isSome else .bad
  | .isin, .int i, .set ds => .ok (ds.any fun d => atomEq d (.int i))
  | .nin, a, .tup ds => optR ((anyEq a ds).map (!·))
  | .nin, a, .lst ds => optR ((anyEq a ds).map (!·))
  | .nin, a, .dct t ks _ => if fitK t a then .ok (!(findK ks a).isSome) else .bad
  | .nin, .int i, .set ds => .ok (!ds.any fun d => atomEq d (.int i))
  | _, _, _ => .bad
def ixD (n : Nat) (i : Int) : Option Nat := L2.ixN n i
def idxD : D → D → Res D
  | .tup ds, .int i => optR ((L2.atI ds i))
  | .lst ds, .int i => optR ((L2.atI ds i))
  | .ftup ds, .int i => optR ((L2.atI ds i))
  | .scr ds, .int i => optR ((L2.atI ds i))
  | .dct t ks vs, k => if fitK t k then match findK ks k with
    | some i => optR vs[i]?
    | none => .bad
    else .bad
  | _, _ => .bad
def cutL (ds : List D) (lo hi : Option Int) : List D := (ds.drop (HT.sIx ds.length 0 lo)).take (HT.sIx ds.length ds.length hi - HT.sIx ds.length 0 lo)
def slcD : D → Option Int → Option Int → Res D
  | .tup ds, lo, hi => .ok (.tup (cutL ds lo hi))
  | .lst ds, lo, hi => .ok (.lst (cutL ds lo hi))
  | _, _, _ => .bad
def intsD : List D → Option (List Int)
  | [] => some []
  | .int i :: r => (intsD r).map (i :: ·)
  | _ :: _ => none
/-- the order of sorted: stable, by <; of any data of one kind -/
def pyE (d : D) : PyData := (pyD d).getD .none
def leD (a b : D) : Bool := !PySem.W.dataLt (pyE b) (pyE a)
def tup1 : PyData → Bool
  | .tuple (_ :: _) => true
  | _ => false
def flat1 : PyData → Bool
  | .tuple _ => false
  | .none => false
  | _ => true
def sortOk (ds : List D) : Bool := (ds.all fun d => (pyD d).isSome && decide ((pyE d).depth ≤ 60)) && (ds.all fun a => ds.all fun b => PySem.W.alike (pyE a) (pyE b)) &&
  ((ds.all fun d => tup1 (pyE d)) || (ds.all fun d => flat1 (pyE d)))
def canSort (ds : List D) : Bool := (sortOk ds || decide (ds.length ≤ 1)) && fits ds.length
def sortD (ds : List D) : Option (List D) := if canSort ds = true then some (ds.mergeSort leD) else none
/-- the kind of a value that isinstance is told of -/
def kindD : D → Option Nat
  | .non => some 0
  | .bl _ => some 1
  | .int _ => some 2
  | .str _ => some 3
  | .tup _ => some 4
  | .ftup _ => some 4
  | .lst _ => some 5
  | _ => none
/-- a dict with a value at a key -/
def putL (ks vs : List D) (k v : D) : List D × List D :=
  if (ks.any fun q => keyEq q k) = true then (ks, (ks.zip vs).map fun p => if keyEq p.1 k = true then v else p.2) else (ks ++ [k], vs ++ [v])
/-- the pairs of which a dict is made -/
def pairsD : List D → Option (List (D × D))
  | [] => some []
  | .tup [k, v] :: r => if keyT k = true then (pairsD r).map ((k, v) :: ·) else none
  | _ :: _ => none
def dictL (ps : List (D × D)) : List D × List D := ps.foldl (fun acc p => putL acc.1 acc.2 p.1 p.2) ([], [])
def dictD (ds : List D) : Res D := match pairsD ds with
  | some ps => if fits ps.length = true then .ok (.dct true (dictL ps).1 (dictL ps).2) else .bad
  | none => .bad
/-- the hash of a tuple of whole numbers -/
def hashD : D → Option Int
  | .tup ds => (intsD ds).map fun is => reduceHash (Builtin.Tuple.tupleHashOf (is.map hashInt))
  | _ => none
def hashesD : List D → Option (List Int)
  | [] => some []
  | d :: r => match hashD d, hashesD r with
    | some h, some hs => some (h :: hs)
    | _, _ => none
def hashOk (ks : List D) : Bool := match hashesD ks with
  | some hs => decide hs.Nodup && fits ks.length
  | none => false
def biD : Bi → List D → Res D
  | .dict, [.ftup ds] => dictD ds
  | .dict, [.lst ds] => dictD ds
  | .dict, [.dct true ks vs] => if hashOk ks = true then .ok (.dct true ks vs) else .bad
  | .tupleF, [.lst ds] => .ok (.ftup ds)
  | .len, [.tup ds] => .ok (.int ds.length)
  | .len, [.lst ds] => .ok (.int ds.length)
  | .len, [.ftup ds] => .ok (.int ds.length)
  | .len, [.scr ds] => .ok (.int ds.length)
  | .len, [.str s] => if fits s.length then .ok (.int s.length) else .bad
  | .abs, [.int i] => .ok (.int (if i < 0 then -i else i))
  | .sum, [.lst ds] => match intsD ds with
    | some ns => .ok (.int ns.sum)
    | none => .bad
  | .max, [.int i, .int j] => .ok (.int (if j > i then j else i))
  | .min, [.int i, .int j] => .ok (.int (if j < i then j else i))
  | .max, [.lst ds] => match intsD ds with
    | some (n :: ns) => .ok (.int (ns.foldl max n))
    | _ => .bad
  | .min, [.lst ds] => match intsD ds with
    | some (n :: ns) => .ok (.int (ns.foldl min n))
    | _ => .bad
  | .tuple, [.lst ds] => .ok (.tup ds)
  | .tuple, [.tup ds] => .ok (.tup ds)
  | .list, [.lst ds] => .ok (.lst ds)
  | .list, [.tup ds] => .ok (.lst ds)
  | .int, [.int i] => .ok (.int i)
  | .int, [.bl b] => .ok (.int (if b then 1 else 0))
  | .str, [.int i] => if i.natAbs.log2 < 1920 then .ok (.str (toString i)) else .bad
  | .sorted, [.lst ds] => match sortD ds with
    | some es => .ok (.lst es)
    | none => .bad
  | .isInt, [d] => optR ((kindD d).map fun k => .bl (k == 2 || k == 1))
  | .isBool, [d] => optR ((kindD d).map fun k => .bl (k == 1))
  | .isStr, [d] => optR ((kindD d).map fun k => .bl (k == 3))
  | .isTuple, [d] => optR ((kindD d).map fun k => .bl (k == 4))
  | .isMat, [.mat _ _ _] => .ok (.bl true)
  | .isMat, [d] => optR ((kindD d).map fun _ => .bl false)
  | _, _ => .bad
def getS (env : DEnv) (i : Nat) : Res D := match env[i]? with
  | some (.sh d) => .ok d
  | some (.own ds) => .ok (.lst ds)
  | some (.ownD t ks vs) => .ok (.dct t ks vs)
  | _ => .bad
/-- the value of e is nobody's own -/
def kp : E → DEnv → Bool
  | .var i, env => match env[i]? with
    | some (.sh _) => true
    | _ => false
  | .ife _ a b, env => kp a env && kp b env
  | .andE _ b, env => kp b env
  | .orE _ b, env => kp b env
  | _, _ => true
def kpAll : List E → DEnv → Bool
  | [], _ => true
  | e :: l, env => kp e env && kpAll l env
/-! a target takes a value -/
mutual
def tgD : Tg → D → DEnv → Res DEnv
  | .name i, d, env => .ok (env.set i (.sh d))
  | .tup l, .tup ds, env => tgL l ds env
  | .tup _, _, _ => .bad
def tgL : List Tg → List D → DEnv → Res DEnv
  | [], [], env => .ok env
  | t :: l, d :: ds, env => (tgD t d env).bind (tgL l ds)
  | _, _, _ => .bad
end
def wipeE (env : DEnv) : List Nat → DEnv
  | [] => env
  | v :: vs => (wipeE env vs).set v .none
def rangeD (lo hi : Int) : List D := (List.range (hi - lo).toNat).map fun i => .int (lo + (i : Nat))
def inR (i : Int) : Bool := decide (-(2 ^ 62) ≤ i) && decide (i < 2 ^ 62)
def downD (i j : Int) : List D := (List.range (i - j).toNat).map fun k => .int (i - (k : Nat))
def rngG : List D → Res (List D)
  | [.int j] => if inR j then .ok (rangeD 0 j) else .bad
  | [.int i, .int j] => if inR i && inR j then .ok (rangeD i j) else .bad
  | [.int i, .int j, .int c] => if decide (c = -1) && (inR i && inR j) then .ok (downD i j) else .bad
  | _ => .bad
def revRG : List D → Res (List D)
  | [.int j] => if inR j then .ok (rangeD 0 j).reverse else .bad
  | [.int i, .int j] => if inR i && inR j then .ok (rangeD i j).reverse else .bad
  | _ => .bad
def enumL (ds : List D) : List D := ds.zipIdx.map fun p => .tup [.int p.2, p.1]
def zipL (ds es : List D) : List D := (ds.zip es).map fun p => .tup [p.1, p.2]
def keysD (f : D → Res D) : List D → Res (List D)
  | [] => .ok []
  | d :: ds => do let x ← f d; let r ← keysD f ds; .ok (x :: r)
def strsD : List D → Option (List Str)
  | [] => some []
  | .str s :: r => (strsD r).map (s :: ·)
  | _ :: _ => none
def joinD (sep : Str) (ds : List D) : Res D := match strsD ds with
  | some ws => if (ws.map (·.length)).sum + ws.length * sep.length ≤ 16777216 then .ok (.str (Txt.join sep ws)) else .bad
  | none => .bad
def joinG (x : D) (r : Res D) : Res D := match x with
  | .str sep => do
    match ← r with
    | .lst ds => joinD sep ds
    | _ => .bad
  | _ => .bad
/-- the turns of a comprehension -/
def turns (f : D → DEnv → Res (Option D)) (env : DEnv) : List D → Res (List D)
  | [] => .ok []
  | d :: ds => (f d env).bind fun o => (turns f env ds).bind fun r => .ok (match o with | some x => x :: r | none => r)
/-- all, any (neg) of the turns -/
def allT (neg : Bool) (f : D → DEnv → Res (Option D)) (env : DEnv) : List D → Res Bool
  | [] => .ok (!neg)
  | d :: ds => (f d env).bind fun o => match o with
    | none => allT neg f env ds
    | some x => match x with
      | .bl b => if b = !neg then allT neg f env ds else .ok neg
      | _ => .bad
end Dx
namespace Dx
open PySem
abbrev Fns := Nat → List D → Res D
/-! ### the steps by name -/
def g1I (f : Int → Res D) : D → Res D
  | .int i => f i
  | _ => .bad
def andG (g : DEnv → Res D) : D → DEnv → Res D
  | .bl true, env => g env
  | .bl false, _ => .ok (.bl false)
  | _, _ => .bad
def orG (g : DEnv → Res D) : D → DEnv → Res D
  | .bl true, _ => .ok (.bl true)
  | .bl false, env => g env
  | _, _ => .bad
def cmG (o : Cm) (x y : D) : Res D := do let r ← cmD o x y; .ok (.bl r)
def tupG (kl : DEnv → Bool) (f : DEnv → Res (List D)) : DEnv → Res D := fun env => if kl env then do let ds ← f env; if fits ds.length then .ok (.tup ds) else .bad else .bad
def tupFG (kl : DEnv → Bool) (f : DEnv → Res (List D)) : DEnv → Res D := fun env => if kl env then do let ds ← f env; if fits ds.length then .ok (.ftup ds) else .bad else .bad
def lstG (kl : DEnv → Bool) (f : DEnv → Res (List D)) : DEnv → Res D := fun env => if kl env then do let ds ← f env; if fits ds.length then .ok (.lst ds) else .bad else .bad
def callG (kl : DEnv → Bool) (g : DEnv → Res (List D)) (h : List D → Res D) : DEnv → Res D := fun env => if kl env then do let ds ← g env; h ds else .bad
def getG (kx : DEnv → Bool) (fd fk fx : DEnv → Res D) : DEnv → Res D := fun env => if kx env then do
  let d ← fd env
  match d with
  | .dct t ks vs => do
    let y ← fk env
    let z ← fx env
    if fitK t y then match findK ks y with
    | some i => optR vs[i]?
    | none => .ok z
    else .bad
  | _ => .bad
  else .bad
def fldG (k : Nat) : D → Res D
  | .mat m b r => .ok (match k with | 0 => m | 1 => b | _ => r)
  | _ => .bad
def intO : D → Res (Option Int)
  | .int i => .ok (some i)
  | _ => .bad
def lcT (t : Tg) (fc : DEnv → Res Bool) (fe : DEnv → Res D) (ke : DEnv → Bool) : D → DEnv → Res (Option D) := fun d env => noExc (do
  let env1 ← tgD t d env
  let b ← fc env1
  if b then if ke env1 then do let x ← fe env1; .ok (some x) else .bad else .ok none)
def lcG (fi : DEnv → Res (List D)) (t : Tg) (fc : DEnv → Res Bool) (fe : DEnv → Res D) (ke : DEnv → Bool) (vs : List Nat) : DEnv → Res D := fun env => do
  let ds ← fi env
  if fits ds.length then do
    let r ← turns (lcT t fc fe ke) (wipeE env vs) ds
    .ok (.lst r)
  else .bad
def allG (neg : Bool) (fi : DEnv → Res (List D)) (t : Tg) (fc : DEnv → Res Bool) (fe : DEnv → Res D) (vs : List Nat) : DEnv → Res D := fun env => do
  let ds ← fi env
  let r ← allT neg (lcT t fc fe fun _ => true) (wipeE env vs) ds
  .ok (.bl r)
/-- sorted by a key -/
def sortKG (t : Nat) (key : DEnv → Res D) (kk : DEnv → Bool) (env : DEnv) : D → Res D := fun x => do
  let ds ← optR (items? x)
  let ks ← keysD (fun d => if kk (env.set t (.sh d)) then noExc (key (env.set t (.sh d))) else .bad) ds
  if (sortOk ks && fits ks.length) = true then .ok (.lst (((ks.zip ds).mergeSort fun p q => leD p.1 q.1).map (·.2))) else .bad
def dctL (items : Bool) (ks vs : List D) : List D := if items then zipL ks vs else ks
def dctI (items : Bool) (i : Nat) : DEnv → Res (List D) := fun env => match env[i]? with
  | some (.sh (.dct _ ks vs)) => .ok (dctL items ks vs)
  | _ => .bad
def seqG (x : D) : Res (List D) := optR (items? x)
def revG (x : D) : Res (List D) := do let ds ← optR (items? x); .ok ds.reverse
def enumG (x : D) : Res (List D) := do let ds ← optR (items? x); .ok (enumL ds)
def zipG (x y : D) : Res (List D) := do let ds ← optR (items? x); let es ← optR (items? y); if sameKind x y then .ok (zipL ds es) else .bad
mutual
def evE (F : Fns) : E → DEnv → Res D
  | .var i, env => getS env i
  | .lit l, _ => .ok (litD l)
  | .bin o a b, env => do let x ← evE F a env; let y ← evE F b env; opD o x y
  | .neg a, env => do let x ← evE F a env; g1I (fun i => .ok (.int (-i))) x
  | .inv a, env => do let x ← evE F a env; g1I (fun i => .ok (.int (Builtin.bitNot i))) x
  | .not a, env => do let x ← evE F a env; let b ← optR (truD x); .ok (.bl (!b))
  | .andE a b, env => do let x ← evE F a env; andG (evE F b) x env
  | .orE a b, env => do let x ← evE F a env; orG (evE F b) x env
  | .cmp o a b, env => do let x ← evE F a env; let y ← evE F b env; cmG o x y
  | .chain o o' a b c, env => do let x ← evE F a env; let y ← evE F b env; let r ← cmD o x y; if r then do let z ← evE F c env; cmG o' y z else .ok (.bl false)
  | .ife c a b, env => do let k ← evT F c env; if k then evE F a env else evE F b env
  | .tup l, env => tupG (kpAll l) (evL F l) env
  | .tupF l, env => tupFG (kpAll l) (evL F l) env
  | .lst l, env => lstG (kpAll l) (evL F l) env
  | .newK, _ => .ok (.dct false [] [])
  | .newT, _ => .ok (.dct true [] [])
  | .idx a b, env => do let x ← evE F a env; let y ← evE F b env; idxD x y
  | .slc a lo hi, env => do let x ← evE F a env; let l ← evO F lo env; let h ← evO F hi env; slcD x l h
  | .call f l, env => callG (kpAll l) (evL F l) (F f) env
  | .bi f l, env => do let ds ← evL F l env; biD f ds
  | .bitlen a, env => do let x ← evE F a env; g1I (fun i => .ok (.int (Builtin.Int.intBits i : Nat))) x
  | .get d k x, env => getG (kp x) (evE F d) (evE F k) (evE F x) env
  | .join s a, env => do let x ← evE F s env; joinG x (evE F a env)
  | .fld a k, env => do let x ← evE F a env; fldG k x
  | .lc elt t it cs own, env => lcG (evIt F it) t (evCs F cs) (evE F elt) (kp elt) own env
  | .allG neg elt t it cs own, env => allG neg (evIt F it) t (evCs F cs) (evE F elt) own env
  | .sortK a own t key, env => do let x ← evE F a env; sortKG t (evE F key) (kp key) (wipeE env own) x
def evL (F : Fns) : List E → DEnv → Res (List D)
  | [], _ => .ok []
  | e :: l, env => do let x ← evE F e env; let r ← evL F l env; .ok (x :: r)
def evO (F : Fns) : Option E → DEnv → Res (Option Int)
  | none, _ => .ok none
  | some e, env => do let x ← evE F e env; intO x
/-- a test -/
def evT (F : Fns) : Tst → DEnv → Res Bool
  | .not a, env => do let b ← evT F a env; .ok (!b)
  | .and a b, env => do let k ← evT F a env; if k then evT F b env else .ok false
  | .or a b, env => do let k ← evT F a env; if k then .ok true else evT F b env
  | .e a, env => do let x ← evE F a env; optR (truD x)
/-- all tests, by truth -/
def evCs (F : Fns) : List Tst → DEnv → Res Bool
  | [], _ => .ok true
  | [e], env => evT F e env
  | e :: l, env => do let b ← evT F e env; if b then evCs F l env else .ok false
def evIt (F : Fns) : It → DEnv → Res (List D)
  | .seq a, env => do let x ← evE F a env; seqG x
  | .rng l, env => do let ds ← evL F l env; rngG ds
  | .rev a, env => do let x ← evE F a env; revG x
  | .revR l, env => do let ds ← evL F l env; revRG ds
  | .enum a, env => do let x ← evE F a env; enumG x
  | .zip a b, env => do let x ← evE F a env; let y ← evE F b env; zipG x y
  | .keys i, env => dctI false i env
  | .items i, env => dctI true i env
end
/-- the source of a walk is nobody's own -/
def kpIt : It → DEnv → Bool
  | .seq a, env => kp a env
  | .rev a, env => kp a env
  | .enum a, env => kp a env
  | .zip a b, env => kp a env && kp b env
  | _, _ => true
end Dx
namespace Dx
open PySem
inductive S where
  | asg (t : Tg) (e : E) | fresh (i : Nat) (e : E) | par (l : List (Nat × Bool × E))
  | aug (i : Nat) (e : E) | app (i : Nat) (e : E) | pop (i : Nat) | popTo (j i : Nat)
  | setI (i : Nat) (k e : E) | augI (i : Nat) (k e : E) | put (i : Nat) (k e : E)
  | ret (e : Option E) | raise (n : Nat)
  | ifS (c : Tst) (a b : List S) | forS (t : Tg) (it : It) (b : List S) | whileS (n : Nat) (c : Tst) (b : List S)
  | brk | cont | pass | expr (e : E) | frz (i : Nat)
inductive Out where
  | nx (env : DEnv) | ret (d : D) | bk (env : DEnv) | ct (env : DEnv)

def ownOf : D → Res Slot
  | .lst ds => .ok (.own ds)
  | .dct t ks vs => .ok (.ownD t ks vs)
  | _ => .bad
/-- does e make a new object -/
def isNew : E → Bool
  | .lst _ => true
  | .lc .. => true
  | .newK => true
  | .newT => true
  | .bi .list _ => true
  | .bi .sorted _ => true
  | .bi .dict _ => true
  | .bin .add _ _ => true
  | .bin .mul _ _ => true
  | .slc .. => true
  | .sortK .. => true
  | _ => false
def forL (f : D → DEnv → Res Out) : List D → DEnv → Res Out
  | [], env => .ok (.nx env)
  | d :: ds, env => do match ← f d env with
    | .nx e => forL f ds e
    | .ct e => forL f ds e
    | .bk e => .ok (.nx e)
    | .ret r => .ok (.ret r)
def whileL (c : DEnv → Res Bool) (f : DEnv → Res Out) : Nat → DEnv → Res Out
  | 0, _ => .bad
  | n + 1, env => do
    if ← c env then
      match ← f env with
      | .nx e => whileL c f n e
      | .ct e => whileL c f n e
      | .bk e => .ok (.nx e)
      | .ret r => .ok (.ret r)
    else .ok (.nx env)
def retG (f : DEnv → Res D) (k : DEnv → Bool) : DEnv → Res Out := fun env => if k env then do let x ← f env; .ok (.ret x) else .bad
def asgG (f : DEnv → Res D) (k : DEnv → Bool) (t : Tg) : DEnv → Res Out := fun env => if k env then do let x ← f env; let env1 ← tgD t x env; .ok (.nx env1) else .bad
def newG (f : DEnv → Res D) (i : Nat) : DEnv → Res Out := fun env => do let x ← f env; let s ← ownOf x; .ok (.nx (env.set i s))
def augG (f : DEnv → Res D) (i : Nat) (o : Op) : DEnv → Res Out := fun env => match env[i]? with
  | some (.sh (.int x)) => do
    match ← f env with
    | .int y => do let z ← opD o (.int x) (.int y); .ok (.nx (env.set i (.sh z)))
    | _ => .bad
  | _ => .bad
def appG (f : DEnv → Res D) (k : DEnv → Bool) (i : Nat) : DEnv → Res Out := fun env => match env[i]? with
  | some (.own ds) => if k env then do let x ← f env; if decide (ds.length < sizeLine) then .ok (.nx (env.set i (.own (ds ++ [x])))) else .bad else .bad
  | _ => .bad
def popG (i : Nat) : DEnv → Res Out := fun env => match env[i]? with
  | some (.own ds) => if ds.isEmpty then .bad else .ok (.nx (env.set i (.own ds.dropLast)))
  | _ => .bad
def popToG (j i : Nat) : DEnv → Res Out := fun env => match env[i]? with
  | some (.own ds) => match ds[ds.length - 1]? with
    | some d => .ok (.nx ((env.set i (.own ds.dropLast)).set j (.sh d)))
    | none => .bad
  | _ => .bad
def setIG (f g : DEnv → Res D) (kf : DEnv → Bool) (i : Nat) : DEnv → Res Out := fun env => match env[i]? with
  | some (.own ds) => if kf env then do
      let x ← f env
      match ← g env with
      | .int n => match L2.ixN ds.length n with
        | some j => .ok (.nx (env.set i (.own (ds.set j x))))
        | none => .bad
      | _ => .bad
    else .bad
  | _ => .bad
def augIG (f g : DEnv → Res D) (i : Nat) : DEnv → Res Out := fun env => match env[i]? with
  | some (.own ds) => do
      match ← g env with
      | .int n => match L2.ixN ds.length n with
        | some j => match ds[j]? with
          | some (.int a) => do match ← f env with
            | .int b => .ok (.nx (env.set i (.own (ds.set j (.int (a + b))))))
            | _ => .bad
          | _ => .bad
        | none => .bad
      | _ => .bad
  | _ => .bad
def putG (f g : DEnv → Res D) (kf : DEnv → Bool) (i : Nat) : DEnv → Res Out := fun env => match env[i]? with
  | some (.ownD t ks vs) => if kf env then do
      let x ← f env
      let y ← g env
      if fitK t y && decide (ks.length < sizeLine) then .ok (.nx (env.set i (.ownD t (putL ks vs y x).1 (putL ks vs y x).2))) else .bad
    else .bad
  | _ => .bad
def forG (f : DEnv → Res (List D)) (k : DEnv → Bool) (t : Tg) (b : DEnv → Res Out) : DEnv → Res Out := fun env => if k env then do let ds ← f env; forL (fun d env => do let env1 ← tgD t d env; b env1) ds env else .bad
def forDG (items : Bool) (i : Nat) (t : Tg) (b : DEnv → Res Out) : DEnv → Res Out := fun env => match env[i]? with
  | some (.sh (.dct _ ks vs)) => noExc (forL (fun d env => do let env1 ← tgD t d env; b env1) (dctL items ks vs) env)
  | _ => .bad
def forX (F : Fns) (it : It) (t : Tg) (b : DEnv → Res Out) : DEnv → Res Out := match it with
  | .keys i => forDG false i t b
  | .items i => forDG true i t b
  | it => forG (evIt F it) (kpIt it) t b
def thenS (g : DEnv → Res Out) : Out → Res Out
  | .nx e => g e
  | .bk e => .ok (.bk e)
  | .ct e => .ok (.ct e)
  | .ret d => .ok (.ret d)
/-- a ghost: an own thing is given away -/
def frzD (i : Nat) (env : DEnv) : DEnv := match env[i]? with
  | some (.own ds) => env.set i (.sh (.lst ds))
  | some (.ownD t ks vs) => env.set i (.sh (.dct t ks vs))
  | _ => env
/-- several names at once: all values first -/
def parG (F : Fns) : List (Nat × Bool × E) → (DEnv → DEnv) → DEnv → Res Out
  | [], u, env => .ok (.nx (u env))
  | (i, true, e) :: l, u, env => do let x ← evE F e env; let s ← ownOf x; parG F l (fun d => (u d).set i s) env
  | (i, false, e) :: l, u, env => if kp e env then do let x ← evE F e env; parG F l (fun d => (u d).set i (.sh x)) env else .bad
mutual
def exS (F : Fns) : S → DEnv → Res Out
  | .asg t e, env => asgG (evE F e) (kp e) t env
  | .fresh i e, env => newG (evE F e) i env
  | .par l, env => parG F l (fun d => d) env
  | .aug i e, env => augG (evE F e) i .add env
  | .app i e, env => appG (evE F e) (kp e) i env
  | .pop i, env => popG i env
  | .popTo j i, env => popToG j i env
  | .setI i k e, env => setIG (evE F e) (evE F k) (kp e) i env
  | .augI i k e, env => augIG (evE F e) (evE F k) i env
  | .put i k e, env => putG (evE F e) (evE F k) (kp e) i env
  | .ret none, _ => .ok (.ret .non)
  | .ret (some e), env => retG (evE F e) (kp e) env
  | .raise n, _ => .exc n
  | .ifS c a b, env => do let k ← evT F c env; if k then exB F a env else exB F b env
  | .forS t it b, env => forX F it t (exB F b) env
  | .whileS n c b, env => whileL (evT F c) (exB F b) n env
  | .brk, env => .ok (.bk env)
  | .cont, env => .ok (.ct env)
  | .pass, env => .ok (.nx env)
  | .expr e, env => do let _ ← evE F e env; .ok (.nx env)
  | .frz i, env => .ok (.nx (frzD i env))
def exB (F : Fns) : List S → DEnv → Res Out
  | [], env => .ok (.nx env)
  | s :: l, env => exS F s env >>= thenS (exB F l)
end
/-- a def: its parameters, its slots, its body -/
structure Fd where
  ps : Nat
  n : Nat
  body : List S
def start (n : Nat) (ds : List D) : DEnv := ds.map .sh ++ List.replicate (n - ds.length) .none
def runF (F : Fns) (f : Fd) (ds : List D) : Res D := if ds.length = f.ps then do
    match ← exB F f.body (start f.n ds) with
    | .nx _ => .ok .non
    | .ret d => .ok d
    | _ => .bad
  else .bad
end Dx
namespace Dx
variable [Nm]
open PySem PySem.Spec L2
/-- the addresses hidden, and one more -/
abbrev plus (O : Addr → Bool) (p : Addr) : Addr → Bool := fun a => O a || a == p
def BRpL (M : MatC) (H : Hp) (O : Addr → Bool) : List D → List V → Prop
  | [], vs => vs = []
  | d :: ds, vs => ∃ v r, vs = v :: r ∧ BRp M H O d v ∧ BRpL M H O ds r
section
variable (M : MatC) (T : List Addr) (Ev : Nat → Hp → Prop)
/-- the reading of an expression -/
def tE (f : DEnv → Res D) (k : DEnv → Bool) : TE := fun σ H Q => ∃ H₀ B O env, EnvR M T H₀ B O σ H env ∧
  After Ev (f env) H fun d H1 => ∀ v, BRp M H1 O d v → (k env = true → Rp M (hide H1 O) d v) → Q v H1
/-- of one that makes a new object -/
def tN (f : DEnv → Res D) : TE := fun σ H Q => ∃ H₀ B O env, EnvR M T H₀ B O σ H env ∧
  After Ev (f env >>= ownOf) H fun s H1 => ∀ p, H p = none → OwnAt M H1 (hide H1 (plus O p)) p s → Q (.ref p) H1
def tT (f : DEnv → Res Bool) : TT := fun σ H Q => ∃ H₀ B O env, EnvR M T H₀ B O σ H env ∧ After Ev (f env) H fun b H1 => Q b H1
/-- of arguments: kept, or read -/
def tL (f : DEnv → Res (List D)) (k : DEnv → Bool) : TA := fun σ H Q => ∃ H₀ B O env, EnvR M T H₀ B O σ H env ∧
  After Ev (f env) H fun ds H1 => ∀ vs, BRpL M H1 O ds vs → (k env = true → RpL M (hide H1 O) ds vs) → Q vs H1
end
section
variable {M : MatC} {T : List Addr} {Ev : Nat → Hp → Prop}
theorem After.mono {α : Type} {r : Res α} {H H' : Hp} {P P' : α → Hp → Prop} (h : After Ev r H P) (e : Ext H H') (k : ∀ a H1, Ext H' H1 → r = .ok a → P a H1 → P' a H1) : After Ev r H' P' := by
  cases r with
  | ok a => exact fun H1 e1 => k a H1 e1 rfl (h H1 (e.trans e1))
  | exc n => exact fun H1 e1 => h H1 (e.trans e1)
  | bad => exact h
/-- one step, then the rest -/
theorem After.bind {α β : Type} {r : Res α} {g : α → Res β} {H : Hp} {P : β → Hp → Prop} (h : After Ev (r >>= g) H P) : After Ev r H fun a H1 => After Ev (g a) H1 P := by
  cases r with
  | ok a => exact fun H1 e1 => After.mono (show After Ev (g a) H P from h) e1 fun _ _ _ _ p => p
  | exc n => exact h
  | bad => exact h
theorem After.one {α : Type} {a : α} {H : Hp} {P : α → Hp → Prop} (h : After Ev (.ok a) H P) : P a H := h H (Ext.refl H)
theorem pe_weak {X : Cx} {e : PySem.Expr} {t t' : TE} (h : PE X e t) (w : ∀ σ H Q, t' σ H Q → t σ H Q) : PE X e t' := ⟨fun pins s σ H Q I q => h.run pins s σ H Q I (w σ H Q q)⟩
theorem pt_weak {X : Cx} {e : PySem.Expr} {t t' : TT} (h : PT X e t) (w : ∀ σ H Q, t' σ H Q → t σ H Q) : PT X e t' := ⟨fun pins s σ H Q I q => h.run pins s σ H Q I (w σ H Q q)⟩
theorem ps_weak {X : Cx} {e : PySem.Stmt} {t t' : TS} (h : PS X e t) (w : ∀ D σ H, t' D σ H → t D σ H) : PS X e t' := ⟨fun pins s σ H D I q => h.run pins s σ H D I (w D σ H q)⟩
theorem pss_weak {X : Cx} {e : List PySem.Stmt} {t t' : TS} (h : PSs X e t) (w : ∀ D σ H, t' D σ H → t D σ H) : PSs X e t' := ⟨fun pins s σ H D I q => h.run pins s σ H D I (w D σ H q)⟩
theorem hide_new {H : Hp} {O : Addr → Bool} {p : Addr} {o : HO} (h : H p = none) : Ext (hide H O) (hide (upd H p o) (plus O p)) := by
  have k : ∀ a u, hide H O a = some u → hide (upd H p o) (plus O p) a = some u := fun a u e => by
    obtain ⟨h1, h2⟩ := hide_some' e
    have hne : a ≠ p := ne_of_none h2 h
    refine hide_mk ?_ (by rw [upd_ne hne]; exact h2)
    rcases h1 with h1 | h1
    · exact .inl (by simp [plus, h1, hne])
    · exact .inr h1
  exact ⟨fun a u e _ => k a u e, fun a ps e => ⟨ps, k a _ e, fun t => t.keep fun c phi e => k c _ e⟩⟩
theorem hide_plus {H : Hp} {O : Addr → Bool} {p : Addr} : Ext (hide H (plus O p)) (hide H O) := Ext.unhide fun a h => by simp [plus, h]
/-- a new thing as a value -/
theorem new_rp {H : Hp} {O : Addr → Bool} {p : Addr} {d : D} {s : Slot} (hd : ownOf d = .ok s) (hO : O p = false) (h : OwnAt M H (hide H (plus O p)) p s) : Rp M (hide H O) d (.ref p) := by
  cases d with
  | lst ds =>
    cases hd
    obtain ⟨vs, h1, h2⟩ := h
    unfold Rp
    exact ⟨p, vs, rfl, by rw [hide_of hO]; exact h1, RpL.mono hide_plus ds h2⟩
  | dct t ks vs =>
    cases hd
    cases t with
    | true =>
      obtain ⟨kvs, h1, h2, h3⟩ := h
      unfold Rp
      exact ⟨p, _, rfl, RpL.mono hide_plus vs h3, kvs, .inl (by rw [hide_of hO]; exact h1), h2, rfl⟩
    | false =>
      obtain ⟨kvs, h1, h2, h3⟩ := h
      unfold Rp
      exact ⟨p, _, rfl, RpL.mono hide_plus vs h3, kvs, .inl (by rw [hide_of hO]; exact h1), h2, rfl⟩
  | _ => cases hd
theorem EnvR.free {H₀ H : Hp} {B O : Addr → Bool} {σ : L2.St} {env : DEnv} (r : EnvR M T H₀ B O σ H env) {p : Addr} (h : H p = none) : O p = false := by
  cases q : O p with
  | false => rfl
  | true => obtain ⟨o, h1, _⟩ := r.trk p q; rw [h] at h1; cases h1
/-- a new thing's reading is one of an expression -/
theorem tN_tE {f : DEnv → Res D} {k : DEnv → Bool} (hf : ∀ env d, f env = .ok d → ∃ s, ownOf d = .ok s) {σ : L2.St} {H : Hp} {Q : VK} (h : tE M T Ev f k σ H Q) : tN M T Ev f σ H Q := by
  obtain ⟨H₀, B, O, env, r, h⟩ := h
  refine ⟨H₀, B, O, env, r, ?_⟩
  cases e : f env with
  | ok d =>
    rw [e] at h
    obtain ⟨s, hs⟩ := hf env d e
    show After Ev (ownOf d) H _
    rw [hs]
    intro H1 e1 p hp ho
    have hO := r.free hp
    have q := new_rp hs hO ho
    exact h H1 e1 (.ref p) q.br fun _ => q
  | exc n => rw [e] at h; exact h
  | bad => rw [e] at h; exact h
end
end Dx
namespace Dx
variable [Nm]
open PySem PySem.Spec L2
section
variable {M : MatC} {T : List Addr} {Ev : Nat → Hp → Prop}
abbrev Trk (O : Addr → Bool) (H : Hp) : Prop := ∀ a, O a = true → ∃ o, H a = some o ∧ mu o = true
theorem Trk.mono {O : Addr → Bool} {H H' : Hp} (t : Trk O H) (e : Ext H H') : Trk O H' := fun a h => let ⟨o, h1, h2⟩ := t a h; ⟨o, e.keep a o h1 (mu_nt h2), h2⟩
theorem Trk.free {O : Addr → Bool} {H : Hp} (t : Trk O H) {p : Addr} (h : H p = none) : O p = false := by
  cases q : O p with
  | false => rfl
  | true => obtain ⟨o, h1, _⟩ := t p q; rw [h] at h1; cases h1
theorem Trk.not {O : Addr → Bool} {H : Hp} (t : Trk O H) {p : Addr} {o : HO} (h : H p = some o) (hm : mu o = false) : O p = false := by
  cases q : O p with
  | false => rfl
  | true => obtain ⟨o', h1, h2⟩ := t p q; rw [h] at h1; cases h1; rw [hm] at h2; cases h2
theorem After.ite {α : Type} {c : Prop} [Decidable c] {r : Res α} {H : Hp} {P : α → Hp → Prop} (h : After Ev (if c then r else .bad) H P) : c ∧ After Ev r H P := by
  by_cases hc : c
  · rw [if_pos hc] at h; exact ⟨hc, h⟩
  · rw [if_neg hc] at h; exact h.elim
/-- what an operation asks -/
abbrev G1 (M : MatC) (Ev : Nat → Hp → Prop) (g : D → Res D) (r : V → Hp → VK → Prop) : Prop := ∀ (x : D) (vx : V) (H : Hp) (O : Addr → Bool) (Q : VK), Trk O H → BRp M H O x vx → After Ev (g x) H (fun d H2 => ∀ v, Rp M (hide H2 O) d v → Q v H2) → r vx H Q
abbrev G2 (M : MatC) (Ev : Nat → Hp → Prop) (g : D → D → Res D) (r : R2) : Prop := ∀ (x y : D) (vx vy : V) (H : Hp) (O : Addr → Bool) (Q : VK), Trk O H → BRp M H O x vx → BRp M H O y vy → After Ev (g x y) H (fun d H2 => ∀ v, Rp M (hide H2 O) d v → Q v H2) → r vx vy H Q
theorem rd1 {g : D → Res D} {r : V → Hp → VK → Prop} (hr : G1 M Ev g r) {f : DEnv → Res D} {k k' : DEnv → Bool} {σ : L2.St} {H : Hp} {Q : VK} (h : tE M T Ev (fun env => f env >>= g) k' σ H Q) :
    tE M T Ev f k σ H fun x H1 => r x H1 Q := by
  obtain ⟨H₀, B, O, env, R, h⟩ := h
  refine ⟨H₀, B, O, env, R, After.mono (After.bind h) (Ext.refl H) fun d H1 e1 _ q v b _ => ?_⟩
  exact hr d v H1 O Q (Trk.mono R.trk e1) b (After.mono q (Ext.refl H1) fun d2 H2 _ _ p v2 b2 => p v2 b2.br fun _ => b2)
theorem rd2 {g : D → D → Res D} {r : R2} (hr : G2 M Ev g r) {f f' : DEnv → Res D} {k k1 k2 : DEnv → Bool} {σ : L2.St} {H : Hp} {Q : VK} (h : tE M T Ev (fun env => do let x ← f env; let y ← f' env; g x y) k σ H Q) :
    tOp r (tE M T Ev f k1) (tE M T Ev f' k2) σ H Q := by
  obtain ⟨H₀, B, O, env, R, h⟩ := h
  refine ⟨H₀, B, O, env, R, After.mono (After.bind h) (Ext.refl H) fun d H1 e1 _ q v b _ => ?_⟩
  refine ⟨H₀, B, O, env, R.mono e1, After.mono (After.bind q) (Ext.refl H1) fun d2 H2 e2 _ q2 v2 b2 _ => ?_⟩
  exact hr d d2 v v2 H2 O Q (Trk.mono R.trk (e1.trans e2)) (b.mono e2) b2 (After.mono q2 (Ext.refl H2) fun d3 H3 _ _ p v3 b3 => p v3 b3.br fun _ => b3)

/-! ### names and constants -/
theorem de_var {X : Cx} {i : Nat} {x : Str} {pos : Pos} (h : PE X (.Name x pos) (tVar i)) : PE X (.Name x pos) (tE M T Ev (fun env => getS env i) (kp (.var i))) := by
  refine pe_weak h fun σ H Q ⟨H₀, B, O, env, R, h⟩ => ?_
  have fin : ∀ d v, After Ev (.ok d) H (fun d H1 => ∀ v, BRp M H1 O d v → (kp (.var i) env = true → Rp M (hide H1 O) d v) → Q v H1) → BRp M H O d v → (kp (.var i) env = true → Rp M (hide H O) d v) → σ[i]? = some (some v) → ∃ v, σ[i]? = some (some v) ∧ Q v H :=
    fun d v h b k e => ⟨v, e, h.one v b k⟩
  have h : After Ev (getS env i) H (fun d H1 => ∀ v, BRp M H1 O d v → (kp (.var i) env = true → Rp M (hide H1 O) d v) → Q v H1) := h
  unfold getS at h
  cases e : env[i]? with
  | none => rw [e] at h; exact h.elim
  | some s =>
    rw [e] at h
    cases s with
    | none => exact h.elim
    | sh d =>
      obtain ⟨v, h1, h2⟩ := R.sh i d e
      exact fin d v h h2.br (fun _ => h2) h1
    | own ds =>
      obtain ⟨a, h1, h2, h3, h4, vs, h5, h6⟩ := R.own i _ e rfl
      exact fin (.lst ds) _ h ⟨a, vs, rfl, h5, h6⟩ (fun z => by unfold kp at z; rw [e] at z; cases z) h1
    | ownD t ks vs =>
      obtain ⟨a, h1, h2, h3, h4, h5⟩ := R.own i _ e rfl
      refine fin (.dct t ks vs) (.ref a) h ?_ (fun z => by unfold kp at z; rw [e] at z; cases z) h1
      cases t with
      | false => obtain ⟨kvs, h5, h6, h7⟩ := h5; exact ⟨a, _, rfl, h7, kvs, .inl h5, h6, rfl⟩
      | true => obtain ⟨kvs, h5, h6, h7⟩ := h5; exact ⟨a, _, rfl, h7, kvs, .inl h5, h6, rfl⟩
theorem rp_lit {H : Hp} (l : Lit) : ∃ v, Rp M H (litD l) v := by
  cases l with
  | non => exact ⟨.non, by unfold litD Rp; rfl⟩
  | bl b => exact ⟨.bl b, by unfold litD Rp; rfl⟩
  | int i => exact ⟨.int i, by unfold litD Rp; rfl⟩
  | str s => exact ⟨.str s, by unfold litD Rp; rfl⟩
theorem de_c {X : Cx} {e : PySem.Expr} {v : V} {d : D} {k : DEnv → Bool} (h : PE X e (tC v)) (hv : ∀ H, Rp M H d v) : PE X e (tE M T Ev (fun _ => .ok d) k) :=
  pe_weak h fun σ H Q ⟨H₀, B, O, env, R, h⟩ => h.one v (hv _).br fun _ => hv _
/-! ### operators -/
theorem br_int {H : Hp} {O : Addr → Bool} {i : Int} {v : V} (h : BRp M H O (.int i) v) : v = .int i := by unfold BRp Rp at h; exact h
theorem br_str {H : Hp} {O : Addr → Bool} {i : Str} {v : V} (h : BRp M H O (.str i) v) : v = .str i := by unfold BRp Rp at h; exact h
theorem br_bl {H : Hp} {O : Addr → Bool} {i : Bool} {v : V} (h : BRp M H O (.bl i) v) : v = .bl i := by unfold BRp Rp at h; exact h
theorem br_non {H : Hp} {O : Addr → Bool} {v : V} (h : BRp M H O .non v) : v = .non := by unfold BRp Rp at h; exact h
theorem br_ftup {H : Hp} {O : Addr → Bool} {ds : List D} {v : V} (h : BRp M H O (.ftup ds) v) : ∃ a vs o, v = .ref a ∧ o.dict = none ∧ hide H O a = some (.frz o (.tup vs)) ∧ H a = some (.frz o (.tup vs)) ∧ RpL M (hide H O) ds vs := by
  unfold BRp Rp at h
  obtain ⟨a, vs, o, h1, h2, h3, h4⟩ := h
  exact ⟨a, vs, o, h1, h2, h3, (hide_some h3).2, h4⟩
theorem br_tup {H : Hp} {O : Addr → Bool} {ds : List D} {v : V} (h : BRp M H O (.tup ds) v) : ∃ a vs, v = .ref a ∧ hide H O a = some (.tup vs) ∧ RpL M (hide H O) ds vs := by unfold BRp Rp at h; exact h
theorem rp_int {H : Hp} {i : Int} : Rp M H (.int i) (.int i) := by unfold Rp; rfl
theorem rp_bl {H : Hp} {i : Bool} : Rp M H (.bl i) (.bl i) := by unfold Rp; rfl
theorem rp_str {H : Hp} {i : Str} : Rp M H (.str i) (.str i) := by unfold Rp; rfl
theorem rp_non {H : Hp} : Rp M H .non .non := by unfold Rp; rfl
/-- a new tuple, a new list as a value -/
theorem rp_newT {H : Hp} {O : Addr → Bool} {p : Addr} {ds : List D} {vs : List V} (t : Trk O H) (hp : H p = none) (h : RpL M (hide H O) ds vs) : Rp M (hide (upd H p (.tup vs)) O) (.tup ds) (.ref p) := by
  unfold Rp
  exact ⟨p, vs, rfl, (by rw [hide_of (t.free hp)]; exact upd_same), RpL.mono ((Ext.new hp).hide O) ds h⟩
theorem rp_newL {H : Hp} {O : Addr → Bool} {p : Addr} {ds : List D} {vs : List V} (t : Trk O H) (hp : H p = none) (h : RpL M (hide H O) ds vs) : Rp M (hide (upd H p (.lst vs)) O) (.lst ds) (.ref p) := by
  unfold Rp
  exact ⟨p, vs, rfl, (by rw [hide_of (t.free hp)]; exact upd_same), RpL.mono ((Ext.new hp).hide O) ds h⟩
theorem own_newL {H : Hp} {O : Addr → Bool} {p : Addr} {ds : List D} {vs : List V} (hp : H p = none) (h : RpL M (hide H O) ds vs) : OwnAt M (upd H p (.lst vs)) (hide (upd H p (.lst vs)) (plus O p)) p (.own ds) :=
  ⟨vs, upd_same, RpL.mono (hide_new hp) ds h⟩
theorem de_neg {X : Cx} {e : PySem.Expr} {pos : Pos} {f : DEnv → Res D} {k k' : DEnv → Bool} (h : PE X e (tE M T Ev f k)) : PE X (.UnaryOp .USub e pos) (tE M T Ev (fun env => f env >>= g1I fun i => .ok (.int (-i))) k') := by
  refine pe_weak (pe_un un_neg h) fun σ H Q q => rd1 (fun x vx H O Q t b a => ?_) q
  cases x with
  | int i => exact ⟨i, br_int b, a.one _ rp_int⟩
  | _ => exact a.elim
theorem de_inv {X : Cx} {e : PySem.Expr} {pos : Pos} {f : DEnv → Res D} {k k' : DEnv → Bool} (h : PE X e (tE M T Ev f k)) : PE X (.UnaryOp .Invert e pos) (tE M T Ev (fun env => f env >>= g1I fun i => .ok (.int (Builtin.bitNot i))) k') := by
  refine pe_weak (pe_un un_inv h) fun σ H Q q => rd1 (fun x vx H O Q t b a => ?_) q
  cases x with
  | int i => exact ⟨i, br_int b, a.one _ rp_int⟩
  | _ => exact a.elim
theorem de_op {X : Cx} {op : Operator} {a b : PySem.Expr} {pos : Pos} {r : R2} {g : D → D → Res D} {f f' : DEnv → Res D} {k1 k2 k : DEnv → Bool} (ho : OpR X (binaryOp op) r) (hg : G2 M Ev g r) (ha : PE X a (tE M T Ev f k1)) (hb : PE X b (tE M T Ev f' k2)) :
    PE X (.BinOp a op b pos) (tE M T Ev (fun env => do let x ← f env; let y ← f' env; g x y) k) := pe_weak (pe_op ho ha hb) fun σ H Q q => rd2 hg q
theorem small_or {i j : Int} (h : (small i || small j) = true) : CMul i j := by
  unfold small at h
  simp only [Bool.or_eq_true, Bool.and_eq_true, decide_eq_true_eq] at h
  exact h
theorem g_sub : G2 M Ev (opD .sub) (rI0 fun i j => .int (i - j)) := by
  intro x y vx vy H O Q t bx by_ a
  cases x <;> cases y <;> first | exact a.elim | exact ⟨_, _, br_int bx, br_int by_, a.one _ rp_int⟩
theorem g_pow : G2 M Ev (opD .pow) (rI CPow fun i j => .int (i ^ j.toNat)) := by
  intro x y vx vy H O Q t bx by_ a
  cases x <;> cases y <;> first | exact a.elim | skip
  rename_i i j
  obtain ⟨hc, a⟩ := After.ite a
  · simp only [Bool.and_eq_true, decide_eq_true_eq] at hc
    exact ⟨_, _, br_int bx, br_int by_, ⟨hc.1.1, hc.1.2, hc.2⟩, a.one _ rp_int⟩
theorem g_shl : G2 M Ev (opD .shl) (rI CPow fun i j => .int (i * 2 ^ j.toNat)) := by
  intro x y vx vy H O Q t bx by_ a
  cases x <;> cases y <;> first | exact a.elim | skip
  rename_i i j
  obtain ⟨hc, a⟩ := After.ite a
  · simp only [Bool.and_eq_true, decide_eq_true_eq] at hc
    exact ⟨_, _, br_int bx, br_int by_, ⟨hc.1.1, hc.1.2, hc.2⟩, a.one _ rp_int⟩
theorem g_shr : G2 M Ev (opD .shr) (rI (fun _ j => 0 ≤ j) fun i j => .int (i / 2 ^ j.toNat)) := by
  intro x y vx vy H O Q t bx by_ a
  cases x <;> cases y <;> first | exact a.elim | skip
  rename_i i j
  obtain ⟨hc, a⟩ := After.ite a
  · exact ⟨_, _, br_int bx, br_int by_, of_decide_eq_true hc, a.one _ rp_int⟩
theorem g_fdiv : G2 M Ev (opD .fdiv) (rI CDivN fun i j => .int (i.fdiv j)) := by
  intro x y vx vy H O Q t bx by_ a
  cases x <;> cases y <;> first | exact a.elim | skip
  rename_i i j
  obtain ⟨hc, a⟩ := After.ite a
  · simp only [Bool.and_eq_true, decide_eq_true_eq] at hc
    exact ⟨_, _, br_int bx, br_int by_, ⟨hc.1, hc.2⟩, a.one _ rp_int⟩
theorem g_mod : G2 M Ev (opD .mod) (rI (fun _ j => j ≠ 0) fun i j => .int (i.fmod j)) := by
  intro x y vx vy H O Q t bx by_ a
  cases x <;> cases y <;> first | exact a.elim | skip
  rename_i i j
  obtain ⟨hc, a⟩ := After.ite a
  · exact ⟨_, _, br_int bx, br_int by_, of_decide_eq_true hc, a.one _ rp_int⟩
theorem g_band : G2 M Ev (opD .band) (rI0 fun i j => .int (Builtin.bitAnd i j)) := by
  intro x y vx vy H O Q t bx by_ a
  cases x <;> cases y <;> first | exact a.elim | exact ⟨_, _, br_int bx, br_int by_, a.one _ rp_int⟩
theorem g_bor : G2 M Ev (opD .bor) (rI0 fun i j => .int (Builtin.bitOr i j)) := by
  intro x y vx vy H O Q t bx by_ a
  cases x <;> cases y <;> first | exact a.elim | exact ⟨_, _, br_int bx, br_int by_, a.one _ rp_int⟩
theorem g_bxor : G2 M Ev (opD .bxor) (rI0 fun i j => .int (Builtin.bitXor i j)) := by
  intro x y vx vy H O Q t bx by_ a
  cases x <;> cases y <;> first | exact a.elim | exact ⟨_, _, br_int bx, br_int by_, a.one _ rp_int⟩
end
end Dx
set_option maxHeartbeats 2000000
/-! what the layer lacks: a tuple times any number from 0 to 1000 -/
namespace DxK
open PySem PySem.Spec PyProof.Rows L2
open AutoSeq1 (wpAny_loadPart')
theorem tuple_mul0 (l : Addr) (items : Array Value) (n : Nat) (dd : Option Addr) (sl : Array (Option Value)) (x : Int) (u : Tok) (c0 : (decide (x < -(2 ^ 63)) || decide (x ≥ 2 ^ 63)) = false) (c1 : (items.isEmpty || x == 1) = false) (c2 : (decide (x ≤ 0) || items.isEmpty) = true) :
    Meets (Builtin.«tuple.__mul__» ⟨[.ref l, .int x u], []⟩) (fun _ R s => s.heap.get? l = some { cls := .type "tuple", dict := dd, data := .seq items n, slots := sl } ∧
      R (.ok (.ret (Value.ref s.heap.objs.size))) { s with heap := s.heap.push { cls := Value.type "tuple", data := Data.seq #[] }, toks := s.toks }) :=
  .of_wp fun prog w A R s h => by
    obtain ⟨hp, g, d, tk, os⟩ := s
    obtain ⟨hl, h⟩ := h
    have f1 := AutoSeq1.idx_int
    wp_walk using wpAny_loadPart' hl
    repeat (first
      | (refine wpAny_ite_false (decide_eq_false (by rw [c0]; exact Bool.false_ne_true)) ?_; wp_walk using wpAny_loadPart' hl)
      | (refine wpAny_ite_false (decide_eq_false (by rw [c1]; exact Bool.false_ne_true)) ?_; wp_walk using wpAny_loadPart' hl)
      | (refine wpAny_ite_true (decide_eq_true c2) ?_; wp_walk using wpAny_loadPart' hl))
    exact ⟨_, rfl, h⟩
theorem tuple_mul1 (l : Addr) (items : Array Value) (n : Nat) (sl : Array (Option Value)) (dd : Option Addr) (x : Int) (u : Tok) (c0 : (decide (x < -(2 ^ 63)) || decide (x ≥ 2 ^ 63)) = false) (c1 : (items.isEmpty || x == 1) = true) :
    Meets (Builtin.«tuple.__mul__» ⟨[.ref l, .int x u], []⟩) (fun _ R s => s.heap.get? l = some { cls := .type "tuple", dict := dd, data := .seq items n, slots := sl } ∧
      R (.ok (.ret (Value.ref l))) s) :=
  .of_wp fun prog w A R s h => by
    obtain ⟨hp, g, d, tk, os⟩ := s
    obtain ⟨hl, h⟩ := h
    have f1 := AutoSeq1.idx_int
    wp_walk using wpAny_loadPart' hl
    repeat (first
      | (refine wpAny_ite_false (decide_eq_false (by rw [c0]; exact Bool.false_ne_true)) ?_; wp_walk using wpAny_loadPart' hl)
      | (refine wpAny_ite_true (decide_eq_true c1) ?_; wp_walk using wpAny_loadPart' hl))
    exact ⟨_, rfl, h⟩
def rRepA (K : PySem.W.Frag) : R2 := fun x y H Q => ∃ l k xs, x = .ref l ∧ y = .int k ∧ SqT K H l xs ∧ 0 ≤ k ∧ k ≤ 1000 ∧ xs.length ≤ 1000 ∧
  (xs = [] ∨ k = 1 → Q (.ref l) H) ∧ (¬ (xs = [] ∨ k = 1) → ∀ p, H p = none → Q (.ref p) (upd H p (.tup (List.replicate k.toNat xs).flatten)))
theorem op_repA {X : Cx} : OpR X (binaryOp .Mult) (rRepA X.K) := by
  intro pins s σ H x y v u Q I rx ry h
  obtain ⟨l, k, xs, rfl, rfl, hT, h1, h2, hz, q1, q2⟩ := h
  by_cases big : xs ≠ [] ∧ 2 ≤ k
  · exact op_repT pins s σ H _ _ v u Q I rx ry ⟨l, k, xs, rfl, rfl, hT, big.1, big.2, h2, hz, q2 (fun z => z.elim (fun z => big.1 z) (fun z => by omega))⟩
  cases rx
  obtain ⟨t, rfl⟩ := ry
  obtain ⟨its, r, ⟨⟨cls, dd, data, sl⟩, ho, hc, n, hd⟩, hs⟩ := I.tuple hT
  simp only at hc hd
  subst hc hd
  have hle : its.length = xs.length := r.length.symm
  have c0 : (decide (k < -(2 ^ 63)) || decide (k ≥ 2 ^ 63)) = false := by
    rw [decide_eq_false (by omega), decide_eq_false (by omega)] <;> rfl
  by_cases e1 : xs = [] ∨ k = 1
  · have c1 : (its.toArray.isEmpty || k == 1) = true := by
      rcases e1 with e | e
      · have : its = [] := List.eq_nil_of_length_eq_zero (by rw [hle, e]; rfl)
        rw [this]; rfl
      · rw [e]; simp
    exact wpAny_binaryOp_repeat_ref (T := "tuple") (U := "int") (by decide) ⟨_, ho, rfl⟩ (fun s' => typeIs_int s' k t) noFill_tuple_mul F.fills_int_mul F.slot_int_rmul repeat_tuple F.slot_int_index.lookup
      (call_meets F.slot_int_rmul (typeIs_int s k t) F.entry_int_rmul (F.args_int_rmul_2 _ _) (int_rmul_tuple k t l its.toArray n dd sl)
        ⟨ho, rfl, ⟨_, ho, rfl⟩, call_meets F.slot_tuple_mul ⟨_, ho, rfl⟩ F.entry_tuple_mul (F.args_tuple_mul_2 _ _) (tuple_mul1 l its.toArray n sl dd k t c0 c1) ⟨ho, ⟨.ref l, H, I, rfl, q1 e1⟩⟩⟩)
  · have hx : xs ≠ [] := fun z => e1 (.inl z)
    have k0 : k = 0 := by
      have : ¬ 2 ≤ k := fun z => big ⟨hx, z⟩
      have : k ≠ 1 := fun z => e1 (.inr z)
      omega
    subst k0
    have hn : its ≠ [] := fun e => hx (by
      rw [e] at hle
      exact List.eq_nil_of_length_eq_zero hle.symm)
    have c1 : (its.toArray.isEmpty || (0 : Int) == 1) = false := by
      cases its with
      | nil => exact absurd rfl hn
      | cons a b => rfl
    have c2 : (decide ((0 : Int) ≤ 0) || its.toArray.isEmpty) = true := rfl
    refine wpAny_binaryOp_repeat_ref (T := "tuple") (U := "int") (by decide) ⟨_, ho, rfl⟩ (fun s' => typeIs_int s' 0 t) noFill_tuple_mul F.fills_int_mul F.slot_int_rmul repeat_tuple F.slot_int_index.lookup
      (call_meets F.slot_int_rmul (typeIs_int s 0 t) F.entry_int_rmul (F.args_int_rmul_2 _ _) (int_rmul_tuple 0 t l its.toArray n dd sl)
        ⟨ho, rfl, ⟨_, ho, rfl⟩, call_meets F.slot_tuple_mul ⟨_, ho, rfl⟩ F.entry_tuple_mul (F.args_tuple_mul_2 _ _) (tuple_mul0 l its.toArray n dd sl 0 t c0 c1 c2) ⟨ho, ?_⟩⟩)
    have q := q2 e1 _ I.fresh
    exact ⟨.ref _, _, I.laid (o := HO.tup []) (t' := s.toks) (fun _ _ q => Heap.get?_push_of_some _ q) (Nat.le_refl _) ⟨Nat.zero_le _, [], .nil, IsTup.new _ _⟩, rfl, q⟩
end DxK
namespace Dx
variable [Nm]
open PySem PySem.Spec L2
section
variable {M : MatC} {T : List Addr} {Ev : Nat → Hp → Prop}
theorem br_lst {H : Hp} {O : Addr → Bool} {ds : List D} {v : V} (h : BRp M H O (.lst ds) v) : ∃ a vs, v = .ref a ∧ H a = some (.lst vs) ∧ RpL M (hide H O) ds vs := h
theorem br_scr {H : Hp} {O : Addr → Bool} {ds : List D} {v : V} (h : BRp M H O (.scr ds) v) : ∃ a vs, v = .ref a ∧ SqL M.K (hide H O) a vs ∧ RpL M (hide H O) ds vs := by unfold BRp Rp at h; exact h
theorem sqT_frz {K : PySem.W.Frag} {H : Hp} {a : Addr} {o : Obj} {vs : List V} (h : H a = some (.frz o (.tup vs))) : SqT K H a vs := .inl (.inr ⟨o, h⟩)
theorem sqT_hide {K : PySem.W.Frag} {H : Hp} {O : Addr → Bool} {a : Addr} {vs : List V} (h : hide H O a = some (.tup vs)) : SqT K H a vs := SqT.of (hide_some h).2
theorem sqL_hide {K : PySem.W.Frag} {H : Hp} {O : Addr → Bool} {a : Addr} {vs : List V} (h : SqL K (hide H O) a vs) : SqL K H a vs := Ext.ofHide.sqL h
theorem fits_le {n : Nat} (h : fits n = true) : n ≤ sizeLine := of_decide_eq_true h
/-! ### + and * -/
abbrev rAddD (K : PySem.W.Frag) : R2 := fun x y H Q => rI0 (fun i j => .int (i + j)) x y H Q ∨ ((∃ i j, x = .str i ∧ y = .str j ∧ i.length + j.length ≤ sizeLine ∧ Q (.str (i ++ j)) H) ∨ (rCat x y H Q ∨ rCatA K x y H Q))
theorem op_addD {X : Cx} : OpR X (binaryOp .Add) (rAddD X.K) := OpR.or op_add (OpR.or op_add_str (OpR.or op_cat op_catA))
theorem g_add : G2 M Ev (opD .add) (rAddD M.K) := by
  intro x y vx vy H O Q t bx by_ a
  cases x <;> cases y <;> first | exact a.elim | skip
  · exact .inl ⟨_, _, br_int bx, br_int by_, a.one _ rp_int⟩
  · obtain ⟨hc, a⟩ := After.ite a
    exact .inr (.inl ⟨_, _, br_str bx, br_str by_, fits_le hc, a.one _ rp_str⟩)
  · rename_i xs ys
    obtain ⟨hc, a⟩ := After.ite a
    obtain ⟨p, vs, rfl, h1, h2⟩ := br_tup bx
    obtain ⟨q, ws, rfl, h3, h4⟩ := br_tup by_
    refine .inr (.inr (.inr ⟨p, q, vs, ws, rfl, rfl, sqT_hide h1, sqT_hide h3, by rw [h2.length, h4.length]; exact fits_le hc, fun e => ?_, fun _ e => ?_, fun _ _ r hr => ?_⟩))
    · have e0 : xs = [] := List.eq_nil_of_length_eq_zero (by rw [← h2.length, e]; rfl)
      subst e0
      exact a.one _ by_
    · have e0 : ys = [] := List.eq_nil_of_length_eq_zero (by rw [← h4.length, e]; rfl)
      subst e0
      rw [List.append_nil] at a
      exact a.one _ bx
    · exact a _ (Ext.new hr) _ (rp_newT t hr (h2.append h4))
  · obtain ⟨hc, a⟩ := After.ite a
    obtain ⟨p, vs, rfl, h1, h2⟩ := br_lst bx
    obtain ⟨q, ws, rfl, h3, h4⟩ := br_lst by_
    exact .inr (.inr (.inl ⟨p, q, vs, ws, rfl, rfl, h1, h3, by rw [h2.length, h4.length]; exact fits_le hc, fun r hr => a _ (Ext.new hr) _ (rp_newL t hr (h2.append h4))⟩))
theorem RpL.rep {H : Hp} {ds : List D} {vs : List V} (h : RpL M H ds vs) : ∀ k : Nat, RpL M H (List.replicate k ds).flatten (List.replicate k vs).flatten
  | 0 => by simp only [List.replicate_zero, List.flatten_nil]; exact .nil
  | k + 1 => by
    rw [List.replicate_succ, List.replicate_succ, List.flatten_cons, List.flatten_cons]
    exact h.append (RpL.rep h k)
abbrev rMulD (K : PySem.W.Frag) : R2 := fun x y H Q => rI CMul (fun i j => .int (i * j)) x y H Q ∨ (rRep x y H Q ∨ DxK.rRepA K x y H Q)
theorem op_mulD {X : Cx} : OpR X (binaryOp .Mult) (rMulD X.K) := OpR.or op_mul (OpR.or op_rep DxK.op_repA)
theorem rep_ok {n : Nat} {k : Int} (h : (decide (0 ≤ k) && decide (k ≤ 1000) && decide (n ≤ 1000)) = true) : 0 ≤ k ∧ k ≤ 1000 ∧ n ≤ 1000 := by
  simp only [Bool.and_eq_true, decide_eq_true_eq] at h
  exact ⟨h.1.1, h.1.2, h.2⟩
theorem rep_len {n : Nat} {k : Int} (h : 0 ≤ k ∧ k ≤ 1000 ∧ n ≤ 1000) : n * k.toNat ≤ sizeLine := by
  rw [PySem.sizeLine_eq]
  have a1 : n * k.toNat ≤ 1000 * 1000 := Nat.mul_le_mul h.2.2 (by omega)
  omega
theorem g_mul : G2 M Ev (opD .mul) (rMulD M.K) := by
  intro x y vx vy H O Q t bx by_ a
  cases x <;> cases y <;> first | exact a.elim | skip
  · obtain ⟨hc, a⟩ := After.ite a
    exact .inl ⟨_, _, br_int bx, br_int by_, small_or hc, a.one _ rp_int⟩
  · rename_i xs k
    obtain ⟨hc, a⟩ := After.ite a
    obtain ⟨p, vs, rfl, h1, h2⟩ := br_tup bx
    have hk := rep_ok hc
    refine .inr (.inr ⟨p, k, vs, rfl, br_int by_, sqT_hide h1, hk.1, hk.2.1, by rw [h2.length]; exact hk.2.2, fun e => ?_, fun _ r hr => ?_⟩)
    · rcases e with e | e
      · have e0 : xs = [] := List.eq_nil_of_length_eq_zero (by rw [← h2.length, e]; rfl)
        subst e0
        have e1 : (List.replicate k.toNat ([] : List D)).flatten = [] := by simp
        rw [e1] at a
        exact a.one _ bx
      · subst e
        have e1 : (List.replicate (1 : Int).toNat xs).flatten = xs := by simp [List.replicate]
        rw [e1] at a
        exact a.one _ bx
    · exact a _ (Ext.new hr) _ (rp_newT t hr (h2.rep _))
  · rename_i xs k
    obtain ⟨hc, a⟩ := After.ite a
    obtain ⟨p, vs, rfl, h1, h2⟩ := br_lst bx
    have hk := rep_ok hc
    exact .inr (.inl ⟨p, k, vs, rfl, br_int by_, h1, by omega, by omega, by rw [h2.length]; exact rep_len hk, fun r hr => a _ (Ext.new hr) _ (rp_newL t hr (h2.rep _))⟩)
/-- the rule of each operator -/
theorem de_bin {X : Cx} {o : Op} {op : Operator} {a b : PySem.Expr} {pos : Pos} {f f' : DEnv → Res D} {k1 k2 k : DEnv → Bool} (hK : X.K = M.K)
    (ho : (o, op) ∈ [(Op.add, Operator.Add), (.sub, .Sub), (.mul, .Mult), (.fdiv, .FloorDiv), (.mod, .Mod), (.pow, .Pow), (.shl, .LShift), (.shr, .RShift), (.band, .BitAnd), (.bor, .BitOr), (.bxor, .BitXor)])
    (ha : PE X a (tE M T Ev f k1)) (hb : PE X b (tE M T Ev f' k2)) : PE X (.BinOp a op b pos) (tE M T Ev (fun env => do let x ← f env; let y ← f' env; opD o x y) k) := by
  simp only [List.mem_cons, List.not_mem_nil, or_false, Prod.mk.injEq] at ho
  rcases ho with ⟨rfl, rfl⟩ | ⟨rfl, rfl⟩ | ⟨rfl, rfl⟩ | ⟨rfl, rfl⟩ | ⟨rfl, rfl⟩ | ⟨rfl, rfl⟩ | ⟨rfl, rfl⟩ | ⟨rfl, rfl⟩ | ⟨rfl, rfl⟩ | ⟨rfl, rfl⟩ | ⟨rfl, rfl⟩
  · exact de_op op_addD (hK ▸ g_add) ha hb
  · exact de_op op_sub g_sub ha hb
  · exact de_op op_mulD (hK ▸ g_mul) ha hb
  · exact de_op op_fdivN g_fdiv ha hb
  · exact de_op op_modN g_mod ha hb
  · exact de_op op_pow g_pow ha hb
  · exact de_op op_shl g_shl ha hb
  · exact de_op op_shr g_shr ha hb
  · exact de_op op_and g_band ha hb
  · exact de_op op_or g_bor ha hb
  · exact de_op op_xor g_bxor ha hb
end
end Dx
namespace Dx
variable [Nm]
open PySem PySem.Spec L2
section
variable {M : MatC} {T : List Addr} {Ev : Nat → Hp → Prop}
/-! ### data that Python compares -/
mutual
theorem Rp.dp {H : Hp} : ∀ {d : D} {v : V} {p : PyData}, Rp M H d v → pyD d = some p → Dp M.K H v p
  | .non, v, p, h, e => by unfold Rp at h; unfold pyD at e; cases e; subst h; exact .non
  | .bl b, v, p, h, e => by unfold Rp at h; unfold pyD at e; cases e; subst h; exact .bl b
  | .int i, v, p, h, e => by unfold Rp at h; unfold pyD at e; cases e; subst h; exact .int i
  | .str s, v, p, h, e => by unfold Rp at h; unfold pyD at e; cases e; subst h; exact .str s
  | .tup ds, v, p, h, e => by
    unfold Rp at h; unfold pyD at e
    obtain ⟨a, vs, rfl, h2, h3⟩ := h
    cases q : pyL ds with
    | none => rw [q] at e; cases e
    | some ps => rw [q] at e; cases e; exact .tup (SqT.of h2) (RpL.dp h3 q)
  | .lst ds, v, p, h, e => by
    unfold Rp at h; unfold pyD at e
    obtain ⟨a, vs, rfl, h2, h3⟩ := h
    cases q : pyL ds with
    | none => rw [q] at e; cases e
    | some ps => rw [q] at e; cases e; exact .lst (SqL.of h2) (RpL.dp h3 q)
  | .ftup ds, v, p, h, e => by
    unfold Rp at h; unfold pyD at e
    obtain ⟨a, vs, o, rfl, _, h2, h3⟩ := h
    cases q : pyL ds with
    | none => rw [q] at e; cases e
    | some ps => rw [q] at e; cases e; exact .tup (sqT_frz h2) (RpL.dp h3 q)
  | .scr ds, _, _, _, e => by unfold pyD at e; cases e
  | .dct _ _ _, _, _, _, e => by unfold pyD at e; cases e
  | .set _, _, _, _, e => by unfold pyD at e; cases e
  | .mat _ _ _, _, _, _, e => by unfold pyD at e; cases e
theorem RpL.dp {H : Hp} : ∀ {ds : List D} {vs : List V} {ps : List PyData}, RpL M H ds vs → pyL ds = some ps → DpAll M.K H vs ps
  | [], vs, ps, h, e => by unfold RpL at h; unfold pyL at e; cases e; subst h; exact .nil
  | d :: ds, vs, ps, h, e => by
    unfold RpL at h; unfold pyL at e
    obtain ⟨v, r, rfl, h2, h3⟩ := h
    cases q1 : pyD d with
    | none => rw [q1] at e; cases e
    | some x =>
      cases q2 : pyL ds with
      | none => rw [q1, q2] at e; cases e
      | some xs =>
        rw [q1, q2] at e; cases e
        exact .cons (Rp.dp h2 q1) (RpL.dp h3 q2)
end
theorem dpMono {K : PySem.W.Frag} {H H' : Hp} (e : Ext H H') : ∀ {d : PyData} {v : V}, Dp K H v d → Dp K H' v d := by
  intro d v h
  exact Dp.rec (motive_1 := fun v d _ => Dp K H' v d) (motive_2 := fun vs ds _ => DpAll K H' vs ds) .non (fun b => .bl b) (fun i => .int i) (fun s => .str s) (fun h1 _ ih => .lst (e.sqL h1) ih) (fun h1 _ ih => .tup (e.sqT h1) ih) .nil (fun _ _ a b => .cons a b) h
theorem dpAllMono {K : PySem.W.Frag} {H H' : Hp} (e : Ext H H') : ∀ {ds : List PyData} {vs : List V}, DpAll K H vs ds → DpAll K H' vs ds := by
  intro d v h
  exact DpAll.rec (motive_1 := fun v d _ => Dp K H' v d) (motive_2 := fun vs ds _ => DpAll K H' vs ds) .non (fun b => .bl b) (fun i => .int i) (fun s => .str s) (fun h1 _ ih => .lst (e.sqL h1) ih) (fun h1 _ ih => .tup (e.sqT h1) ih) .nil (fun _ _ a b => .cons a b) h
theorem BRp.dp {H : Hp} {O : Addr → Bool} {d : D} {v : V} {p : PyData} (h : BRp M H O d v) (e : pyD d = some p) : Dp M.K H v p := by
  cases d with
  | lst ds =>
    obtain ⟨a, vs, rfl, h1, h2⟩ := br_lst h
    unfold pyD at e
    cases q : pyL ds with
    | none => rw [q] at e; cases e
    | some ps => rw [q] at e; cases e; exact .lst (SqL.of h1) (dpAllMono Ext.ofHide (RpL.dp h2 q))
  | dct _ _ _ => unfold pyD at e; cases e
  | non => exact dpMono Ext.ofHide (Rp.dp (H := hide H O) (d := .non) h e)
  | bl b => exact dpMono Ext.ofHide (Rp.dp (H := hide H O) (d := .bl b) h e)
  | int b => exact dpMono Ext.ofHide (Rp.dp (H := hide H O) (d := .int b) h e)
  | str b => exact dpMono Ext.ofHide (Rp.dp (H := hide H O) (d := .str b) h e)
  | tup b => exact dpMono Ext.ofHide (Rp.dp (H := hide H O) (d := .tup b) h e)
  | ftup b => exact dpMono Ext.ofHide (Rp.dp (H := hide H O) (d := .ftup b) h e)
  | scr b => unfold pyD at e; cases e
  | set b => unfold pyD at e; cases e
  | mat _ _ _ => unfold pyD at e; cases e
theorem eqD_of {x y : D} {b : Bool} (h : eqD x y = some b) : ∃ p q, pyD x = some p ∧ pyD y = some q ∧ SeqAt.shaped p = true ∧ SeqAt.shaped q = true ∧ PyData.eqv p q = b := by
  unfold eqD at h
  cases e1 : pyD x with
  | none => rw [e1] at h; cases h
  | some p =>
    cases e2 : pyD y with
    | none => rw [e1, e2] at h; cases h
    | some q =>
      rw [e1, e2] at h
      have h : (if SeqAt.shaped p = true ∧ SeqAt.shaped q = true then some (PyData.eqv p q) else none) = some b := h
      by_cases c : SeqAt.shaped p = true ∧ SeqAt.shaped q = true
      · rw [if_pos c] at h
        exact ⟨p, q, rfl, rfl, c.1, c.2, Option.some.inj h⟩
      · rw [if_neg c] at h; cases h
theorem notNone_ne {p : PyData} (h : notNone p = true) : p ≠ .none := by rintro rfl; cases h
theorem ordD_of {f : PyData → PyData → Bool} {x y : D} {b : Bool} (h : ordD f x y = some b) : ∃ p q, pyD x = some p ∧ pyD y = some q ∧ PySem.W.alike p q = true ∧ p ≠ .none ∧ p.depth ≤ 60 ∧ f p q = b := by
  unfold ordD at h
  cases e1 : pyD x with
  | none => rw [e1] at h; cases h
  | some p =>
    cases e2 : pyD y with
    | none => rw [e1, e2] at h; cases h
    | some q =>
      rw [e1, e2] at h
      have h : (if PySem.W.alike p q = true ∧ notNone p = true ∧ p.depth ≤ 60 then some (f p q) else none) = some b := h
      by_cases c : PySem.W.alike p q = true ∧ notNone p = true ∧ p.depth ≤ 60
      · rw [if_pos c] at h
        exact ⟨p, q, rfl, rfl, c.1, notNone_ne c.2.1, c.2.2, Option.some.inj h⟩
      · rw [if_neg c] at h; cases h
/-- the four orders -/
def rOrd (K : PySem.W.Frag) (f : PyData → PyData → Bool) : R2 := fun x y H Q => ∃ d e, Dp K H x d ∧ Dp K H y e ∧ PySem.W.alike d e = true ∧ d ≠ .none ∧ d.depth ≤ 60 ∧ Q (.bl (f d e)) H
theorem min_room {u a b : Nat} (h : a ≤ 60) (hu : u + 64 < cLine) : u + min a b < cLine := by omega
theorem op_ltD {X : Cx} (hu : X.A.units + 64 < cLine) : OpR X (compareOp .Lt) (rOrd X.K fun d e => PySem.W.dataLt d e) := by
  intro pins s σ H x y v u Q I rx ry ⟨d, e, hd, he, ha, hn, hz, q⟩
  obtain ⟨as, r1⟩ := Dp.reads I d x v hd rx
  obtain ⟨bs, r2⟩ := Dp.reads I e y u he ry
  exact PySem.W.lt_data r1 r2 ha hn (min_room hz hu) ⟨.bl _, H, I, rfl, q⟩
theorem op_gtD {X : Cx} (hu : X.A.units + 64 < cLine) : OpR X (compareOp .Gt) (rOrd X.K fun d e => PySem.W.dataLt e d) := by
  intro pins s σ H x y v u Q I rx ry ⟨d, e, hd, he, ha, hn, hz, q⟩
  obtain ⟨as, r1⟩ := Dp.reads I d x v hd rx
  obtain ⟨bs, r2⟩ := Dp.reads I e y u he ry
  exact PySem.W.gt_data r1 r2 ha hn (min_room hz hu) ⟨.bl _, H, I, rfl, q⟩
theorem op_leD {X : Cx} (hu : X.A.units + 64 < cLine) : OpR X (compareOp .LtE) (rOrd X.K fun d e => !PySem.W.dataLt e d) := by
  intro pins s σ H x y v u Q I rx ry ⟨d, e, hd, he, ha, hn, hz, q⟩
  obtain ⟨as, r1⟩ := Dp.reads I d x v hd rx
  obtain ⟨bs, r2⟩ := Dp.reads I e y u he ry
  exact PySem.W.le_data r1 r2 ha hn (min_room hz hu) ⟨.bl _, H, I, rfl, q⟩
theorem op_geD {X : Cx} (hu : X.A.units + 64 < cLine) : OpR X (compareOp .GtE) (rOrd X.K fun d e => !PySem.W.dataLt d e) := by
  intro pins s σ H x y v u Q I rx ry ⟨d, e, hd, he, ha, hn, hz, q⟩
  obtain ⟨as, r1⟩ := Dp.reads I d x v hd rx
  obtain ⟨bs, r2⟩ := Dp.reads I e y u he ry
  exact PySem.W.ge_data r1 r2 ha hn (min_room hz hu) ⟨.bl _, H, I, rfl, q⟩
theorem After.opt {α β : Type} {o : Option α} {g : α → Res β} {H : Hp} {P : β → Hp → Prop} (h : After Ev (optR o >>= g) H P) : ∃ a, o = some a ∧ After Ev (g a) H P := by
  cases o with
  | none => exact h.elim
  | some a => exact ⟨a, rfl, h⟩
theorem g_ord {o : Cm} {f : PyData → PyData → Bool} (e : ∀ x y, cmD o x y = optR (ordD f x y)) : G2 M Ev (cmG o) (rOrd M.K f) := by
  intro x y vx vy H O Q t bx by_ a
  have a : After Ev (cmD o x y >>= fun r => (.ok (D.bl r) : Res D)) H fun d H2 => ∀ v, Rp M (hide H2 O) d v → Q v H2 := a
  rw [e] at a
  obtain ⟨b, hb, a⟩ := After.opt a
  obtain ⟨p, q, e1, e2, h1, h2, h3, h4⟩ := ordD_of hb
  exact ⟨p, q, bx.dp e1, by_.dp e2, h1, h2, h3, by rw [h4]; exact a.one _ rp_bl⟩
theorem g_eq : G2 M Ev (cmG .eq) (rEqD M.K) := by
  intro x y vx vy H O Q t bx by_ a
  obtain ⟨b, hb, a⟩ := After.opt (o := eqD x y) a
  obtain ⟨p, q, e1, e2, h1, h2, h3⟩ := eqD_of hb
  exact ⟨p, q, bx.dp e1, by_.dp e2, h1, h2, by rw [h3]; exact a.one _ rp_bl⟩
theorem g_ne : G2 M Ev (cmG .ne) (rNeD M.K) := by
  intro x y vx vy H O Q t bx by_ a
  obtain ⟨b, hb, a⟩ := After.opt (o := (eqD x y).map (!·)) a
  cases q : eqD x y with
  | none => rw [q] at hb; cases hb
  | some c =>
    rw [q] at hb
    cases hb
    obtain ⟨p, r, e1, e2, h1, h2, h3⟩ := eqD_of q
    exact ⟨p, r, bx.dp e1, by_.dp e2, h1, h2, by rw [h3]; exact a.one _ rp_bl⟩
theorem br_isN {H : Hp} {O : Addr → Bool} {d : D} {v : V} (h : BRp M H O d v) : decide (v = .non) = isNonD d := by
  cases d with
  | non => rw [br_non h]; rfl
  | bl b => rw [br_bl h]; rfl
  | int b => rw [br_int h]; rfl
  | str b => rw [br_str h]; rfl
  | tup ds => obtain ⟨a, vs, rfl, _⟩ := br_tup h; rfl
  | lst ds => obtain ⟨a, vs, rfl, _⟩ := br_lst h; rfl
  | ftup ds => obtain ⟨a, vs, o, rfl, _⟩ := br_ftup h; rfl
  | scr ds => obtain ⟨a, vs, rfl, _⟩ := br_scr h; rfl
  | dct t ks vs => obtain ⟨a, ws, rfl, _⟩ := h; rfl
  | set ds => unfold BRp Rp at h; obtain ⟨a, S, n, rfl, _⟩ := h; rfl
  | mat m b r => unfold BRp Rp at h; obtain ⟨a, dx, fs, vm, vb, vr, rfl, _⟩ := h; rfl
theorem g_isN : G2 M Ev (cmG .isN) (fun x y H Q => y = .non ∧ Q (.bl (decide (x = .non))) H) := by
  intro x y vx vy H O Q t bx by_ a
  cases y <;> first | exact a.elim | skip
  refine ⟨br_non by_, ?_⟩
  rw [br_isN bx]
  exact a.one _ rp_bl
theorem g_notN : G2 M Ev (cmG .notN) (fun x y H Q => y = .non ∧ Q (.bl (!decide (x = .non))) H) := by
  intro x y vx vy H O Q t bx by_ a
  cases y <;> first | exact a.elim | skip
  refine ⟨br_non by_, ?_⟩
  rw [br_isN bx]
  exact a.one _ rp_bl
end
end Dx
namespace Dx
variable [Nm]
open PySem PySem.Spec L2
section
variable {M : MatC} {T : List Addr} {Ev : Nat → Hp → Prop}
theorem any_ints (i : Int) : ∀ is : List Int, ((is.map D.int).any fun d => atomEq d (.int i)) = decide (i ∈ is)
  | [] => by simp
  | j :: is => by
    rw [List.map_cons, List.any_cons, any_ints i is]
    by_cases e : j = i
    · simp [atomEq, e]
    · have : ¬ i = j := fun z => e z.symm
      simp [atomEq, e, this]
/-! ### in -/
def rInTD (K : PySem.W.Frag) : R2 := fun x y H Q => ∃ d ds, Dp K H x d ∧ Dp K H y (.tuple ds) ∧ SeqAt.shaped d = true ∧ SeqAt.shaped (.tuple ds) = true ∧ Q (.bl (ds.any fun z => PyData.eqv z d)) H
def rNiTD (K : PySem.W.Frag) : R2 := fun x y H Q => ∃ d ds, Dp K H x d ∧ Dp K H y (.tuple ds) ∧ SeqAt.shaped d = true ∧ SeqAt.shaped (.tuple ds) = true ∧ Q (.bl (!ds.any fun z => PyData.eqv z d)) H
theorem op_inTD {X : Cx} (hu : X.A.units + 65 < cLine) : OpR X (compareOp .In) (rInTD X.K) := by
  intro pins s σ H x y v u Q I rx ry ⟨d, ds, hd, he, sd, se, q⟩
  obtain ⟨as, r1⟩ := Dp.reads I d x v hd rx
  obtain ⟨bs, r2⟩ := Dp.reads I (.tuple ds) y u he ry
  exact SeqAt.in_tuple_reads r2 r1 (SeqAt.canLay_of_shaped se) (SeqAt.canLay_of_shaped sd) (PyProof.Rows.room_in_shaped sd hu) ⟨.bl _, H, I, rfl, q⟩
theorem op_niTD {X : Cx} (hu : X.A.units + 65 < cLine) : OpR X (compareOp .NotIn) (rNiTD X.K) := by
  intro pins s σ H x y v u Q I rx ry ⟨d, ds, hd, he, sd, se, q⟩
  obtain ⟨as, r1⟩ := Dp.reads I d x v hd rx
  obtain ⟨bs, r2⟩ := Dp.reads I (.tuple ds) y u he ry
  exact SeqAt.notIn_tuple_reads r2 r1 (SeqAt.canLay_of_shaped se) (SeqAt.canLay_of_shaped sd) (PyProof.Rows.room_in_shaped sd hu) ⟨.bl _, H, I, rfl, q⟩
/-- in a dict -/
def rInDc : R2 := fun x y H Q => ∃ a o, y = .ref a ∧ DGet H a x o ∧ Q (.bl o.isSome) H
def rNiDc : R2 := fun x y H Q => ∃ a o, y = .ref a ∧ DGet H a x o ∧ Q (.bl (!o.isSome)) H
theorem op_inDc {X : Cx} (hu : X.A.units + 1 < cLine) : OpR X (compareOp .In) rInDc := by
  intro pins s σ H x y v u Q I rx ry ⟨a, o, ey, g, q⟩
  subst ey
  obtain rfl : u = Value.ref a := ry
  exact d_in hu I g rx fun s' I' => ⟨.bl _, H, I', rfl, q⟩
theorem op_niDc {X : Cx} (hu : X.A.units + 1 < cLine) : OpR X (compareOp .NotIn) rNiDc := by
  intro pins s σ H x y v u Q I rx ry ⟨a, o, ey, g, q⟩
  subst ey
  obtain rfl : u = Value.ref a := ry
  exact d_notIn hu I g rx fun s' I' => ⟨.bl _, H, I', rfl, q⟩
theorem anyEq_of {x : D} {ds : List D} {b : Bool} (h : anyEq x ds = some b) : ∃ p ps, pyD x = some p ∧ pyL ds = some ps ∧ SeqAt.shaped p = true ∧ SeqAt.shaped (.list ps) = true ∧ (ps.any fun z => PyData.eqv z p) = b := by
  unfold anyEq at h
  cases e1 : pyD x with
  | none => rw [e1] at h; cases h
  | some p =>
    cases e2 : pyL ds with
    | none => rw [e1, e2] at h; cases h
    | some q =>
      rw [e1, e2] at h
      have h : (if SeqAt.shaped p = true ∧ SeqAt.shaped (.list q) = true then some (q.any fun z => PyData.eqv z p) else none) = some b := h
      by_cases c : SeqAt.shaped p = true ∧ SeqAt.shaped (.list q) = true
      · rw [if_pos c] at h
        exact ⟨p, q, rfl, rfl, c.1, c.2, Option.some.inj h⟩
      · rw [if_neg c] at h; cases h
theorem shaped_tl (ps : List PyData) : SeqAt.shaped (.list ps) = SeqAt.shaped (.tuple ps) := by
  unfold SeqAt.shaped PyData.canLay0 PyData.depth
  rfl
/-! ### the keys of a dict -/
theorem atom_kD (a b : Key) : atomEq (kD a) (kD b) = decide (a = b) := by
  cases a <;> cases b <;> simp [kD, atomEq]
theorem atoms_kD : ∀ (a b : List Key), atomsEq (a.map kD) (b.map kD) = decide (a = b)
  | [], [] => by simp [atomsEq]
  | [], _ :: _ => by simp [atomsEq]
  | _ :: _, [] => by simp [atomsEq]
  | x :: xs, y :: ys => by
    simp only [List.map_cons, atomsEq, atom_kD, atoms_kD xs ys]
    by_cases e : x = y <;> by_cases e2 : xs = ys <;> simp [e, e2]
theorem keyEq_kD (a b : Key) : keyEq (kD a) (kD b) = decide (a = b) := by
  rw [← atom_kD]
  cases a <;> cases b <;> rfl
theorem keyEq_tD (a b : List Key) : keyEq (.tup (a.map kD)) (.tup (b.map kD)) = decide (a = b) := atoms_kD a b
theorem keyK_of {d : D} (h : keyK d = true) : ∃ k : Key, d = kD k := by
  cases d with
  | int i => exact ⟨.inl i, rfl⟩
  | str s => exact ⟨.inr s, rfl⟩
  | _ => cases h
theorem keysK_of : ∀ {ds : List D}, ds.all keyK = true → ∃ ks : List Key, ds = ks.map kD
  | [], _ => ⟨[], rfl⟩
  | d :: ds, h => by
    rw [List.all_cons, Bool.and_eq_true] at h
    obtain ⟨k, rfl⟩ := keyK_of h.1
    obtain ⟨ks, rfl⟩ := keysK_of h.2
    exact ⟨k :: ks, rfl⟩
theorem keyT_of {d : D} (h : keyT d = true) : ∃ k : List Key, d = .tup (k.map kD) := by
  cases d with
  | tup ds =>
    obtain ⟨ks, rfl⟩ := keysK_of h
    exact ⟨ks, rfl⟩
  | _ => cases h
theorem keyK_kD (k : Key) : keyK (kD k) = true := by cases k <;> rfl
theorem keyT_kD (k : List Key) : keyT (.tup (k.map kD)) = true := by
  show (k.map kD).all keyK = true
  rw [List.all_eq_true]
  intro d hd
  obtain ⟨x, _, rfl⟩ := List.mem_map.mp hd
  exact keyK_kD x
theorem rp_kD {H : Hp} (k : Key) {v : V} (h : Rp M H (kD k) v) : v = kV k := by
  cases k with
  | inl i => unfold kD Rp at h; exact h
  | inr s => unfold kD Rp at h; exact h
theorem rpL_kD {H : Hp} : ∀ (ks : List Key) {vs : List V}, RpL M H (ks.map kD) vs → vs = ks.map kV
  | [], vs, h => by unfold RpL at h; exact h
  | k :: ks, vs, h => by
    rw [List.map_cons] at h
    unfold RpL at h
    obtain ⟨v, r, rfl, h2, h3⟩ := h
    rw [rp_kD k h2, rpL_kD ks h3]; rfl
/-- find in pairs -/
theorem valV_find {κ : Type} [DecidableEq κ] (k : κ) : ∀ (kvs : List (κ × V)), valV kvs k = (kvs.findIdx? fun p => decide (p.1 = k)).bind fun i => (kvs.map (·.2))[i]?
  | [] => rfl
  | p :: r => by
    unfold valV
    rw [List.find?_cons, List.findIdx?_cons]
    by_cases e : p.1 = k
    · simp [e]
    · have ih := valV_find k r
      unfold valV at ih
      simp only [e, decide_false]
      rw [ih]
      cases r.findIdx? fun p => decide (p.1 = k) <;> simp
theorem findK_kD (k : Key) : ∀ kvs : List (Key × V), findK (kvs.map fun p => kD p.1) (kD k) = kvs.findIdx? fun p => decide (p.1 = k)
  | [] => rfl
  | p :: r => by
    have ih := findK_kD k r
    unfold findK at ih ⊢
    rw [List.map_cons, List.findIdx?_cons, List.findIdx?_cons, keyEq_kD, ih]
theorem findK_tD (k : List Key) : ∀ kvs : List (List Key × V), findK (kvs.map fun p => .tup (p.1.map kD)) (.tup (k.map kD)) = kvs.findIdx? fun p => decide (p.1 = k)
  | [] => rfl
  | p :: r => by
    have ih := findK_tD k r
    unfold findK at ih ⊢
    rw [List.map_cons, List.findIdx?_cons, List.findIdx?_cons, keyEq_tD, ih]
theorem tagNe {k : Key} {ds : List Key} : kD k ≠ .tup (ds.map kD) := by cases k <;> (intro h; cases h)
/-- a look into a dict -/
theorem dget_of {H : Hp} {O : Addr → Bool} {t : Bool} {ks vs : List D} {k : D} {v vk : V} (hd : BRp M H O (.dct t ks vs) v) (hk : BRp M H O k vk) (hf : fitK t k = true) :
    ∃ a o, v = .ref a ∧ DGet H a vk o ∧ o.isSome = (findK ks k).isSome ∧ ∀ i, findK ks k = some i → ∃ d w, vs[i]? = some d ∧ o = some w ∧ Rp M (hide H O) d w := by
  obtain ⟨a, ws, rfl, hw, h⟩ := hd
  cases t with
  | false =>
    obtain ⟨kvs, h1, rfl, rfl⟩ := h
    obtain ⟨kk, rfl⟩ := keyK_of hf
    have ek : vk = kV kk := by
      cases kk with
      | inl i => exact br_int hk
      | inr i => exact br_str hk
    subst ek
    have fin : ∀ i, findK (kvs.map fun p => kD p.1) (kD kk) = some i → ∃ d w, vs[i]? = some d ∧ valV kvs kk = some w ∧ Rp M (hide H O) d w := fun i hi => by
      rw [findK_kD] at hi
      have hlt : i < kvs.length := by
        have := List.findIdx?_eq_some_iff_getElem.mp hi
        exact this.1
      obtain ⟨w, hw1⟩ : ∃ w, (kvs.map (·.2))[i]? = some w := ⟨_, List.getElem?_eq_getElem (by simpa using hlt)⟩
      obtain ⟨d, hd1, hd2⟩ := hw.getV hw1
      exact ⟨d, w, hd1, by rw [valV_find, hi]; exact hw1, hd2⟩
    refine ⟨a, valV kvs kk, rfl, .inl ⟨kvs, kk, h1, rfl, rfl⟩, ?_, fin⟩
    rw [findK_kD, valV_find]
    cases e : kvs.findIdx? fun p => decide (p.1 = kk) with
    | none => rfl
    | some i =>
      obtain ⟨d, w, _, q, _⟩ := fin i (by rw [findK_kD]; exact e)
      rw [valV_find, e] at q
      rw [q]; rfl
  | true =>
    obtain ⟨kvs, h1, rfl, rfl⟩ := h
    obtain ⟨kk, rfl⟩ := keyT_of hf
    obtain ⟨b, us, rfl, hb, hu⟩ := br_tup hk
    have eu := rpL_kD kk hu
    subst eu
    have fin : ∀ i, findK (kvs.map fun p => .tup (p.1.map kD)) (.tup (kk.map kD)) = some i → ∃ d w, vs[i]? = some d ∧ valV kvs kk = some w ∧ Rp M (hide H O) d w := fun i hi => by
      rw [findK_tD] at hi
      have hlt : i < kvs.length := by
        have := List.findIdx?_eq_some_iff_getElem.mp hi
        exact this.1
      obtain ⟨w, hw1⟩ : ∃ w, (kvs.map (·.2))[i]? = some w := ⟨_, List.getElem?_eq_getElem (by simpa using hlt)⟩
      obtain ⟨d, hd1, hd2⟩ := hw.getV hw1
      exact ⟨d, w, hd1, by rw [valV_find, hi]; exact hw1, hd2⟩
    refine ⟨a, valV kvs kk, rfl, .inr ⟨kvs, kk, b, h1, rfl, (hide_some hb).2, rfl⟩, ?_, fin⟩
    rw [findK_tD, valV_find]
    cases e : kvs.findIdx? fun p => decide (p.1 = kk) with
    | none => rfl
    | some i =>
      obtain ⟨d, w, _, q, _⟩ := fin i (by rw [findK_tD]; exact e)
      rw [valV_find, e] at q
      rw [q]; rfl
abbrev rInAll (K : PySem.W.Frag) (w : World) : R2 := fun x y H Q => rInD K x y H Q ∨ (rInTD K x y H Q ∨ (rInDc x y H Q ∨ rSIn w x y H Q))
abbrev rNiAll (K : PySem.W.Frag) (w : World) : R2 := fun x y H Q => rNotInD K x y H Q ∨ (rNiTD K x y H Q ∨ (rNiDc x y H Q ∨ rSNotIn w x y H Q))
theorem op_inAll {X : Cx} (hu : X.A.units + 65 < cLine) : OpR X (compareOp .In) (rInAll X.K X.w) := OpR.or (op_inD hu) (OpR.or (op_inTD hu) (OpR.or (op_inDc (by omega)) or_sin))
theorem op_niAll {X : Cx} (hu : X.A.units + 65 < cLine) : OpR X (compareOp .NotIn) (rNiAll X.K X.w) := OpR.or (op_notInD hu) (OpR.or (op_niTD hu) (OpR.or (op_niDc (by omega)) or_snotin))
theorem pyL_lst {ds : List D} {ps : List PyData} (h : pyL ds = some ps) : pyD (.lst ds) = some (.list ps) := by unfold pyD; rw [h]; rfl
theorem pyL_tup {ds : List D} {ps : List PyData} (h : pyL ds = some ps) : pyD (.tup ds) = some (.tuple ps) := by unfold pyD; rw [h]; rfl
theorem g_in : G2 M Ev (cmG .isin) (rInAll M.K M.w) := by
  intro x y vx vy H O Q t bx by_ a
  cases y with
  | lst ds =>
    obtain ⟨b, hb, a⟩ := After.opt (o := anyEq x ds) (by cases x <;> exact a)
    obtain ⟨p, ps, e1, e2, h1, h2, h3⟩ := anyEq_of hb
    exact .inl ⟨p, ps, bx.dp e1, by_.dp (pyL_lst e2), h1, h2, by rw [h3]; exact a.one _ rp_bl⟩
  | tup ds =>
    obtain ⟨b, hb, a⟩ := After.opt (o := anyEq x ds) (by cases x <;> exact a)
    obtain ⟨p, ps, e1, e2, h1, h2, h3⟩ := anyEq_of hb
    exact .inr (.inl ⟨p, ps, bx.dp e1, by_.dp (pyL_tup e2), h1, by rw [← shaped_tl]; exact h2, by rw [h3]; exact a.one _ rp_bl⟩)
  | dct t' ks vs =>
    have a : After Ev ((if fitK t' x then .ok (findK ks x).isSome else .bad : Res Bool) >>= fun r => (.ok (D.bl r) : Res D)) H fun d H2 => ∀ v, Rp M (hide H2 O) d v → Q v H2 := by cases x <;> exact a
    by_cases hf : fitK t' x = true
    · rw [if_pos hf] at a
      obtain ⟨p, o, rfl, g, e, _⟩ := dget_of by_ bx hf
      exact .inr (.inr (.inl ⟨p, o, rfl, g, by rw [e]; exact a.one _ rp_bl⟩))
    · rw [if_neg hf] at a; exact a.elim
  | set ds =>
    cases x <;> first | exact a.elim | skip
    rename_i i
    have b2 := by_
    unfold BRp Rp at b2
    obtain ⟨p, S, n, rfl, h1, is, rfl, _, _, h4⟩ := b2
    refine .inr (.inr (.inr ⟨i, p, S, n, br_int bx, rfl, (hide_some' h1).2, ?_⟩))
    rw [h4, ← any_ints]
    exact a.one _ rp_bl
  | _ => cases x <;> exact a.elim
theorem g_ni : G2 M Ev (cmG .nin) (rNiAll M.K M.w) := by
  intro x y vx vy H O Q t bx by_ a
  cases y with
  | lst ds =>
    obtain ⟨b, hb, a⟩ := After.opt (o := (anyEq x ds).map (!·)) (by cases x <;> exact a)
    cases q : anyEq x ds with
    | none => rw [q] at hb; cases hb
    | some c =>
      rw [q] at hb; cases hb
      obtain ⟨p, ps, e1, e2, h1, h2, h3⟩ := anyEq_of q
      exact .inl ⟨p, ps, bx.dp e1, by_.dp (pyL_lst e2), h1, h2, by rw [h3]; exact a.one _ rp_bl⟩
  | tup ds =>
    obtain ⟨b, hb, a⟩ := After.opt (o := (anyEq x ds).map (!·)) (by cases x <;> exact a)
    cases q : anyEq x ds with
    | none => rw [q] at hb; cases hb
    | some c =>
      rw [q] at hb; cases hb
      obtain ⟨p, ps, e1, e2, h1, h2, h3⟩ := anyEq_of q
      exact .inr (.inl ⟨p, ps, bx.dp e1, by_.dp (pyL_tup e2), h1, by rw [← shaped_tl]; exact h2, by rw [h3]; exact a.one _ rp_bl⟩)
  | dct t' ks vs =>
    have a : After Ev ((if fitK t' x then .ok (!(findK ks x).isSome) else .bad : Res Bool) >>= fun r => (.ok (D.bl r) : Res D)) H fun d H2 => ∀ v, Rp M (hide H2 O) d v → Q v H2 := by cases x <;> exact a
    by_cases hf : fitK t' x = true
    · rw [if_pos hf] at a
      obtain ⟨p, o, rfl, g, e, _⟩ := dget_of by_ bx hf
      exact .inr (.inr (.inl ⟨p, o, rfl, g, by rw [e]; exact a.one _ rp_bl⟩))
    · rw [if_neg hf] at a; exact a.elim
  | set ds =>
    cases x <;> first | exact a.elim | skip
    rename_i i
    have b2 := by_
    unfold BRp Rp at b2
    obtain ⟨p, S, n, rfl, h1, is, rfl, _, _, h4⟩ := b2
    refine .inr (.inr (.inr ⟨i, p, S, n, br_int bx, rfl, (hide_some' h1).2, ?_⟩))
    rw [h4, ← any_ints]
    exact a.one _ rp_bl
  | _ => cases x <;> exact a.elim
/-- which comparison is which -/
def cmOp : Cm → CmpOp
  | .eq => .Eq
  | .ne => .NotEq
  | .lt => .Lt
  | .le => .LtE
  | .gt => .Gt
  | .ge => .GtE
  | .isN => .Is
  | .notN => .IsNot
  | .isin => .In
  | .nin => .NotIn
def cmR (K : PySem.W.Frag) (w : World) : Cm → R2
  | .eq => rEqD K
  | .ne => rNeD K
  | .lt => rOrd K fun d e => PySem.W.dataLt d e
  | .gt => rOrd K fun d e => PySem.W.dataLt e d
  | .le => rOrd K fun d e => !PySem.W.dataLt e d
  | .ge => rOrd K fun d e => !PySem.W.dataLt d e
  | .isN => fun x y H Q => y = .non ∧ Q (.bl (decide (x = .non))) H
  | .notN => fun x y H Q => y = .non ∧ Q (.bl (!decide (x = .non))) H
  | .isin => rInAll K w
  | .nin => rNiAll K w
theorem op_cm {X : Cx} (hu : X.A.units + 65 < cLine) (o : Cm) : OpR X (compareOp (cmOp o)) (cmR X.K X.w o) := by
  cases o with
  | eq => exact op_eqD (by omega)
  | ne => exact op_neD (by omega)
  | lt => exact op_ltD (by omega)
  | gt => exact op_gtD (by omega)
  | le => exact op_leD (by omega)
  | ge => exact op_geD (by omega)
  | isN => exact op_isN
  | notN => exact op_notN
  | isin => exact op_inAll hu
  | nin => exact op_niAll hu
theorem g_cm (o : Cm) : G2 M Ev (cmG o) (cmR M.K M.w o) := by
  cases o with
  | eq => exact g_eq
  | ne => exact g_ne
  | lt => exact g_ord fun x y => by cases x <;> rfl
  | gt => exact g_ord fun x y => by cases x <;> rfl
  | le => exact g_ord fun x y => by cases x <;> rfl
  | ge => exact g_ord fun x y => by cases x <;> rfl
  | isN => exact g_isN
  | notN => exact g_notN
  | isin => exact g_in
  | nin => exact g_ni
theorem de_cmp {X : Cx} {o : Cm} {a b : PySem.Expr} {pos : Pos} {f f' : DEnv → Res D} {k1 k2 k : DEnv → Bool} (hK : X.K = M.K) (hw : X.w = M.w) (hu : X.A.units + 65 < cLine) (hm : behindInMarks (cmOp o) b = false)
    (ha : PE X a (tE M T Ev f k1)) (hb : PE X b (tE M T Ev f' k2)) : PE X (.Compare a [cmOp o] [b] pos) (tE M T Ev (fun env => do let x ← f env; let y ← f' env; cmG o x y) k) :=
  pe_weak (pe_cmpR (op_cm hu o) ha hb hm) fun σ H Q q => rd2 (hK ▸ hw ▸ g_cm o) q
end
end Dx
namespace Dx
variable [Nm]
open PySem PySem.Spec L2
section
variable {M : MatC} {T : List Addr} {Ev : Nat → Hp → Prop}
/-! ### tests -/
theorem tru_of {H : Hp} {O : Addr → Bool} {d : D} {v : V} {b : Bool} (h : BRp M H O d v) (e : truD d = some b) : TruV M.K v H b := by
  cases d with
  | non => rw [br_non h]; cases e; rfl
  | bl b => rw [br_bl h]; cases e; rfl
  | int i => rw [br_int h]; cases e; rfl
  | tup ds =>
    obtain ⟨a, vs, rfl, h1, h2⟩ := br_tup h
    cases e
    refine .inr (.inl ⟨vs, sqT_hide h1, ?_⟩)
    have := h2.length
    cases vs <;> cases ds <;> first | rfl | simp at this
  | lst ds =>
    obtain ⟨a, vs, rfl, h1, h2⟩ := br_lst h
    cases e
    refine .inl ⟨vs, SqL.of h1, ?_⟩
    have := h2.length
    cases vs <;> cases ds <;> first | rfl | simp at this
  | _ => cases e
theorem dt_val {X : Cx} {a : PySem.Expr} {f : DEnv → Res D} {k : DEnv → Bool} (hK : X.K = M.K) (ha : PE X a (tE M T Ev f k)) (he : ∀ whole, isTrue a X.env whole = (do let v ← whole; standAt a.pos; holding [v] (truthy v))) :
    PT X a (tT M T Ev fun env => do let x ← f env; optR (truD x)) := by
  refine pt_weak (pt_truth ha he) fun σ H Q ⟨H₀, B, O, env, R, h⟩ => ?_
  refine ⟨H₀, B, O, env, R, After.mono (After.bind h) (Ext.refl H) fun d H1 e1 _ q v b _ => ?_⟩
  cases e : truD d with
  | none => rw [e] at q; exact q.elim
  | some k =>
    rw [e] at q
    exact ⟨k, hK ▸ tru_of b e, q.one⟩
theorem dt_cmp {X : Cx} {o : Cm} {a b : PySem.Expr} {pos : Pos} {f f' : DEnv → Res D} {k1 k2 : DEnv → Bool} (hK : X.K = M.K) (hw : X.w = M.w) (hu : X.A.units + 65 < cLine) (hm : behindInMarks (cmOp o) b = false)
    (ha : PE X a (tE M T Ev f k1)) (hb : PE X b (tE M T Ev f' k2)) : PT X (.Compare a [cmOp o] [b] pos) (tT M T Ev (fun env => do let x ← (do let x ← f env; let y ← f' env; cmG o x y); optR (truD x))) := by
  refine pt_weak (pt_cmpR (op_cm hu o) ha hb hm) fun σ H Q ⟨H₀, B, O, env, R, h⟩ => ?_
  have key : tE M T Ev (fun env => do let x ← f env; let y ← f' env; cmG o x y) (fun _ => true) σ H fun x H1 => ∃ k, x = .bl k ∧ Q k H1 := by
    refine ⟨H₀, B, O, env, R, After.mono (After.bind h) (Ext.refl H) fun d H1 e1 ed q v b _ => ?_⟩
    cases e : truD d with
    | none => rw [e] at q; exact q.elim
    | some k =>
      rw [e] at q
      have : d = .bl k := by
        cases hd : f env with
        | ok x =>
          cases hd' : f' env with
          | ok y =>
            have ed' : (cmD o x y >>= fun r => (.ok (.bl r) : Res D)) = .ok d := by
              have := ed
              simp only [hd, hd', Res.bind_ok] at this
              exact this
            cases hc : cmD o x y with
            | ok r => rw [hc] at ed'; cases ed'; cases e; rfl
            | exc n => rw [hc] at ed'; cases ed'
            | bad => rw [hc] at ed'; cases ed'
          | exc n => simp [hd, hd'] at ed
          | bad => simp [hd, hd'] at ed
        | exc n => simp [hd] at ed
        | bad => simp [hd] at ed
      subst this
      exact ⟨k, br_bl b, q.one⟩
  exact rd2 (hK ▸ hw ▸ g_cm o) key
theorem dt_not {X : Cx} {a : PySem.Expr} {pos : Pos} {f : DEnv → Res Bool} (ha : PT X a (tT M T Ev f)) : PT X (.UnaryOp .Not a pos) (tT M T Ev fun env => do let b ← f env; .ok (!b)) :=
  pt_weak (pt_not ha) fun σ H Q ⟨H₀, B, O, env, R, h⟩ => ⟨H₀, B, O, env, R, After.mono (After.bind h) (Ext.refl H) fun b H1 e1 _ q => q.one⟩
theorem dt_and {X : Cx} {t u : TT} {f g : DEnv → Res Bool} (ht : ∀ σ H Q, tT M T Ev f σ H Q → t σ H Q) (hu : ∀ σ H Q, tT M T Ev g σ H Q → u σ H Q) : ∀ σ H Q, tT M T Ev (fun env => do let k ← f env; if k then g env else .ok false) σ H Q → tAnd t u σ H Q := by
  intro σ H Q ⟨H₀, B, O, env, R, h⟩
  refine ht σ H _ ⟨H₀, B, O, env, R, After.mono (After.bind h) (Ext.refl H) fun b H1 e1 _ q => ?_⟩
  cases b with
  | true => exact hu σ H1 Q ⟨H₀, B, O, env, R.mono e1, q⟩
  | false => exact q.one
theorem dt_or {X : Cx} {t u : TT} {f g : DEnv → Res Bool} (ht : ∀ σ H Q, tT M T Ev f σ H Q → t σ H Q) (hu : ∀ σ H Q, tT M T Ev g σ H Q → u σ H Q) : ∀ σ H Q, tT M T Ev (fun env => do let k ← f env; if k then .ok true else g env) σ H Q → tOr t u σ H Q := by
  intro σ H Q ⟨H₀, B, O, env, R, h⟩
  refine ht σ H _ ⟨H₀, B, O, env, R, After.mono (After.bind h) (Ext.refl H) fun b H1 e1 _ q => ?_⟩
  cases b with
  | true => exact q.one
  | false => exact hu σ H1 Q ⟨H₀, B, O, env, R.mono e1, q⟩
theorem pw_weak {X : Cx} {e : PySem.Expr} {t t' : TT} (h : PW X e t) (w : ∀ σ H Q, t' σ H Q → t σ H Q) : PW X e t' := ⟨fun wh pins s σ H Q I q => h.run wh pins s σ H Q I (w σ H Q q)⟩
/-! ### values by tests -/
theorem de_ife {X : Cx} {c a b : PySem.Expr} {pos : Pos} {fc : DEnv → Res Bool} {f g : DEnv → Res D} {ka kb : DEnv → Bool} (hc : PT X c (tT M T Ev fc)) (ha : PE X a (tE M T Ev f ka)) (hb : PE X b (tE M T Ev g kb)) :
    PE X (.IfExp c a b pos) (tE M T Ev (fun env => do let k ← fc env; if k then f env else g env) (fun env => ka env && kb env)) := by
  refine pe_weak (pe_ifExp hc ha hb) fun σ H Q ⟨H₀, B, O, env, R, h⟩ => ?_
  refine ⟨H₀, B, O, env, R, After.mono (After.bind h) (Ext.refl H) fun k H1 e1 _ q => ?_⟩
  cases k with
  | true => exact ⟨H₀, B, O, env, R.mono e1, After.mono q (Ext.refl H1) fun d H2 e2 _ p v b kk => p v b fun z => kk (Bool.and_eq_true_iff.mp z).1⟩
  | false => exact ⟨H₀, B, O, env, R.mono e1, After.mono q (Ext.refl H1) fun d H2 e2 _ p v b kk => p v b fun z => kk (Bool.and_eq_true_iff.mp z).2⟩
theorem de_and {X : Cx} {a b : PySem.Expr} {rest : List PySem.Expr} {pos : Pos} {f g : DEnv → Res D} {ka kb : DEnv → Bool} (ha : PE X a (tE M T Ev f ka)) (hb : PE X (.BoolOp .And (b :: rest) pos) (tE M T Ev g kb)) :
    PE X (.BoolOp .And (a :: b :: rest) pos) (tE M T Ev (fun env => do let x ← f env; andG g x env) kb) := by
  refine pe_weak (pe_and ha hb) fun σ H Q ⟨H₀, B, O, env, R, h⟩ => ?_
  refine ⟨H₀, B, O, env, R, After.mono (After.bind h) (Ext.refl H) fun x H1 e1 _ q v bv _ => ?_⟩
  obtain ⟨c, rfl⟩ : ∃ c, x = .bl c := by
    cases x with
    | bl c => exact ⟨c, rfl⟩
    | _ => exact q.elim
  refine ⟨c, br_bl bv, ?_⟩
  cases c with
  | true => exact ⟨H₀, B, O, env, R.mono e1, q⟩
  | false => exact q.one _ (rp_bl (H := hide H1 O)).br fun _ => rp_bl
theorem de_or {X : Cx} {a b : PySem.Expr} {rest : List PySem.Expr} {pos : Pos} {f g : DEnv → Res D} {ka kb : DEnv → Bool} (ha : PE X a (tE M T Ev f ka)) (hb : PE X (.BoolOp .Or (b :: rest) pos) (tE M T Ev g kb)) :
    PE X (.BoolOp .Or (a :: b :: rest) pos) (tE M T Ev (fun env => do let x ← f env; orG g x env) kb) := by
  refine pe_weak (pe_or ha hb) fun σ H Q ⟨H₀, B, O, env, R, h⟩ => ?_
  refine ⟨H₀, B, O, env, R, After.mono (After.bind h) (Ext.refl H) fun x H1 e1 _ q v bv _ => ?_⟩
  obtain ⟨c, rfl⟩ : ∃ c, x = .bl c := by
    cases x with
    | bl c => exact ⟨c, rfl⟩
    | _ => exact q.elim
  refine ⟨c, br_bl bv, ?_⟩
  cases c with
  | false => exact ⟨H₀, B, O, env, R.mono e1, q⟩
  | true => exact q.one _ (rp_bl (H := hide H1 O)).br fun _ => rp_bl
end
end Dx
namespace Dx
variable [Nm]
open PySem PySem.Spec L2
section
variable {M : MatC} {T : List Addr} {Ev : Nat → Hp → Prop}
theorem de_not {X : Cx} {a : PySem.Expr} {pos : Pos} {f : DEnv → Res D} {k k' : DEnv → Bool} (hK : X.K = M.K) (ha : PE X a (tE M T Ev f k)) : PE X (.UnaryOp .Not a pos) (tE M T Ev (fun env => do let x ← f env; let b ← optR (truD x); .ok (.bl (!b))) k') := by
  refine pe_weak (pe_notT ha) fun σ H Q ⟨H₀, B, O, env, R, h⟩ => ?_
  refine ⟨H₀, B, O, env, R, After.mono (After.bind h) (Ext.refl H) fun x H1 e1 _ q v bv _ => ?_⟩
  obtain ⟨b, hb, q⟩ := After.opt q
  exact ⟨b, hK ▸ tru_of bv hb, q.one _ (rp_bl (H := hide H1 O)).br fun _ => rp_bl⟩
theorem chain_read {X : Cx} {o o' : Cm} {f g h : DEnv → Res D} {k1 k2 k3 k : DEnv → Bool} (hK : X.K = M.K) (hw : X.w = M.w) {σ : L2.St} {H : Hp} {Q : VK} (q : tE M T Ev (fun env => do let x ← f env; let y ← g env; let r ← cmD o x y; if r then do let z ← h env; cmG o' y z else .ok (.bl false)) k σ H Q) :
    tChain (cmR X.K X.w o) (cmR X.K X.w o') (tE M T Ev f k1) (tE M T Ev g k2) (tE M T Ev h k3) σ H Q := by
  obtain ⟨H₀, B, O, env, R, q⟩ := q
  refine ⟨H₀, B, O, env, R, After.mono (After.bind q) (Ext.refl H) fun x H1 e1 _ q v bv _ => ?_⟩
  refine ⟨H₀, B, O, env, R.mono e1, After.mono (After.bind q) (Ext.refl H1) fun y H2 e2 _ q v2 bv2 _ => ?_⟩
  have t2 : Trk O H2 := Trk.mono R.trk (e1.trans e2)
  refine (hK ▸ hw ▸ g_cm (Ev := Ev) o : G2 M Ev (cmG o) (cmR X.K X.w o)) x y v v2 H2 O _ t2 (bv.mono e2) bv2 ?_
  cases hc : cmD o x y with
  | ok r =>
    rw [hc] at q
    show After Ev (cmD o x y >>= fun r => (.ok (.bl r) : Res D)) H2 _
    rw [hc]
    intro H3 e3 w hw3
    refine ⟨r, br_bl hw3.br, ?_⟩
    cases r with
    | false => exact q H3 e3 _ (rp_bl (H := hide H3 O)).br fun _ => rp_bl
    | true =>
      refine ⟨H₀, B, O, env, R.mono ((e1.trans e2).trans e3), After.mono (After.bind q) e3 fun z H4 e4 _ q v4 bv4 _ => ?_⟩
      exact (hK ▸ hw ▸ g_cm (Ev := Ev) o' : G2 M Ev (cmG o') (cmR X.K X.w o')) y z v2 v4 H4 O Q (Trk.mono t2 (e3.trans e4)) (bv2.mono (e3.trans e4)) bv4 (After.mono q (Ext.refl H4) fun d3 H3 _ _ p v3 b3 => p v3 b3.br fun _ => b3)
  | exc n =>
    rw [hc] at q
    show After Ev (cmD o x y >>= fun r => (.ok (.bl r) : Res D)) H2 _
    rw [hc]; exact q
  | bad => rw [hc] at q; exact q.elim
theorem de_chain {X : Cx} {o o' : Cm} {a b c : PySem.Expr} {pos : Pos} {f g h : DEnv → Res D} {k1 k2 k3 k : DEnv → Bool} (hK : X.K = M.K) (hw : X.w = M.w) (hu : X.A.units + 65 < cLine) (hm : lastMarks [cmOp o, cmOp o'] [b, c] = false)
    (ha : PE X a (tE M T Ev f k1)) (hb : PE X b (tE M T Ev g k2)) (hc : PE X c (tE M T Ev h k3)) : PE X (.Compare a [cmOp o, cmOp o'] [b, c] pos)
      (tE M T Ev (fun env => do let x ← f env; let y ← g env; let r ← cmD o x y; if r then do let z ← h env; cmG o' y z else .ok (.bl false)) k) := by
  exact pe_weak (pe_chain (op_cm hu o) (op_cm hu o') ha hb hc hm) fun σ H Q q => chain_read hK hw q
/-! ### arguments, displays -/
theorem BRpL.mono {H H' : Hp} {O : Addr → Bool} (e : Ext H H') : ∀ {ds : List D} {vs : List V}, BRpL M H O ds vs → BRpL M H' O ds vs
  | [], _, h => h
  | d :: ds, vs, h => by
    obtain ⟨v, r, h1, h2, h3⟩ := h
    exact ⟨v, r, h1, h2.mono e, BRpL.mono e h3⟩
theorem BRpL.length {H : Hp} {O : Addr → Bool} : ∀ {ds : List D} {vs : List V}, BRpL M H O ds vs → vs.length = ds.length
  | [], _, h => by cases h; rfl
  | d :: ds, vs, h => by
    obtain ⟨v, r, rfl, h2, h3⟩ := h
    rw [List.length_cons, List.length_cons, h3.length]
theorem da_nil {X : Cx} {k : DEnv → Bool} : PA X [] (tL M T Ev (fun _ => .ok []) k) :=
  ⟨fun pos pins s σ H Q I ⟨H₀, B, O, env, R, h⟩ => pa_nil.run pos pins s σ H Q I (h.one [] rfl fun _ => RpL.nil)⟩
theorem da_cons {X : Cx} {e : PySem.Expr} {es : List PySem.Expr} {f : DEnv → Res D} {g : DEnv → Res (List D)} {k kr : DEnv → Bool} (hs : starEach (e :: es) X.env = (false, eval e X.env) :: starEach es X.env)
    (he : PE X e (tE M T Ev f k)) (hr : PA X es (tL M T Ev g kr)) : PA X (e :: es) (tL M T Ev (fun env => do let x ← f env; let r ← g env; .ok (x :: r)) fun env => k env && kr env) :=
  ⟨fun pos pins s σ H Q I ⟨H₀, B, O, env, R, h⟩ => (pa_cons he hr hs).run pos pins s σ H Q I (by
    refine ⟨H₀, B, O, env, R, After.mono (After.bind h) (Ext.refl H) fun x H1 e1 _ q v bv kv => ?_⟩
    refine ⟨H₀, B, O, env, R.mono e1, After.mono (After.bind q) (Ext.refl H1) fun r H2 e2 _ q vs bvs kvs => ?_⟩
    refine q.one _ ⟨v, vs, rfl, bv.mono e2, bvs⟩ fun z => ?_
    have z := Bool.and_eq_true_iff.mp z
    exact RpL.cons (Rp.mono (e2.hide O) x (kv z.1)) (kvs z.2))⟩
theorem de_tup {X : Cx} {es : List PySem.Expr} {n : Nat} {pos : Pos} {f : DEnv → Res (List D)} {kl k : DEnv → Bool} (h : PA X es (tL M T Ev f kl)) : PE X (.Tuple es n pos) (tE M T Ev (tupG kl f) k) := by
  refine pe_weak (pe_tup h) fun σ H Q ⟨H₀, B, O, env, R, q⟩ => ?_
  obtain ⟨hk, q⟩ := After.ite (c := kl env = true) q
  refine ⟨H₀, B, O, env, R, After.mono (After.bind q) (Ext.refl H) fun ds H1 e1 _ q vs bvs kvs => ?_⟩
  obtain ⟨hf, q⟩ := After.ite q
  have hv := kvs hk
  refine ⟨by rw [hv.length]; exact fits_le hf, fun p hp => ?_⟩
  have r := rp_newT (Trk.mono R.trk e1) hp hv
  exact q _ (Ext.new hp) _ r.br fun _ => r
theorem dn_lst {X : Cx} {es : List PySem.Expr} {pos : Pos} {f : DEnv → Res (List D)} {kl : DEnv → Bool} (h : PA X es (tL M T Ev f kl)) : PE X (.List es pos) (tN M T Ev (lstG kl f)) := by
  refine pe_weak (pe_lst h) fun σ H Q ⟨H₀, B, O, env, R, q⟩ => ?_
  have q : After Ev ((if kl env = true then (do let ds ← f env; if fits ds.length then .ok (.lst ds) else .bad) else .bad : Res D) >>= ownOf) H fun s H1 => ∀ p, H p = none → OwnAt M H1 (hide H1 (plus O p)) p s → Q (.ref p) H1 := q
  by_cases hk : kl env = true
  · rw [if_pos hk] at q
    refine ⟨H₀, B, O, env, R, After.mono (r := f env) (P := fun ds H1 => After Ev ((if fits ds.length then .ok (.lst ds) else .bad : Res D) >>= ownOf) H1 fun s H1 => ∀ p, H p = none → OwnAt M H1 (hide H1 (plus O p)) p s → Q (.ref p) H1) ?_ (Ext.refl H) fun ds H1 e1 _ q vs bvs kvs => ?_⟩
    · cases e : f env with
      | ok ds => rw [e] at q; exact fun H1 e1 => After.mono q e1 fun _ _ _ _ p => p
      | exc n => rw [e] at q; exact q
      | bad => rw [e] at q; exact q
    · have hv := kvs hk
      by_cases hf : fits ds.length = true
      · rw [if_pos hf] at q
        refine ⟨by rw [hv.length]; exact fits_le hf, fun p hp => ?_⟩
        exact q _ (Ext.new hp) p (e1.free hp) (own_newL hp hv)
      · rw [if_neg hf] at q; exact q.elim
  · rw [if_neg hk] at q; exact q.elim
theorem lst_own {kl : DEnv → Bool} {f : DEnv → Res (List D)} : ∀ env d, lstG kl f env = .ok d → ∃ s, ownOf d = .ok s := by
  intro env d h
  unfold lstG at h
  split at h
  · cases e : f env with
    | ok ds =>
      rw [e] at h
      have h : (if fits ds.length then .ok (.lst ds) else .bad : Res D) = .ok d := h
      split at h
      · cases h; exact ⟨_, rfl⟩
      · cases h
    | exc n => rw [e] at h; cases h
    | bad => rw [e] at h; cases h
  · cases h
theorem dn_dct {X : Cx} {t : Bool} {e : PySem.Expr} (h : PE X e (if t then tDNewT else tDNewK)) : PE X e (tN M T Ev fun _ => .ok (.dct t [] [])) := by
  cases t with
  | false => exact pe_weak h fun σ H Q ⟨H₀, B, O, env, R, q⟩ => fun p hp => q _ (Ext.new hp) p hp ⟨[], upd_same, rfl, RpL.nil⟩
  | true => exact pe_weak h fun σ H Q ⟨H₀, B, O, env, R, q⟩ => fun p hp => q _ (Ext.new hp) p hp ⟨[], upd_same, rfl, RpL.nil⟩
theorem de_new {X : Cx} {e : PySem.Expr} {f : DEnv → Res D} {k : DEnv → Bool} (hf : ∀ env d, f env = .ok d → ∃ s, ownOf d = .ok s) (h : PE X e (tN M T Ev f)) : PE X e (tE M T Ev f k) :=
  pe_weak h fun _ _ _ q => tN_tE hf q
/-! ### subscripts -/
abbrev rIxAll (K : PySem.W.Frag) : R2 := fun x y H Q => rIxT K x y H Q ∨ rIxL K x y H Q
theorem ix_all {X : Cx} : IxR X (rIxAll X.K) := ix_tup.or ix_list
theorem atI_map {α β : Type} {xs : List α} {ys : List β} (hl : ys.length = xs.length) {i : Int} {x : α} (h : atI xs i = some x) : ∃ j, xs[j]? = some x ∧ ixN ys.length i = some j := by
  unfold atI at h
  cases e : ixN xs.length i with
  | none => rw [e] at h; cases h
  | some j => rw [e] at h; exact ⟨j, h, by rw [hl]; exact e⟩
theorem g_ix : ∀ (x y : D) (vx vy : V) (H : Hp) (O : Addr → Bool) (Q : VK), (∀ t ks vs, x ≠ .dct t ks vs) → Trk O H → BRp M H O x vx → BRp M H O y vy → After Ev (idxD x y) H (fun d H2 => ∀ v, Rp M (hide H2 O) d v → Q v H2) → rIxAll M.K vx vy H Q := by
  intro x y vx vy H O Q hx t bx by_ a
  have fin : ∀ {ds : List D} {vs : List V} {i : Int}, RpL M (hide H O) ds vs → After Ev (optR (atI ds i)) H (fun d H2 => ∀ v, Rp M (hide H2 O) d v → Q v H2) → ∃ w, atI vs i = some w ∧ Q w H := by
    intro ds vs i h a
    cases e : atI ds i with
    | none => rw [e] at a; exact a.elim
    | some d =>
      rw [e] at a
      obtain ⟨j, h1, h2⟩ := atI_map h.length e
      obtain ⟨w, h3, h4⟩ := h.get h1
      exact ⟨w, by unfold atI; rw [h2]; exact h3, a.one w h4⟩
  cases x with
  | tup ds =>
    cases y <;> first | exact a.elim | skip
    obtain ⟨p, vs, rfl, h1, h2⟩ := br_tup bx
    obtain ⟨w, e, q⟩ := fin h2 a
    exact .inl ⟨p, vs, _, w, rfl, br_int by_, sqT_hide h1, e, q⟩
  | ftup ds =>
    cases y <;> first | exact a.elim | skip
    obtain ⟨p, vs, o, rfl, _, _, h1, h2⟩ := br_ftup bx
    obtain ⟨w, e, q⟩ := fin h2 a
    exact .inl ⟨p, vs, _, w, rfl, br_int by_, sqT_frz h1, e, q⟩
  | lst ds =>
    cases y <;> first | exact a.elim | skip
    obtain ⟨p, vs, rfl, h1, h2⟩ := br_lst bx
    obtain ⟨w, e, q⟩ := fin h2 a
    exact .inr ⟨p, vs, _, w, rfl, br_int by_, SqL.of h1, e, q⟩
  | scr ds =>
    cases y <;> first | exact a.elim | skip
    obtain ⟨p, vs, rfl, h1, h2⟩ := br_scr bx
    obtain ⟨w, e, q⟩ := fin h2 a
    exact .inr ⟨p, vs, _, w, rfl, br_int by_, sqL_hide h1, e, q⟩
  | dct t' ks vs => exact absurd rfl (hx t' ks vs)
  | _ => cases y <;> exact a.elim
end
end Dx
namespace Dx
variable [Nm]
open PySem PySem.Spec L2
section
variable {M : MatC} {T : List Addr} {Ev : Nat → Hp → Prop}
theorem ix_dct {X : Cx} (hu : X.A.units + 1 < cLine) : IxR X (fun x y H Q => ∃ a v, x = .ref a ∧ DGet H a y (some v) ∧ Q v H) := by
  intro value slice pins s σ H x y v u Q I rx ry ⟨a, w, ex, g, q⟩ hs
  subst ex
  cases rx
  have hT := dict_typeIs I g
  unfold PyProof.Rows.subscriptTail
  refine wpAny_bind ?_
  rw [getitemInPython_of_ne hT.not_modules]
  refine wpAny_bind (wpAny_specialOf hT PySem.F.slot_dict_getitem.lookup ?_)
  have fin : wpAny (model X.prog X.w) X.A (subscripted slice false (.ref a) u) (fun r s₃ => wpAny (model X.prog X.w) X.A (letTemporaryGo value (.ref a) r >>= fun _ => pure r) (EP X pins σ Q) X.xe s₃) X.xe s := by
    rw [hs]
    exact wpAny_operating (thn (d_getItem hu I g ry fun w' s3 I3 rw' => (⟨w, H, I3, rw', q⟩ : EP X pins σ Q w' s3)) fun r s₃ h₃ => wpAny_bind (wpAny_letTemporaryGo (wpAny_pure h₃)))
  first
    | exact wpAny_pure (wpAny_bind fin)
    | exact wpAny_bind (wpAny_pure (wpAny_bind fin))
    | exact wpAny_bind fin
abbrev rIxD (K : PySem.W.Frag) : R2 := fun x y H Q => rIxAll K x y H Q ∨ ∃ a v, x = .ref a ∧ DGet H a y (some v) ∧ Q v H
theorem g_idx : G2 M Ev idxD (rIxD M.K) := by
  intro x y vx vy H O Q t bx by_ a
  by_cases hx : ∃ t ks vs, x = .dct t ks vs
  · obtain ⟨t', ks, vs, rfl⟩ := hx
    have a : After Ev (if fitK t' y then (match findK ks y with | some i => optR vs[i]? | none => .bad) else .bad) H fun d H2 => ∀ v, Rp M (hide H2 O) d v → Q v H2 := a
    obtain ⟨hf, a⟩ := After.ite a
    obtain ⟨p, o, rfl, g, e, h⟩ := dget_of bx by_ hf
    cases hk : findK ks y with
    | none => rw [hk] at a; exact a.elim
    | some i =>
      rw [hk] at a
      obtain ⟨d, w, h1, h2, h3⟩ := h i hk
      subst h2
      have a : After Ev (optR vs[i]?) H fun d H2 => ∀ v, Rp M (hide H2 O) d v → Q v H2 := a
      rw [h1] at a
      exact .inr ⟨p, w, rfl, g, a.one w h3⟩
  · exact .inl (g_ix x y vx vy H O Q (fun t ks vs e => hx ⟨t, ks, vs, e⟩) t bx by_ a)
def notSlice : PySem.Expr → Bool
  | .Slice .. => false
  | _ => true
theorem plainIx {b : PySem.Expr} (h : notSlice b = true) : PlainIx b := by
  cases b <;> first | exact fun _ _ => rfl | cases h
theorem de_idx {X : Cx} {a b : PySem.Expr} {pos : Pos} {f f' : DEnv → Res D} {k1 k2 k : DEnv → Bool} (hK : X.K = M.K) (hu : X.A.units + 1 < cLine) (hb' : notSlice b = true)
    (ha : PE X a (tE M T Ev f k1)) (hb : PE X b (tE M T Ev f' k2)) : PE X (.Subscript a b pos) (tE M T Ev (fun env => do let x ← f env; let y ← f' env; idxD x y) k) :=
  pe_weak (pe_ix (IxR.or ix_all (ix_dct hu)) ha hb (plainIx hb')) fun σ H Q q => rd2 (hK ▸ g_idx) q
/-! ### slices -/
def tO (M : MatC) (T : List Addr) (Ev : Nat → Hp → Prop) (f : DEnv → Res (Option Int)) : TO := fun σ H Q => ∃ H₀ B O env, EnvR M T H₀ B O σ H env ∧ After Ev (f env) H fun o H1 => Q o H1
theorem do_none {X : Cx} : PO X none (tO M T Ev fun _ => .ok none) := by
  refine ⟨fun pins s σ H Q I ⟨H₀, B, O, env, R, h⟩ => ?_⟩
  exact po_none.run pins s σ H Q I h.one
theorem do_some {X : Cx} {e : PySem.Expr} {f : DEnv → Res D} {k : DEnv → Bool} (h : PE X e (tE M T Ev f k)) : PO X (some e) (tO M T Ev fun env => f env >>= intO) := by
  refine ⟨fun pins s σ H Q I ⟨H₀, B, O, env, R, h'⟩ => ?_⟩
  refine (po_some h).run pins s σ H Q I ⟨H₀, B, O, env, R, After.mono (After.bind h') (Ext.refl H) fun d H1 e1 _ q v b _ => ?_⟩
  cases d <;> first | exact q.elim | exact ⟨_, br_int b, q.one⟩
theorem cut_len {ds : List D} {vs : List V} (h : vs.length = ds.length) (lo hi : Option Int) {H : Hp} (r : RpL M H ds vs) : RpL M H (cutL ds lo hi) (cutV vs lo hi) := by
  unfold cutL cutV
  rw [h]
  exact RpL.take _ (RpL.drop _ r)
theorem cut_whole {α : Type} (xs : List α) (lo hi : Option Int) (h : HT.sIx xs.length 0 lo = 0 ∧ HT.sIx xs.length xs.length hi = xs.length) : (xs.drop (HT.sIx xs.length 0 lo)).take (HT.sIx xs.length xs.length hi - HT.sIx xs.length 0 lo) = xs := by
  rw [h.1, h.2]; simp
abbrev rSlD (K : PySem.W.Frag) : V → Option Int → Option Int → Hp → VK → Prop := fun x lo hi H Q => rSlA K x lo hi H Q ∨ rSlL K x lo hi H Q
theorem de_slc {X : Cx} {e : PySem.Expr} {lo hi : Option PySem.Expr} {p2 pos : Pos} {f : DEnv → Res D} {fl fh : DEnv → Res (Option Int)} {k k' : DEnv → Bool} (hK : X.K = M.K) (he : PE X e (tE M T Ev f k)) (hl : PO X lo (tO M T Ev fl)) (hh : PO X hi (tO M T Ev fh)) :
    PE X (.Subscript e (.Slice lo hi none p2) pos) (tE M T Ev (fun env => do let x ← f env; let l ← fl env; let h ← fh env; slcD x l h) k') := by
  refine pe_weak (pe_slice (SlR.or sl_tupA sl_list) he hl hh) fun σ H Q ⟨H₀, B, O, env, R, q⟩ => ?_
  refine ⟨H₀, B, O, env, R, After.mono (After.bind q) (Ext.refl H) fun x H1 e1 _ q v bv _ => ?_⟩
  refine ⟨H₀, B, O, env, R.mono e1, After.mono (After.bind q) (Ext.refl H1) fun l H2 e2 _ q => ?_⟩
  refine ⟨H₀, B, O, env, R.mono (e1.trans e2), After.mono (After.bind q) (Ext.refl H2) fun h H3 e3 _ q => ?_⟩
  have t3 : Trk O H3 := Trk.mono R.trk ((e1.trans e2).trans e3)
  have b3 := bv.mono (e2.trans e3)
  cases x with
  | tup ds =>
    obtain ⟨a, vs, rfl, h1, h2⟩ := br_tup b3
    refine .inl ⟨a, vs, rfl, hK ▸ sqT_hide h1, fun hw => ?_, fun hn p hp => ?_⟩
    · have e : cutL ds l h = ds := cut_whole ds l h (by rw [← h2.length]; exact hw)
      have q : After Ev (.ok (.tup (cutL ds l h))) H3 fun d H1 => ∀ v, BRp M H1 O d v → (k' env = true → Rp M (hide H1 O) d v) → Q v H1 := q
      rw [e] at q
      exact q.one _ b3 fun _ => b3
    · have r := rp_newT t3 hp (cut_len h2.length l h h2)
      exact q _ (Ext.new hp) _ r.br fun _ => r
  | lst ds =>
    obtain ⟨a, vs, rfl, h1, h2⟩ := br_lst b3
    refine .inr ⟨a, vs, rfl, SqL.of h1, fun p hp => ?_⟩
    have r := rp_newL t3 hp (cut_len h2.length l h h2)
    exact q _ (Ext.new hp) _ r.br fun _ => r
  | _ => exact q.elim
/-! ### calls of what is built in, by values -/
abbrev GL (M : MatC) (Ev : Nat → Hp → Prop) (g : List D → Res D) (r : List V → Hp → VK → Prop) : Prop := ∀ (ds : List D) (vs : List V) (H : Hp) (O : Addr → Bool) (Q : VK), Trk O H → BRpL M H O ds vs → After Ev (g ds) H (fun d H2 => ∀ v, Rp M (hide H2 O) d v → Q v H2) → r vs H Q
theorem rdL {g : List D → Res D} {r : List V → Hp → VK → Prop} (hr : GL M Ev g r) {f : DEnv → Res (List D)} {k k' : DEnv → Bool} {σ : L2.St} {H : Hp} {Q : VK} (h : tE M T Ev (fun env => do let ds ← f env; g ds) k' σ H Q) : tCB r (tL M T Ev f k) σ H Q := by
  obtain ⟨H₀, B, O, env, R, h⟩ := h
  refine ⟨H₀, B, O, env, R, After.mono (After.bind h) (Ext.refl H) fun ds H1 e1 _ q vs b _ => ?_⟩
  exact hr ds vs H1 O Q (Trk.mono R.trk e1) b (After.mono q (Ext.refl H1) fun d2 H2 _ _ p v2 b2 => p v2 b2.br fun _ => b2)
theorem br1 {H : Hp} {O : Addr → Bool} {d : D} {vs : List V} (h : BRpL M H O [d] vs) : ∃ v, vs = [v] ∧ BRp M H O d v := by
  obtain ⟨v, r, rfl, h2, h3⟩ := h
  cases h3
  exact ⟨v, rfl, h2⟩
theorem br2 {H : Hp} {O : Addr → Bool} {d e : D} {vs : List V} (h : BRpL M H O [d, e] vs) : ∃ v w, vs = [v, w] ∧ BRp M H O d v ∧ BRp M H O e w := by
  obtain ⟨v, r, rfl, h2, h3⟩ := h
  obtain ⟨w, rfl, h4⟩ := br1 h3
  exact ⟨v, w, rfl, h2, h4⟩
theorem gl_len : GL M Ev (biD .len) (fun xs H Q => ∃ x n, xs = [x] ∧ LenV M.K x H n ∧ Q (.int n) H) := by
  intro ds vs H O Q t b a
  rcases ds with _ | ⟨d, _ | ⟨d2, r⟩⟩
  · exact a.elim
  · obtain ⟨v, rfl, b1⟩ := br1 b
    cases d with
    | tup ds =>
      obtain ⟨p, vs, rfl, h1, h2⟩ := br_tup b1
      exact ⟨_, ds.length, rfl, .inr ⟨vs, sqT_hide h1, h2.length.symm⟩, a.one _ rp_int⟩
    | ftup ds =>
      obtain ⟨p, vs, o, rfl, _, _, h1, h2⟩ := br_ftup b1
      exact ⟨_, ds.length, rfl, .inr ⟨vs, sqT_frz h1, h2.length.symm⟩, a.one _ rp_int⟩
    | lst ds =>
      obtain ⟨p, vs, rfl, h1, h2⟩ := br_lst b1
      exact ⟨_, ds.length, rfl, .inl ⟨vs, SqL.of h1, h2.length.symm⟩, a.one _ rp_int⟩
    | scr ds =>
      obtain ⟨p, vs, rfl, h1, h2⟩ := br_scr b1
      exact ⟨_, ds.length, rfl, .inl ⟨vs, sqL_hide h1, h2.length.symm⟩, a.one _ rp_int⟩
    | str s =>
      obtain ⟨hc, a⟩ := After.ite a
      rw [br_str b1]
      exact ⟨_, s.length, rfl, ⟨fits_le hc, rfl⟩, a.one _ rp_int⟩
    | _ => exact a.elim
  · cases d <;> exact a.elim
end
end Dx
namespace Dx
variable [Nm]
open PySem PySem.Spec L2
open PySem.W (EachIs)
section
variable {M : MatC} {T : List Addr} {Ev : Nat → Hp → Prop}
theorem gl_abs : GL M Ev (biD .abs) (fun xs H Q => ∃ i, xs = [.int i] ∧ Q (.int (if i < 0 then -i else i)) H) := by
  intro ds vs H O Q t b a
  rcases ds with _ | ⟨d, _ | ⟨d2, r⟩⟩
  · exact a.elim
  · obtain ⟨v, rfl, b1⟩ := br1 b
    cases d <;> first | exact a.elim | exact ⟨_, by rw [br_int b1], a.one _ rp_int⟩
  · cases d <;> exact a.elim
theorem ints_of {H : Hp} : ∀ {ds : List D} {vs : List V} {ns : List Int}, RpL M H ds vs → intsD ds = some ns → vs = ns.map V.int
  | [], vs, ns, h, e => by unfold RpL at h; cases e; exact h
  | d :: ds, vs, ns, h, e => by
    unfold RpL at h
    obtain ⟨v, r, rfl, h2, h3⟩ := h
    cases d <;> first | cases e | skip
    rename_i i
    unfold intsD at e
    cases q : intsD ds with
    | none => rw [q] at e; cases e
    | some ms =>
      rw [q] at e; cases e
      have hv : v = .int i := by unfold Rp at h2; exact h2
      rw [hv, ints_of h3 q]; rfl
theorem fold_max : ∀ (ns : List Int) (n : Int), ns.foldl max n ∈ n :: ns ∧ ∀ y ∈ n :: ns, y ≤ ns.foldl max n
  | [], n => ⟨List.mem_cons_self, fun y hy => by rw [List.mem_singleton.mp hy]; exact Int.le_refl _⟩
  | m :: ns, n => by
    obtain ⟨h1, h2⟩ := fold_max ns (max n m)
    have hm : max n m ≤ ns.foldl max (max n m) := h2 _ List.mem_cons_self
    refine ⟨?_, fun y hy => ?_⟩
    · rcases List.mem_cons.mp h1 with e | h1
      · rw [List.foldl_cons, e]
        rcases (show max n m = n ∨ max n m = m by omega) with q | q <;> rw [q] <;> simp
      · rw [List.foldl_cons]; exact List.mem_cons_of_mem _ (List.mem_cons_of_mem _ h1)
    · rw [List.foldl_cons]
      rcases List.mem_cons.mp hy with e | hy
      · rw [e]; omega
      rcases List.mem_cons.mp hy with e | hy
      · rw [e]; omega
      · exact h2 y (List.mem_cons_of_mem _ hy)
theorem fold_min : ∀ (ns : List Int) (n : Int), ns.foldl min n ∈ n :: ns ∧ ∀ y ∈ n :: ns, ns.foldl min n ≤ y
  | [], n => ⟨List.mem_cons_self, fun y hy => by rw [List.mem_singleton.mp hy]; exact Int.le_refl _⟩
  | m :: ns, n => by
    obtain ⟨h1, h2⟩ := fold_min ns (min n m)
    have hm : ns.foldl min (min n m) ≤ min n m := h2 _ List.mem_cons_self
    refine ⟨?_, fun y hy => ?_⟩
    · rcases List.mem_cons.mp h1 with e | h1
      · rw [List.foldl_cons, e]
        rcases (show min n m = n ∨ min n m = m by omega) with q | q <;> rw [q] <;> simp
      · rw [List.foldl_cons]; exact List.mem_cons_of_mem _ (List.mem_cons_of_mem _ h1)
    · rw [List.foldl_cons]
      rcases List.mem_cons.mp hy with e | hy
      · rw [e]; omega
      rcases List.mem_cons.mp hy with e | hy
      · rw [e]; omega
      · exact h2 y (List.mem_cons_of_mem _ hy)
abbrev rMaxD (K : PySem.W.Frag) : List V → Hp → VK → Prop := fun xs H Q => (∃ i j, xs = [.int i, .int j] ∧ Q (.int (if j > i then j else i)) H) ∨ rMax K xs H Q
theorem gl_max : GL M Ev (biD .max) (rMaxD M.K) := by
  intro ds vs H O Q t b a
  rcases ds with _ | ⟨d, _ | ⟨d2, _ | ⟨d3, r⟩⟩⟩
  · exact a.elim
  · obtain ⟨v, rfl, b1⟩ := br1 b
    cases d <;> first | exact a.elim | skip
    rename_i ds
    obtain ⟨p, vs, rfl, h1, h2⟩ := br_lst b1
    have a : After Ev (match intsD ds with | some (n :: ns) => Res.ok (D.int (ns.foldl max n)) | _ => .bad) H (fun d H2 => ∀ v, Rp M (hide H2 O) d v → Q v H2) := a
    cases q : intsD ds with
    | none => rw [q] at a; exact a.elim
    | some ns =>
      rw [q] at a
      cases ns with
      | nil => exact a.elim
      | cons n ns =>
        refine .inr ⟨p, n :: ns, rfl, by rw [← ints_of h2 q]; exact SqL.of h1, Nat.succ_pos _, fun m hm hle => ?_⟩
        obtain ⟨k1, k2⟩ := fold_max ns n
        have e : m = ns.foldl max n := Int.le_antisymm (k2 _ hm) (hle _ k1)
        rw [e]; exact a.one _ rp_int
  · obtain ⟨v, w, rfl, b1, b2⟩ := br2 b
    cases d <;> cases d2 <;> first | exact a.elim | exact .inl ⟨_, _, by rw [br_int b1, br_int b2], a.one _ rp_int⟩
  · cases d <;> cases d2 <;> exact a.elim
abbrev rMinD (K : PySem.W.Frag) : List V → Hp → VK → Prop := fun xs H Q => (∃ i j, xs = [.int i, .int j] ∧ Q (.int (if j < i then j else i)) H) ∨ rMin K xs H Q
theorem gl_min : GL M Ev (biD .min) (rMinD M.K) := by
  intro ds vs H O Q t b a
  rcases ds with _ | ⟨d, _ | ⟨d2, _ | ⟨d3, r⟩⟩⟩
  · exact a.elim
  · obtain ⟨v, rfl, b1⟩ := br1 b
    cases d <;> first | exact a.elim | skip
    rename_i ds
    obtain ⟨p, vs, rfl, h1, h2⟩ := br_lst b1
    have a : After Ev (match intsD ds with | some (n :: ns) => Res.ok (D.int (ns.foldl min n)) | _ => .bad) H (fun d H2 => ∀ v, Rp M (hide H2 O) d v → Q v H2) := a
    cases q : intsD ds with
    | none => rw [q] at a; exact a.elim
    | some ns =>
      rw [q] at a
      cases ns with
      | nil => exact a.elim
      | cons n ns =>
        refine .inr ⟨p, n :: ns, rfl, by rw [← ints_of h2 q]; exact SqL.of h1, Nat.succ_pos _, fun m hm hle => ?_⟩
        obtain ⟨k1, k2⟩ := fold_min ns n
        have e : m = ns.foldl min n := Int.le_antisymm (hle _ k1) (k2 _ hm)
        rw [e]; exact a.one _ rp_int
  · obtain ⟨v, w, rfl, b1, b2⟩ := br2 b
    cases d <;> cases d2 <;> first | exact a.elim | exact .inl ⟨_, _, by rw [br_int b1, br_int b2], a.one _ rp_int⟩
  · cases d <;> cases d2 <;> exact a.elim
theorem gl_sum : GL M Ev (biD .sum) (rSum M.K) := by
  intro ds vs H O Q t b a
  rcases ds with _ | ⟨d, _ | ⟨d2, r⟩⟩
  · exact a.elim
  · obtain ⟨v, rfl, b1⟩ := br1 b
    cases d <;> first | exact a.elim | skip
    rename_i ds
    obtain ⟨p, vs, rfl, h1, h2⟩ := br_lst b1
    have a : After Ev (match intsD ds with | some ns => Res.ok (D.int ns.sum) | none => .bad) H (fun d H2 => ∀ v, Rp M (hide H2 O) d v → Q v H2) := a
    cases q : intsD ds with
    | none => rw [q] at a; exact a.elim
    | some ns =>
      rw [q] at a
      refine ⟨p, ns, rfl, ?_, a.one _ rp_int⟩
      rw [← ints_of h2 q]; exact SqL.of h1
  · cases d <;> exact a.elim
abbrev rTupD (K : PySem.W.Frag) : List V → Hp → VK → Prop := fun xs H Q => ∃ p ys, xs = [.ref p] ∧ ((SqL K H p ys ∧ ∀ l, H l = none → Q (.ref l) (upd H l (.tup ys))) ∨ (SqT K H p ys ∧ Q (.ref p) H))
abbrev rLstD (K : PySem.W.Frag) : List V → Hp → VK → Prop := fun xs H Q => ∃ p ys, xs = [.ref p] ∧ (SqL K H p ys ∨ SqT K H p ys) ∧ ∀ l, H l = none → Q (.ref l) (upd H l (.lst ys))
theorem gl_tuple : GL M Ev (biD .tuple) (rTupD M.K) := by
  intro ds vs H O Q t b a
  rcases ds with _ | ⟨d, _ | ⟨d2, r⟩⟩
  · exact a.elim
  · obtain ⟨v, rfl, b1⟩ := br1 b
    cases d <;> first | exact a.elim | skip
    · obtain ⟨p, vs, rfl, h1, h2⟩ := br_tup b1
      exact ⟨p, vs, rfl, .inr ⟨sqT_hide h1, a.one _ b1⟩⟩
    · obtain ⟨p, vs, rfl, h1, h2⟩ := br_lst b1
      exact ⟨p, vs, rfl, .inl ⟨SqL.of h1, fun l hl => a _ (Ext.new hl) _ (rp_newT t hl h2)⟩⟩
  · cases d <;> exact a.elim
theorem gl_list : GL M Ev (biD .list) (rLstD M.K) := by
  intro ds vs H O Q t b a
  rcases ds with _ | ⟨d, _ | ⟨d2, r⟩⟩
  · exact a.elim
  · obtain ⟨v, rfl, b1⟩ := br1 b
    cases d <;> first | exact a.elim | skip
    · obtain ⟨p, vs, rfl, h1, h2⟩ := br_tup b1
      exact ⟨p, vs, rfl, .inr (sqT_hide h1), fun l hl => a _ (Ext.new hl) _ (rp_newL t hl h2)⟩
    · obtain ⟨p, vs, rfl, h1, h2⟩ := br_lst b1
      exact ⟨p, vs, rfl, .inl (SqL.of h1), fun l hl => a _ (Ext.new hl) _ (rp_newL t hl h2)⟩
  · cases d <;> exact a.elim
theorem gl_int : GL M Ev (biD .int) (fun xs H Q => (∃ i, xs = [.int i] ∧ Q (.int i) H) ∨ ∃ k, xs = [.bl k] ∧ Q (.int (if k then 1 else 0)) H) := by
  intro ds vs H O Q t b a
  rcases ds with _ | ⟨d, _ | ⟨d2, r⟩⟩
  · exact a.elim
  · obtain ⟨v, rfl, b1⟩ := br1 b
    cases d <;> first | exact a.elim | skip
    · exact .inr ⟨_, by rw [br_bl b1], a.one _ rp_int⟩
    · exact .inl ⟨_, by rw [br_int b1], a.one _ rp_int⟩
  · cases d <;> exact a.elim
theorem gl_str : GL M Ev (biD .str) (fun xs H Q => ∃ i, xs = [.int i] ∧ i.natAbs.log2 < 1920 ∧ Q (.str (toString i)) H) := by
  intro ds vs H O Q t b a
  rcases ds with _ | ⟨d, _ | ⟨d2, r⟩⟩
  · exact a.elim
  · obtain ⟨v, rfl, b1⟩ := br1 b
    cases d <;> first | exact a.elim | skip
    obtain ⟨hc, a⟩ := After.ite a
    exact ⟨_, by rw [br_int b1], hc, a.one _ rp_str⟩
  · cases d <;> exact a.elim
/-! ### sorted -/
/-- sorted of a list of data -/
def rSortD (M : MatC) : List V → Hp → VK → Prop := fun xs H Q => ∃ a ds ws O, xs = [V.ref a] ∧ SqL M.K H a ws ∧ RpL M (hide H O) ds ws ∧ canSort ds = true ∧
  ∀ ws' p, RpL M (hide H O) (ds.mergeSort leD) ws' → H p = none → Q (.ref p) (upd H p (.lst ws'))
theorem sortOk_of {ds : List D} (h : sortOk ds = true) : (∀ d ∈ ds, ∃ p, pyD d = some p ∧ pyE d = p ∧ p.depth ≤ 60) ∧ PySem.W.AllAlike (ds.map pyE) ∧ PySem.W.Sortable (ds.map pyE) := by
  unfold sortOk at h
  rw [Bool.and_eq_true, Bool.and_eq_true] at h
  obtain ⟨⟨h1, h2⟩, h3⟩ := h
  refine ⟨fun d hd => ?_, ?_, ?_⟩
  · have := List.all_eq_true.mp h1 d hd
    rw [Bool.and_eq_true] at this
    obtain ⟨q1, q2⟩ := this
    cases e : pyD d with
    | none => rw [e] at q1; cases q1
    | some p =>
      have e2 : pyE d = p := by unfold pyE; rw [e]; rfl
      exact ⟨p, rfl, e2, by rw [e2] at q2; exact of_decide_eq_true q2⟩
  · intro d hd d' hd'
    obtain ⟨x, hx, rfl⟩ := List.mem_map.mp hd
    obtain ⟨y, hy, rfl⟩ := List.mem_map.mp hd'
    exact List.all_eq_true.mp (List.all_eq_true.mp h2 x hx) y hy
  · rw [Bool.or_eq_true] at h3
    rcases h3 with h3 | h3
    · refine .inl fun d hd => ?_
      obtain ⟨x, hx, rfl⟩ := List.mem_map.mp hd
      have := List.all_eq_true.mp h3 x hx
      revert this
      generalize pyE x = p
      intro this
      unfold tup1 at this
      split at this
      · exact ⟨_, _, rfl⟩
      · cases this
    · refine .inr fun d hd => ?_
      obtain ⟨x, hx, rfl⟩ := List.mem_map.mp hd
      have := List.all_eq_true.mp h3 x hx
      revert this
      generalize pyE x = p
      intro this
      cases p with
      | none => exact nomatch this
      | tuple xs => exact nomatch this
      | _ => exact ⟨fun z => (nomatch z), fun xs z => (nomatch z)⟩
theorem RpL.split {H : Hp} : ∀ {ds : List D} {vs : List V}, RpL M H ds vs → ∀ p ∈ ds.zip vs, Rp M H p.1 p.2
  | [], _, h, p, hp => by simp at hp
  | d :: ds, vs, h, p, hp => by
    unfold RpL at h
    obtain ⟨v, r, rfl, h2, h3⟩ := h
    rw [List.zip_cons_cons] at hp
    rcases List.mem_cons.mp hp with e | hp
    · rw [e]; exact h2
    · exact RpL.split h3 p hp
theorem RpL.ofPairs {H : Hp} : ∀ (l : List (D × V)), (∀ p ∈ l, Rp M H p.1 p.2) → RpL M H (l.map (·.1)) (l.map (·.2))
  | [], _ => .nil
  | p :: l, h => .cons (h p List.mem_cons_self) (RpL.ofPairs l fun q hq => h q (List.mem_cons_of_mem _ hq))
theorem each_zip : ∀ {ds : List D} {vs : List V} {us : List Value}, vs.length = ds.length → Vals vs us → EachIs (fun u (p : D × V) => RelV p.2 u) us (ds.zip vs) := by
  intro ds vs us h r
  induction r generalizing ds with
  | nil => cases ds with
    | nil => exact .nil
    | cons d ds => simp at h
  | cons r t ih => cases ds with
    | nil => simp at h
    | cons d ds => exact .cons r (ih (by simpa using h))
theorem vals_each {l : List (D × V)} {us : List Value} (h : EachIs (fun u (p : D × V) => RelV p.2 u) us l) : Vals (l.map (·.2)) us := by
  induction h with
  | nil => exact .nil
  | cons h t ih => exact .cons h ih
theorem zip_map1 : ∀ {ds : List D} {vs : List V}, vs.length = ds.length → (ds.zip vs).map (·.1) = ds
  | [], [], _ => rfl
  | d :: ds, v :: vs, h => by
    rw [List.zip_cons_cons, List.map_cons, zip_map1 (by simpa using h)]
  | [], _ :: _, h => by simp at h
  | _ :: _, [], h => by simp at h
theorem swo_no : SrtO.Swo (fun (_ _ : Value) => false) := ⟨fun _ _ h => (nomatch h), fun _ _ _ h _ => h⟩
theorem reads_zip {X : Cx} {pins : List (Addr × Obj)} {σ : L2.St} {H : Hp} {O : Addr → Bool} {s : Shared} (hK : X.K = M.K) (I : Inv X pins σ H s) : ∀ {ds : List D} {vs : List V} {us : List Value}, RpL M (hide H O) ds vs → Vals vs us → (∀ d ∈ ds, ∃ p, pyD d = some p ∧ pyE d = p ∧ p.depth ≤ 60) →
    EachIs (fun u (p : D × V) => ∃ as, Reads s.heap u (pyE p.1) as) us (ds.zip vs) := by
  intro ds vs us h r
  induction r generalizing ds with
  | nil => intro _; cases ds with
    | nil => exact .nil
    | cons d ds => unfold RpL at h; obtain ⟨_, _, z, _⟩ := h; cases z
  | cons r t ih => intro k; cases ds with
    | nil => unfold RpL at h; cases h
    | cons d ds =>
      unfold RpL at h
      obtain ⟨v, rr, z, h2, h3⟩ := h
      cases z
      obtain ⟨p, e1, e2, _⟩ := k d List.mem_cons_self
      refine .cons ?_ (ih h3 fun d hd => k d (List.mem_cons_of_mem _ hd))
      show ∃ as, Reads s.heap _ (pyE d) as
      rw [e2]
      exact Dp.reads I p _ _ (hK ▸ dpMono Ext.ofHide (h2.dp e1)) r
theorem cr_sortedD {X : Cx} (hK : X.K = M.K) (hu : X.A.units + 65 < cLine) : CallR X (.builtin "sorted") (rSortD M) := by
  intro pins s σ H xs us Q I r h
  obtain ⟨a, ds, ws, O, rfl, hs, hr, hc, q⟩ := h
  obtain ⟨its, rv, hl, hz⟩ := I.list (hK.symm ▸ hs)
  rw [Vals.ref1 r]
  have hlen := hr.length
  have fin : ∀ (ws' : List V) (out : List Value), ws'.length = ds.length → Vals ws' out → RpL M (hide H O) (ds.mergeSort leD) ws' → EP X pins σ Q (Value.ref (s.heap.objs.size + 1)) { s with heap := PyProof.Rows.sortedAll s.heap its out.toArray } := by
    intro ws' out hl' rv' hr'
    obtain ⟨ep, he'⟩ := PyProof.Rows.sortedAll_at s.heap its out.toArray
    exact ⟨.ref _, upd H (s.heap.objs.size + 1) (.lst ws'), I.laid (t' := s.toks) (fun _ _ => PyProof.Rows.sortedAll_old) (Nat.le_succ _) ⟨by rw [hl', ← hlen]; exact hz, out, ep, rv', he'⟩, rfl, q ws' _ hr' (I.hok.fresh (Nat.le_succ _))⟩
  unfold canSort at hc
  rw [Bool.and_eq_true, Bool.or_eq_true] at hc
  obtain ⟨hc, hf⟩ := hc
  have hf := fits_le hf
  rcases hc with hc | hc
  · obtain ⟨k1, k2, k3⟩ := sortOk_of hc
    have em : (ds.zip ws).map (fun p => pyE p.1) = ds.map pyE := by
      rw [show (fun p : D × V => pyE p.1) = pyE ∘ (·.1) from rfl, ← List.map_map, zip_map1 hlen]
    have hzl : (ds.zip ws).length = ds.length := by rw [List.length_zip, hlen, Nat.min_self]
    refine PySem.W.sorted_data (bs := ds.zip ws) (enc := fun p => pyE p.1) hl.isList (each_zip hlen rv) (reads_zip hK I hr rv k1) (by rw [em]; exact k2) (by rw [em]; exact k3) (by rw [hzl]; exact hf) (fun p hp => ?_) fun out hout eo => ?_
    · obtain ⟨p', e1, e2, e3⟩ := k1 p.1 (List.of_mem_zip hp).1
      rw [e2]; omega
    · have em2 : ((ds.zip ws).mergeSort (PySem.W.dataLe false fun p : D × V => pyE p.1)).map (·.1) = ds.mergeSort leD := by
        rw [List.map_mergeSort (r := PySem.W.dataLe false fun p : D × V => pyE p.1) (s := leD) (f := fun p : D × V => p.1) (fun a _ b _ => rfl), zip_map1 hlen]
      have hp := RpL.ofPairs (M := M) (H := hide H O) ((ds.zip ws).mergeSort (PySem.W.dataLe false fun p : D × V => pyE p.1)) fun p hp => RpL.split hr p ((List.mergeSort_perm _ _).mem_iff.mp hp)
      rw [em2] at hp
      exact fin _ out (by rw [List.length_map, List.length_mergeSort, hzl]) (vals_each eo) hp
  · have hc : ds.length ≤ 1 := of_decide_eq_true hc
    have hi : its.length ≤ 1 := by rw [← rv.length, hlen]; exact hc
    refine SrtO.sorted_ord swo_no hl.isList (by rw [sizeLine_eq]; omega) (fun h2 => absurd h2 (by omega)) fun out h1 h2 => ?_
    have eo : out = its := by
      have hp := h2.perm
      rcases its with _ | ⟨x, _ | ⟨y, r⟩⟩
      · exact List.perm_nil.mp hp
      · exact List.perm_singleton.mp hp
      · simp at hi
    have es : ds.mergeSort leD = ds := by
      rcases ds with _ | ⟨x, _ | ⟨y, r⟩⟩
      · simp
      · simp
      · simp at hc
    rw [eo]
    exact fin ws its hlen rv (by rw [es]; exact hr)
theorem gl_sorted : GL M Ev (biD .sorted) (rSortD M) := by
  intro ds vs H O Q t b a
  rcases ds with _ | ⟨d, _ | ⟨d2, r⟩⟩
  · exact a.elim
  · obtain ⟨v, rfl, b1⟩ := br1 b
    cases d <;> first | exact a.elim | skip
    rename_i ds
    obtain ⟨p, vs, rfl, h1, h2⟩ := br_lst b1
    have a : After Ev (match sortD ds with | some es => Res.ok (D.lst es) | none => .bad) H (fun d H2 => ∀ v, Rp M (hide H2 O) d v → Q v H2) := a
    unfold sortD at a
    by_cases hc : canSort ds = true
    · rw [if_pos hc] at a
      exact ⟨p, ds, vs, O, rfl, SqL.of h1, h2, hc, fun ws' l hr hl => a _ (Ext.new hl) _ (rp_newL t hl hr)⟩
    · rw [if_neg hc] at a; exact a.elim
  · cases d <;> exact a.elim
end
end Dx
namespace Dx
variable [Nm]
open PySem PySem.Spec L2
namespace Res
theorem bind_assoc {α β γ : Type} (r : Res α) (f : α → Res β) (g : β → Res γ) : ((r >>= f) >>= g) = (r >>= fun a => f a >>= g) := by cases r <;> rfl
end Res
section
variable {M : MatC} {T : List Addr} {Ev : Nat → Hp → Prop}
def kindT : Nat → String
  | 0 => "NoneType" | 1 => "bool" | 2 => "int" | 3 => "str" | 4 => "tuple" | 5 => "list" | _ => "dict"
theorem tyx_of {H : Hp} {O : Addr → Bool} {d : D} {v : V} {k : Nat} (h : BRp M H O d v) (e : kindD d = some k) : TyX M.K H v (.type (kindT k)) := by
  cases d with
  | non => rw [br_non h]; cases e; exact .base .non
  | bl b => rw [br_bl h]; cases e; exact .base (.bl _)
  | int i => rw [br_int h]; cases e; exact .base (.int _)
  | str s => rw [br_str h]; cases e; exact .base (.str _)
  | tup ds =>
    obtain ⟨a, vs, rfl, h1, h2⟩ := br_tup h
    cases e; exact .base (.tup (hide_some h1).2)
  | ftup ds =>
    obtain ⟨a, vs, o, rfl, _, _, h1, h2⟩ := br_ftup h
    cases e; exact .fTuple h1
  | lst ds =>
    obtain ⟨a, vs, rfl, h1, h2⟩ := br_lst h
    cases e; exact .base (.lst h1)
  | _ => cases e
/-- the type that isinstance is asked of -/
def isiT : Bi → Option String
  | .isInt => some "int"
  | .isBool => some "bool"
  | .isStr => some "str"
  | .isTuple => some "tuple"
  | _ => none
theorem isi_kit : ∀ (f : Bi) (T : String) (k : Nat) (b : Bool), isiT f = some T → k < 6 → (∀ d, kindD d = some k → biD f [d] = .ok (.bl b)) → kitB (kindT k) T = some b := by
  intro f T k b hf hk hb
  have hk : k = 0 ∨ k = 1 ∨ k = 2 ∨ k = 3 ∨ k = 4 ∨ k = 5 := by omega
  have go : ∀ d, kindD d = some k → ∀ b', biD f [d] = .ok (.bl b') → b' = b := fun d h b' h' => by
    have := hb d h
    rw [h'] at this
    injection this with this
    injection this
  cases f <;> cases hf <;> rcases hk with rfl | rfl | rfl | rfl | rfl | rfl <;> first
    | (rw [← go .non rfl _ rfl]; decide +kernel)
    | (rw [← go (.bl true) rfl _ rfl]; decide +kernel)
    | (rw [← go (.int 0) rfl _ rfl]; decide +kernel)
    | (rw [← go (.str "") rfl _ rfl]; decide +kernel)
    | (rw [← go (.tup []) rfl _ rfl]; decide +kernel)
    | (rw [← go (.lst []) rfl _ rfl]; decide +kernel)
theorem bi_isi {f : Bi} {T : String} (hf : isiT f = some T) (d : D) : (∃ k, kindD d = some k ∧ ∃ b, biD f [d] = .ok (.bl b) ∧ kitB (kindT k) T = some b) ∨ biD f [d] = .bad := by
  cases e : kindD d with
  | none =>
    right
    cases f <;> cases hf <;> (cases d <;> first | rfl | cases e)
  | some k =>
    left
    refine ⟨k, rfl, ?_⟩
    have : ∃ b, ∀ d, kindD d = some k → biD f [d] = .ok (.bl b) := by
      cases f <;> cases hf
      · exact ⟨k == 2 || k == 1, fun d h => by show optR ((kindD d).map _) = _; rw [h]; rfl⟩
      · exact ⟨k == 1, fun d h => by show optR ((kindD d).map _) = _; rw [h]; rfl⟩
      · exact ⟨k == 3, fun d h => by show optR ((kindD d).map _) = _; rw [h]; rfl⟩
      · exact ⟨k == 4, fun d h => by show optR ((kindD d).map _) = _; rw [h]; rfl⟩
    obtain ⟨b, hb⟩ := this
    exact ⟨b, hb d e, isi_kit f T k b hf (by cases d <;> cases e <;> decide) hb⟩
theorem str_val {T : String} (h : T = "int" ∨ T = "bool" ∨ T = "str" ∨ T = "tuple") : bootBuiltins (Str.ofString T) = some (.type T) := by
  rcases h with rfl | rfl | rfl | rfl <;> decide +kernel
def tySt : Bi → Option Str
  | .isInt => some "int"
  | .isBool => some "bool"
  | .isStr => some "str"
  | .isTuple => some "tuple"
  | _ => none
theorem tySt_val {f : Bi} {y : Str} (h : tySt f = some y) : ∃ T, isiT f = some T ∧ bootBuiltins y = some (.type T) ∧ y ≠ "__name__" ∧ (y == ("__debug__" : Str)) = false := by
  cases f <;> first | cases h | skip
  · exact ⟨_, rfl, by decide +kernel, by decide, by decide⟩
  · exact ⟨_, rfl, by decide +kernel, by decide, by decide⟩
  · exact ⟨_, rfl, by decide +kernel, by decide, by decide⟩
  · exact ⟨_, rfl, by decide +kernel, by decide, by decide⟩
theorem de_isi {X : Cx} {f : Bi} {y : Str} {a : PySem.Expr} {p p2 pos : Pos} {g : DEnv → Res D} {k k' : DEnv → Bool} (hK : X.K = M.K) (hy : tySt f = some y)
    (hg : Gl X "isinstance") (hm : X.mg "isinstance" = none) (hg2 : Gl X y) (hm2 : X.mg y = none) (hs : starEach (a :: [.Name y p2]) X.env = (false, eval a X.env) :: starEach [.Name y p2] X.env) (ha : PE X a (tE M T Ev g k)) :
    PE X (.Call (.Name "isinstance" p) [a, .Name y p2] [] pos) (tE M T Ev (fun env => do let x ← g env; biD f [x]) k') := by
  obtain ⟨T', hf, hv, hn, hd⟩ := tySt_val hy
  refine pe_weak (pe_callB call_isi hg hm (by decide +kernel) (pa_cons ha (pa_cons (pe_bltn (v := .ty T') hg2 hm2 hv rfl hn hd) pa_nil) hs) (he := hs)) fun σ H Q ⟨H₀, B, O, env, R, h⟩ => ?_
  refine ⟨H₀, B, O, env, R, After.mono (After.bind h) (Ext.refl H) fun d H1 e1 _ q v b _ => ?_⟩
  rcases bi_isi hf d with ⟨kk, h1, bb, h2, h3⟩ | h1
  · rw [h2] at q
    exact ⟨v, .ty T', _, .type T', bb, rfl, .ty T', hK ▸ tyx_of b h1, kit_ty h3, q.one _ (rp_bl (H := hide H1 O)).br fun _ => rp_bl⟩
  · rw [h1] at q; exact q.elim
end
end Dx
namespace Dx
variable [Nm]
open PySem PySem.Spec L2
section
variable {M : MatC} {T : List Addr} {Ev : Nat → Hp → Prop}
/-- the name of a built-in, and is it a type -/
def biSt : Bi → Option (Str × String × Bool)
  | .len => some ("len", "len", false)
  | .abs => some ("abs", "abs", false)
  | .sum => some ("sum", "sum", false)
  | .min => some ("min", "min", false)
  | .max => some ("max", "max", false)
  | .tuple => some ("tuple", "tuple", true)
  | .list => some ("list", "list", true)
  | .int => some ("int", "int", true)
  | .str => some ("str", "str", true)
  | .sorted => some ("sorted", "sorted", false)
  | _ => none
theorem biSt_val {f : Bi} {x : Str} {id : String} {b : Bool} (h : biSt f = some (x, id, b)) : bootBuiltins x = some (if b then .type id else .builtin id) ∧ x ≠ "__name__" ∧ (x == ("__debug__" : Str)) = false := by
  cases f <;> first | cases h | skip
  all_goals exact ⟨by decide +kernel, by decide, by decide⟩
/-- each of them by values -/
theorem bi_call {X : Cx} {f : Bi} {x : Str} {id : String} {b : Bool} (hK : X.K = M.K) (hu : X.A.units + 65 < cLine) (hc : X.calm = true) (h : biSt f = some (x, id, b)) : ∃ r, CallR X (if b then .type id else .builtin id) r ∧ GL M Ev (biD f) r := by
  cases f <;> first | cases h | skip
  · exact ⟨_, call_len, hK ▸ gl_len⟩
  · exact ⟨_, call_abs, gl_abs⟩
  · exact ⟨_, cr_sum hc, hK ▸ gl_sum⟩
  · exact ⟨_, CallR.or (call_min2 hc) (cr_min hc), hK ▸ gl_min⟩
  · exact ⟨_, CallR.or (call_max2 hc) (cr_max hc), hK ▸ gl_max⟩
  · exact ⟨_, call_tuple_of, hK ▸ gl_tuple⟩
  · exact ⟨_, call_list_of, hK ▸ gl_list⟩
  · exact ⟨_, call_int1, gl_int⟩
  · exact ⟨_, call_str_int, gl_str⟩
  · exact ⟨_, cr_sortedD hK hu, gl_sorted⟩
/-- a call of a built-in -/
theorem de_bi {X : Cx} {f : Bi} {x : Str} {id : String} {b : Bool} {e : PySem.Expr} {es : List PySem.Expr} {p pos : Pos} {g : DEnv → Res (List D)} {k k' : DEnv → Bool} (hK : X.K = M.K) (hu : X.A.units + 65 < cLine) (hc : X.calm = true)
    (h : biSt f = some (x, id, b)) (hg : Gl X x) (hm : X.mg x = none) (hs : starEach (e :: es) X.env = (false, eval e X.env) :: starEach es X.env) (hpl : (backTo pos (starEach es X.env)).any (·.1) = false) (ha : PA X (e :: es) (tL M T Ev g k)) :
    PE X (.Call (.Name x p) (e :: es) [] pos) (tE M T Ev (fun env => do let ds ← g env; biD f ds) k') := by
  obtain ⟨h1, h2, h3⟩ := biSt_val h
  obtain ⟨r, cr, gl⟩ := bi_call (Ev := Ev) hK hu hc h
  cases b with
  | false => exact pe_weak (pe_callB cr hg hm h1 ha h2 h3 hs hpl) fun σ H Q q => rdL gl q
  | true => exact pe_weak (pe_callTy cr hg hm h1 ha h2 h3 hs hpl) fun σ H Q q => rdL gl q
/-- one that makes a list, as a new object -/
theorem dn_of {X : Cx} {e : PySem.Expr} {f : DEnv → Res D} {g : List D → Res D} {F : DEnv → Res (List D)} {k : DEnv → Bool} {es : List PySem.Expr} : True := trivial
end
end Dx
namespace Dx
variable [Nm]
open PySem PySem.Spec L2
section
variable {M : MatC} {T : List Addr} {Ev : Nat → Hp → Prop}
/-! ### values that are new lists -/
abbrev NewP (M : MatC) (H : Hp) (O : Addr → Bool) (Q : VK) : Slot → Hp → Prop := fun s H2 => ∀ p, H p = none → OwnAt M H2 (hide H2 (plus O p)) p s → Q (.ref p) H2
abbrev GN2 (M : MatC) (Ev : Nat → Hp → Prop) (g : D → D → Res D) (r : R2) : Prop := ∀ (x y : D) (vx vy : V) (H : Hp) (O : Addr → Bool) (Q : VK), Trk O H → BRp M H O x vx → BRp M H O y vy → After Ev (g x y >>= ownOf) H (NewP M H O Q) → r vx vy H Q
abbrev GNL (M : MatC) (Ev : Nat → Hp → Prop) (g : List D → Res D) (r : List V → Hp → VK → Prop) : Prop := ∀ (ds : List D) (vs : List V) (H : Hp) (O : Addr → Bool) (Q : VK), Trk O H → BRpL M H O ds vs → After Ev (g ds >>= ownOf) H (NewP M H O Q) → r vs H Q
theorem NewP.back {H H1 : Hp} {O : Addr → Bool} {Q : VK} (e : Ext H H1) {s : Slot} {H2 : Hp} (h : NewP M H O Q s H2) : NewP M H1 O Q s H2 := fun p hp => h p (e.free hp)
theorem rdN2 {g : D → D → Res D} {r : R2} (hr : GN2 M Ev g r) {f f' : DEnv → Res D} {k1 k2 : DEnv → Bool} {σ : L2.St} {H : Hp} {Q : VK} (h : tN M T Ev (fun env => do let x ← f env; let y ← f' env; g x y) σ H Q) :
    tOp r (tE M T Ev f k1) (tE M T Ev f' k2) σ H Q := by
  obtain ⟨H₀, B, O, env, R, h⟩ := h
  have h : After Ev ((f env >>= fun x => f' env >>= fun y => g x y) >>= ownOf) H (NewP M H O Q) := h
  rw [Res.bind_assoc] at h
  refine ⟨H₀, B, O, env, R, After.mono (After.bind h) (Ext.refl H) fun d H1 e1 _ q v b _ => ?_⟩
  rw [Res.bind_assoc] at q
  refine ⟨H₀, B, O, env, R.mono e1, After.mono (After.bind q) (Ext.refl H1) fun d2 H2 e2 _ q2 v2 b2 _ => ?_⟩
  exact hr d d2 v v2 H2 O Q (Trk.mono R.trk (e1.trans e2)) (b.mono e2) b2 (After.mono q2 (Ext.refl H2) fun s H3 _ _ p => NewP.back (e1.trans e2) p)
theorem rdNL {g : List D → Res D} {r : List V → Hp → VK → Prop} (hr : GNL M Ev g r) {f : DEnv → Res (List D)} {k : DEnv → Bool} {σ : L2.St} {H : Hp} {Q : VK} (h : tN M T Ev (fun env => do let ds ← f env; g ds) σ H Q) : tCB r (tL M T Ev f k) σ H Q := by
  obtain ⟨H₀, B, O, env, R, h⟩ := h
  have h : After Ev ((f env >>= g) >>= ownOf) H (NewP M H O Q) := h
  rw [Res.bind_assoc] at h
  refine ⟨H₀, B, O, env, R, After.mono (After.bind h) (Ext.refl H) fun ds H1 e1 _ q vs b _ => ?_⟩
  exact hr ds vs H1 O Q (Trk.mono R.trk e1) b (After.mono q (Ext.refl H1) fun s H2 _ _ p => NewP.back e1 p)
theorem no_own {P : Slot → Hp → Prop} {H : Hp} {r : Res D} (h : After Ev (r >>= ownOf) H P) (k : ∀ d, r = .ok d → ownOf d = .bad) : ∃ n, r = .exc n ∧ ∀ H1, Ext H H1 → Ev n H1 := by
  cases r with
  | ok d => rw [Res.bind_ok, k d rfl] at h; exact h.elim
  | exc n => exact ⟨n, rfl, h⟩
  | bad => exact h.elim
theorem After.iteO {c : Prop} [Decidable c] {r : Res D} {H : Hp} {P : Slot → Hp → Prop} (h : After Ev ((if c then r else .bad) >>= ownOf) H P) : c ∧ After Ev (r >>= ownOf) H P := by
  by_cases hc : c
  · rw [if_pos hc] at h; exact ⟨hc, h⟩
  · rw [if_neg hc] at h; exact h.elim
theorem gn_add : GN2 M Ev (opD .add) (rAddD M.K) := by
  intro x y vx vy H O Q t bx by_ a
  cases x <;> cases y <;> first | exact a.elim | exact (After.iteO a).2.elim | skip
  · rename_i xs ys
    obtain ⟨hc, a⟩ := After.iteO a
    · obtain ⟨p, vs, rfl, h1, h2⟩ := br_lst bx
      obtain ⟨q, ws, rfl, h3, h4⟩ := br_lst by_
      exact .inr (.inr (.inl ⟨p, q, vs, ws, rfl, rfl, h1, h3, by rw [h2.length, h4.length]; exact fits_le hc, fun r hr => a _ (Ext.new hr) r hr (own_newL hr (h2.append h4))⟩))
theorem gn_mul : GN2 M Ev (opD .mul) (rMulD M.K) := by
  intro x y vx vy H O Q t bx by_ a
  cases x <;> cases y <;> first | exact a.elim | exact (After.iteO a).2.elim | skip
  · rename_i xs k
    obtain ⟨hc, a⟩ := After.iteO a
    · obtain ⟨p, vs, rfl, h1, h2⟩ := br_lst bx
      have hk := rep_ok hc
      exact .inr (.inl ⟨p, k, vs, rfl, br_int by_, h1, by omega, by omega, by rw [h2.length]; exact rep_len hk, fun r hr => a _ (Ext.new hr) r hr (own_newL hr (h2.rep _))⟩)
theorem dn_add {X : Cx} {a b : PySem.Expr} {pos : Pos} {f f' : DEnv → Res D} {k1 k2 : DEnv → Bool} (hK : X.K = M.K) (ha : PE X a (tE M T Ev f k1)) (hb : PE X b (tE M T Ev f' k2)) :
    PE X (.BinOp a .Add b pos) (tN M T Ev (fun env => do let x ← f env; let y ← f' env; opD .add x y)) := pe_weak (pe_op op_addD ha hb) fun σ H Q q => rdN2 (hK ▸ gn_add) q
theorem dn_mul {X : Cx} {a b : PySem.Expr} {pos : Pos} {f f' : DEnv → Res D} {k1 k2 : DEnv → Bool} (hK : X.K = M.K) (ha : PE X a (tE M T Ev f k1)) (hb : PE X b (tE M T Ev f' k2)) :
    PE X (.BinOp a .Mult b pos) (tN M T Ev (fun env => do let x ← f env; let y ← f' env; opD .mul x y)) := pe_weak (pe_op op_mulD ha hb) fun σ H Q q => rdN2 (hK ▸ gn_mul) q
theorem gn_list : GNL M Ev (biD .list) (rLstD M.K) := by
  intro ds vs H O Q t b a
  rcases ds with _ | ⟨d, _ | ⟨d2, r⟩⟩
  · exact a.elim
  · obtain ⟨v, rfl, b1⟩ := br1 b
    cases d <;> first | exact a.elim | skip
    · obtain ⟨p, vs, rfl, h1, h2⟩ := br_tup b1
      exact ⟨p, vs, rfl, .inr (sqT_hide h1), fun l hl => a _ (Ext.new hl) l hl (own_newL hl h2)⟩
    · obtain ⟨p, vs, rfl, h1, h2⟩ := br_lst b1
      exact ⟨p, vs, rfl, .inl (SqL.of h1), fun l hl => a _ (Ext.new hl) l hl (own_newL hl h2)⟩
  · cases d <;> exact a.elim
theorem gn_sorted : GNL M Ev (biD .sorted) (rSortD M) := by
  intro ds vs H O Q t b a
  rcases ds with _ | ⟨d, _ | ⟨d2, r⟩⟩
  · exact a.elim
  · obtain ⟨v, rfl, b1⟩ := br1 b
    cases d <;> first | exact a.elim | skip
    rename_i ds
    obtain ⟨p, vs, rfl, h1, h2⟩ := br_lst b1
    have a : After Ev ((match sortD ds with | some es => Res.ok (D.lst es) | none => .bad) >>= ownOf) H (NewP M H O Q) := a
    unfold sortD at a
    by_cases hc : canSort ds = true
    · rw [if_pos hc] at a
      exact ⟨p, ds, vs, O, rfl, SqL.of h1, h2, hc, fun ws' l hr hl => a _ (Ext.new hl) l hl (own_newL hl hr)⟩
    · rw [if_neg hc] at a; exact a.elim
  · cases d <;> exact a.elim
theorem dn_list {X : Cx} {e : PySem.Expr} {es : List PySem.Expr} {p pos : Pos} {g : DEnv → Res (List D)} {k : DEnv → Bool} (hK : X.K = M.K)
    (hg : Gl X "list") (hm : X.mg "list" = none) (hs : starEach (e :: es) X.env = (false, eval e X.env) :: starEach es X.env) (hpl : (backTo pos (starEach es X.env)).any (·.1) = false) (ha : PA X (e :: es) (tL M T Ev g k)) :
    PE X (.Call (.Name "list" p) (e :: es) [] pos) (tN M T Ev (fun env => do let ds ← g env; biD .list ds)) :=
  pe_weak (pe_callTy call_list_of hg hm (by decide +kernel) ha (by decide) (by decide) hs hpl) fun σ H Q q => rdNL (hK ▸ gn_list) q
theorem dn_sorted {X : Cx} {e : PySem.Expr} {es : List PySem.Expr} {p pos : Pos} {g : DEnv → Res (List D)} {k : DEnv → Bool} (hK : X.K = M.K) (hu : X.A.units + 65 < cLine)
    (hg : Gl X "sorted") (hm : X.mg "sorted" = none) (hs : starEach (e :: es) X.env = (false, eval e X.env) :: starEach es X.env) (hpl : (backTo pos (starEach es X.env)).any (·.1) = false) (ha : PA X (e :: es) (tL M T Ev g k)) :
    PE X (.Call (.Name "sorted" p) (e :: es) [] pos) (tN M T Ev (fun env => do let ds ← g env; biD .sorted ds)) :=
  pe_weak (pe_callB (cr_sortedD hK hu) hg hm (by decide +kernel) ha (by decide) (by decide) hs hpl) fun σ H Q q => rdNL gn_sorted q
theorem dn_slc {X : Cx} {e : PySem.Expr} {lo hi : Option PySem.Expr} {p2 pos : Pos} {f : DEnv → Res D} {fl fh : DEnv → Res (Option Int)} {k : DEnv → Bool} (hK : X.K = M.K) (he : PE X e (tE M T Ev f k)) (hl : PO X lo (tO M T Ev fl)) (hh : PO X hi (tO M T Ev fh)) :
    PE X (.Subscript e (.Slice lo hi none p2) pos) (tN M T Ev (fun env => do let x ← f env; let l ← fl env; let h ← fh env; slcD x l h)) := by
  refine pe_weak (pe_slice (SlR.or sl_tupA sl_list) he hl hh) fun σ H Q ⟨H₀, B, O, env, R, q⟩ => ?_
  have q : After Ev ((f env >>= fun x => fl env >>= fun l => fh env >>= fun h => slcD x l h) >>= ownOf) H (NewP M H O Q) := q
  rw [Res.bind_assoc] at q
  refine ⟨H₀, B, O, env, R, After.mono (After.bind q) (Ext.refl H) fun x H1 e1 _ q v bv _ => ?_⟩
  rw [Res.bind_assoc] at q
  refine ⟨H₀, B, O, env, R.mono e1, After.mono (After.bind q) (Ext.refl H1) fun l H2 e2 _ q => ?_⟩
  rw [Res.bind_assoc] at q
  refine ⟨H₀, B, O, env, R.mono (e1.trans e2), After.mono (After.bind q) (Ext.refl H2) fun h H3 e3 _ q => ?_⟩
  have b3 := bv.mono (e2.trans e3)
  cases x with
  | lst ds =>
    obtain ⟨a, vs, rfl, h1, h2⟩ := br_lst b3
    refine .inr ⟨a, vs, rfl, SqL.of h1, fun p hp => ?_⟩
    exact q _ (Ext.new hp) p (((e1.trans e2).trans e3).free hp) (own_newL hp (cut_len h2.length l h h2))
  | _ => exact q.elim
end
end Dx
namespace Dx
variable [Nm]
open PySem PySem.Spec L2
section
variable {M : MatC} {T : List Addr} {Ev : Nat → Hp → Prop} {H₀ H : Hp} {B O : Addr → Bool} {σ : L2.St} {env : DEnv}
theorem isOwn_sh {s : Slot} {d : D} (h : s = .sh d) : isOwn s = false := by subst h; rfl
/-- a name takes a shared value -/
theorem EnvR.setSh (R : EnvR M T H₀ B O σ H env) {d : D} {v : V} (h : Rp M (hide H O) d v) (i : Nat) : EnvR M T H₀ B O (σ.set i (some v)) H (env.set i (.sh d)) where
  ext := R.ext
  sub := R.sub
  len := by rw [List.length_set, List.length_set]; exact R.len
  sh := fun j e hj => by
    rw [List.getElem?_set] at hj
    split at hj
    · rename_i hij
      subst hij
      split at hj
      · rename_i hl
        cases hj
        exact ⟨v, by rw [List.getElem?_set, if_pos rfl, if_pos (by rw [R.len]; exact hl)], h⟩
      · cases hj
    · rename_i hij
      obtain ⟨w, h1, h2⟩ := R.sh j e hj
      exact ⟨w, by rw [List.getElem?_set, if_neg hij]; exact h1, h2⟩
  own := fun j s hj ho => by
    rw [List.getElem?_set] at hj
    split at hj
    · split at hj
      · cases hj; cases ho
      · cases hj
    · rename_i hij
      obtain ⟨a, h1, h2⟩ := R.own j s hj ho
      exact ⟨a, by rw [List.getElem?_set, if_neg hij]; exact h1, h2⟩
  dis := fun j k s t a hj hk ho ho' ha hb => by
    rw [List.getElem?_set] at hj hk ha hb
    by_cases h1 : i = j
    · rw [if_pos h1] at hj; split at hj
      · cases hj; cases ho
      · cases hj
    by_cases h2 : i = k
    · rw [if_pos h2] at hk; split at hk
      · cases hk; cases ho'
      · cases hk
    rw [if_neg h1] at hj ha; rw [if_neg h2] at hk hb
    exact R.dis j k s t a hj hk ho ho' ha hb
  tabs := R.tabs
  trk := R.trk
/-- a name is emptied -/
theorem EnvR.wipe1 (R : EnvR M T H₀ B O σ H env) (i : Nat) (ov : Option V) : EnvR M T H₀ B O (σ.set i ov) H (env.set i .none) where
  ext := R.ext
  sub := R.sub
  len := by rw [List.length_set, List.length_set]; exact R.len
  sh := fun j e hj => by
    rw [List.getElem?_set] at hj
    split at hj
    · split at hj <;> cases hj
    · rename_i hij
      obtain ⟨w, h1, h2⟩ := R.sh j e hj
      exact ⟨w, by rw [List.getElem?_set, if_neg hij]; exact h1, h2⟩
  own := fun j s hj ho => by
    rw [List.getElem?_set] at hj
    split at hj
    · split at hj
      · cases hj; cases ho
      · cases hj
    · rename_i hij
      obtain ⟨a, h1, h2⟩ := R.own j s hj ho
      exact ⟨a, by rw [List.getElem?_set, if_neg hij]; exact h1, h2⟩
  dis := fun j k s t a hj hk ho ho' ha hb => by
    rw [List.getElem?_set] at hj hk ha hb
    by_cases h1 : i = j
    · rw [if_pos h1] at hj; split at hj
      · cases hj; cases ho
      · cases hj
    by_cases h2 : i = k
    · rw [if_pos h2] at hk; split at hk
      · cases hk; cases ho'
      · cases hk
    rw [if_neg h1] at hj ha; rw [if_neg h2] at hk hb
    exact R.dis j k s t a hj hk ho ho' ha hb
  tabs := R.tabs
  trk := R.trk
theorem hide_new2 {H' : Hp} {p : Addr} (e : Ext H H') (h : H p = none) : Ext (hide H O) (hide H' (plus O p)) := by
  have ne : ∀ {a o}, H a = some o → a ≠ p := fun q => ne_of_none q h
  refine ⟨fun a o h1 n => ?_, fun a ps h1 => ?_⟩
  · obtain ⟨q1, q2⟩ := hide_some' h1
    refine hide_mk ?_ (e.keep a o q2 n)
    rcases q1 with q1 | q1
    · exact .inl (by simp [plus, q1, ne q2])
    · exact .inr q1
  · obtain ⟨q1, q2⟩ := hide_some h1
    obtain ⟨ps', k1, k2⟩ := e.tab a ps q2
    exact ⟨ps', by rw [hide_of (by simp [plus, q1, ne q2])]; exact k1, fun t => TbOk.hide.mpr (k2 (TbOk.hide.mp t))⟩
theorem OwnAt.some {H Hv : Hp} {a : Addr} {s : Slot} (h : OwnAt M H Hv a s) : ∃ o, H a = some o ∧ mu o = true := by
  cases s with
  | none => exact h.elim
  | sh d => exact h.elim
  | own ds => obtain ⟨vs, h1, _⟩ := h; exact ⟨_, h1, rfl⟩
  | ownD t ks vs =>
    cases t with
    | true => obtain ⟨kvs, h1, _⟩ := h; exact ⟨_, h1, rfl⟩
    | false => obtain ⟨kvs, h1, _⟩ := h; exact ⟨_, h1, rfl⟩
/-- a name takes a new thing of its own -/
theorem EnvR.setOwn (R : EnvR M T H₀ B O σ H env) {H' : Hp} {p : Addr} {s : Slot} (e : Ext H H') (hp : H p = none) (ho : OwnAt M H' (hide H' (plus O p)) p s) (i : Nat) :
    EnvR M T H₀ B (plus O p) (σ.set i (some (.ref p))) H' (env.set i s) where
  ext := R.ext.trans e
  sub := fun a h => by simp [plus, R.sub a h]
  len := by rw [List.length_set, List.length_set]; exact R.len
  sh := fun j d hj => by
    rw [List.getElem?_set] at hj
    split at hj
    · split at hj
      · cases hj; exact ho.elim
      · cases hj
    · rename_i hij
      obtain ⟨w, h1, h2⟩ := R.sh j d hj
      exact ⟨w, by rw [List.getElem?_set, if_neg hij]; exact h1, Rp.mono (hide_new2 e hp) d h2⟩
  own := fun j t hj hto => by
    rw [List.getElem?_set] at hj
    split at hj
    · rename_i hij
      subst hij
      split at hj
      · rename_i hl
        cases hj
        have hO : O p = false := Trk.free (fun a h => R.trk a h) hp
        refine ⟨p, by rw [List.getElem?_set, if_pos rfl, if_pos (by rw [R.len]; exact hl)], R.ext.free hp, by simp [plus], ?_, ho⟩
        cases hb : B p with
        | false => rfl
        | true => rw [R.sub p hb] at hO; cases hO
      · cases hj
    · rename_i hij
      obtain ⟨a, h1, h2, h3, h4, h5⟩ := R.own j t hj hto
      exact ⟨a, by rw [List.getElem?_set, if_neg hij]; exact h1, h2, by simp [plus, h3], h4, h5.mono e (hide_new2 e hp)⟩
  dis := fun j k s t a hj hk hs ht ha hb => by
    rw [List.getElem?_set] at hj hk ha hb
    by_cases h1 : i = j
    · by_cases h2 : i = k
      · rw [← h1, ← h2]
      · exfalso
        rw [if_neg h2] at hk hb
        rw [if_pos h1] at ha
        split at ha
        · cases ha
          obtain ⟨b, q1, q2, q3, q4, q5⟩ := R.own k t hk ht
          rw [q1] at hb; cases hb
          obtain ⟨o, z, _⟩ := q5.some
          rw [hp] at z; cases z
        · cases ha
    · by_cases h2 : i = k
      · exfalso
        rw [if_neg h1] at hj ha
        rw [if_pos h2] at hb
        split at hb
        · cases hb
          obtain ⟨b, q1, q2, q3, q4, q5⟩ := R.own j s hj hs
          rw [q1] at ha; cases ha
          obtain ⟨o, z, _⟩ := q5.some
          rw [hp] at z; cases z
        · cases hb
      · rw [if_neg h1] at hj ha; rw [if_neg h2] at hk hb
        exact R.dis j k s t a hj hk hs ht ha hb
  tabs := fun P hP => (R.mono e).tabs P hP
  trk := fun a h => by
    have h : (O a || a == p) = true := h
    rw [Bool.or_eq_true] at h
    rcases h with h | h
    · exact (R.mono e).trk a h
    · have : a = p := by simpa using h
      subst this
      exact ho.some
theorem hide_upd {a : Addr} {o u : HO} (h : O a = true) (ho : isExt o = false) (hu : H a = some u) (hn : isExt u = false) : hide (upd H a o) O = hide H O := by
  funext b
  by_cases hb : b = a
  · subst hb
    unfold hide
    rw [upd_same, hu]
    show (if O b = true ∧ isExt o = false then none else some o) = (if O b = true ∧ isExt u = false then none else some u)
    rw [if_pos ⟨h, ho⟩, if_pos ⟨h, hn⟩]
  · unfold hide
    rw [upd_ne hb]
theorem mu_ne {o : HO} (h : mu o = true) : isExt o = false := by cases o <;> first | rfl | cases h
theorem mu_nophi {o : HO} (h : mu o = true) {H : Hp} {a : Addr} (e : H a = some o) : ∀ phi, H a ≠ some (.ext phi) := fun phi z => by
  rw [e] at z; cases z; cases h
/-- the thing of an own name changes -/
theorem EnvR.mutate (R : EnvR M T H₀ B O σ H env) {a : Addr} {i : Nat} {s s' : Slot} {o : HO} (hi : env[i]? = some s) (hs : isOwn s = true) (ha : σ[i]? = some (some (.ref a))) (hs' : isOwn s' = true) (ho : OwnAt M (upd H a o) (hide H O) a s') :
    EnvR M T H₀ B O σ (upd H a o) (env.set i s') := by
  obtain ⟨b, q1, q2, q3, q4, q5⟩ := R.own i s hi hs
  rw [ha] at q1; cases q1
  obtain ⟨u, hu, hnt⟩ := q5.some
  have hho : isExt o = false := by
    obtain ⟨w, k1, k2⟩ := ho.some
    rw [upd_same] at k1; cases k1; exact mu_ne k2
  have hh : hide (upd H a o) O = hide H O := hide_upd q3 hho hu (mu_ne hnt)
  have hil : i < env.length := by
    rcases Nat.lt_or_ge i env.length with h | h
    · exact h
    · rw [List.getElem?_eq_none h] at hi; cases hi
  exact {
    ext := R.ext.mut q2 (mu_nophi hnt hu)
    sub := R.sub
    len := by rw [List.length_set]; exact R.len
    sh := fun j d hj => by
      rw [List.getElem?_set] at hj
      split at hj
      · cases hj; cases hs'
      · obtain ⟨w, h1, h2⟩ := R.sh j d hj
        exact ⟨w, h1, by rw [hh]; exact h2⟩
    own := fun j t hj hto => by
      rw [List.getElem?_set] at hj
      split at hj
      · rename_i hij
        subst hij
        cases hj
        exact ⟨a, ha, q2, q3, q4, by rw [hh]; exact ho⟩
      · rename_i hij
        obtain ⟨b, h1, h2, h3, h4, h5⟩ := R.own j t hj hto
        refine ⟨b, h1, h2, h3, h4, ?_⟩
        have hne : b ≠ a := fun z => hij (R.dis i j s t a hi hj hs hto ha (z ▸ h1))
        rw [hh]
        cases t with
        | none => cases hto
        | sh d => cases hto
        | own ds => obtain ⟨vs, k1, k2⟩ := h5; exact ⟨vs, by rw [upd_ne hne]; exact k1, k2⟩
        | ownD t ks vs =>
          cases t with
          | true => obtain ⟨kvs, k1, k2⟩ := h5; exact ⟨kvs, by rw [upd_ne hne]; exact k1, k2⟩
          | false => obtain ⟨kvs, k1, k2⟩ := h5; exact ⟨kvs, by rw [upd_ne hne]; exact k1, k2⟩
    dis := fun j k s2 t2 c hj hk hs2 ht2 hc hd => by
      have get : ∀ j s2, (env.set i s')[j]? = some s2 → isOwn s2 = true → ∃ s3, env[j]? = some s3 ∧ isOwn s3 = true := fun j s2 hj hs2 => by
        rw [List.getElem?_set] at hj
        split at hj
        · rename_i hij
          subst hij
          exact ⟨s, hi, hs⟩
        · exact ⟨s2, hj, hs2⟩
      obtain ⟨s3, x1, x2⟩ := get j s2 hj hs2
      obtain ⟨t3, y1, y2⟩ := get k t2 hk ht2
      exact R.dis j k s3 t3 c x1 y1 x2 y2 hc hd
    tabs := fun P hP => by
      obtain ⟨ps, h1, h2⟩ := R.tabs P hP
      refine ⟨ps, ?_, h2.keep fun c phi e => by rw [upd_ne (show c ≠ a from fun z => mu_nophi hnt hu phi (z ▸ e))]; exact e⟩
      have hne : P ≠ a := fun z => by
        rw [z, hu] at h1; cases h1; exact mu_nt hnt ps rfl
      rw [upd_ne hne]; exact h1
    trk := fun c h => by
      by_cases hca : c = a
      · subst hca
        exact ho.some
      · rw [upd_ne hca]; exact R.trk c h }
abbrev minus (O : Addr → Bool) (a : Addr) : Addr → Bool := fun b => O b && !(b == a)
theorem hide_minus {a : Addr} : Ext (hide H O) (hide H (minus O a)) := Ext.unhide fun b h => by
  have h : (O b && !(b == a)) = true := h
  exact (Bool.and_eq_true_iff.mp h).1
/-- an own thing is given away -/
theorem EnvR.give (R : EnvR M T H₀ B O σ H env) {i : Nat} {s : Slot} {d : D} (hi : env[i]? = some s) (hd : ownOf d = .ok s) : ∃ O', EnvR M T H₀ B O' σ H (env.set i (.sh d)) ∧ Ext (hide H O) (hide H O') := by
  have hs : isOwn s = true := by cases d <;> cases hd <;> rfl
  obtain ⟨a, q1, q2, q3, q4, q5⟩ := R.own i s hi hs
  have hm : minus O a a = false := by simp [minus]
  have hil : i < env.length := by
    rcases Nat.lt_or_ge i env.length with h | h
    · exact h
    · rw [List.getElem?_eq_none h] at hi; cases hi
  have hr : Rp M (hide H (minus O a)) d (.ref a) := by
    have q5 := q5.mono (Ext.refl H) (hide_minus (H := H) (O := O) (a := a))
    cases d with
    | lst ds =>
      cases hd
      obtain ⟨vs, h1, h2⟩ := q5
      unfold Rp
      exact ⟨a, vs, rfl, by rw [hide_of hm]; exact h1, h2⟩
    | dct t ks vs =>
      cases hd
      cases t with
      | true =>
        obtain ⟨kvs, h1, h2, h3⟩ := q5
        unfold Rp
        exact ⟨a, _, rfl, h3, kvs, .inl (by rw [hide_of hm]; exact h1), h2, rfl⟩
      | false =>
        obtain ⟨kvs, h1, h2, h3⟩ := q5
        unfold Rp
        exact ⟨a, _, rfl, h3, kvs, .inl (by rw [hide_of hm]; exact h1), h2, rfl⟩
    | _ => cases hd
  refine ⟨minus O a, ?_, hide_minus⟩
  exact {
    ext := R.ext
    sub := fun b h => by
      have : b ≠ a := fun z => by rw [z, q4] at h; cases h
      simp [minus, R.sub b h, this]
    len := by rw [List.length_set]; exact R.len
    sh := fun j e hj => by
      rw [List.getElem?_set] at hj
      split at hj
      · rename_i hij
        subst hij

        cases hj
        exact ⟨_, q1, hr⟩
      · obtain ⟨w, h1, h2⟩ := R.sh j e hj
        exact ⟨w, h1, Rp.mono hide_minus e h2⟩
    own := fun j t hj hto => by
      rw [List.getElem?_set] at hj
      split at hj
      · skip
        cases hj; cases hto
      · rename_i hij
        obtain ⟨b, h1, h2, h3, h4, h5⟩ := R.own j t hj hto
        have hne : b ≠ a := fun z => hij (R.dis i j s t a hi hj hs hto q1 (z ▸ h1))
        exact ⟨b, h1, h2, by simp [minus, h3, hne], h4, h5.mono (Ext.refl H) hide_minus⟩
    dis := fun j k s2 t2 c hj hk hs2 ht2 hc hd => by
      rw [List.getElem?_set] at hj hk
      split at hj
      · cases hj; cases hs2
      · split at hk
        · cases hk; cases ht2
        · exact R.dis j k s2 t2 c hj hk hs2 ht2 hc hd
    tabs := R.tabs
    trk := fun c h => R.trk c (by
      have h : (O c && !(c == a)) = true := h
      exact (Bool.and_eq_true_iff.mp h).1) }
end
end Dx
namespace Dx
variable [Nm]
open PySem PySem.Spec L2
mutual
def tgN : Tg → List Nat
  | .name i => [i]
  | .tup l => tgNs l
def tgNs : List Tg → List Nat
  | [] => []
  | t :: l => tgN t ++ tgNs l
end
theorem wipe_set {σ : L2.St} {i : Nat} {x : Option V} : ∀ {vs : List Nat}, i ∈ vs → wipe (σ.set i x) vs = wipe σ vs
  | [], h => by simp at h
  | v :: vs, h => by
    unfold wipe
    by_cases hv : i = v
    · subst hv
      by_cases hi : i ∈ vs
      · rw [wipe_set hi]
      · apply List.ext_getElem?
        intro j
        rw [List.getElem?_set, List.getElem?_set, wipe_length, wipe_length, List.length_set]
        by_cases hj : i = j
        · rw [if_pos hj, if_pos hj]
        · rw [if_neg hj, if_neg hj]
          by_cases hm : j ∈ vs
          · have : ∀ (τ : L2.St) (ws : List Nat), j ∈ ws → (wipe τ ws)[j]? = if j < τ.length then some none else none := by
              intro τ ws
              induction ws with
              | nil => intro h; simp at h
              | cons w ws ih =>
                intro h
                unfold wipe
                rw [List.getElem?_set, wipe_length]
                by_cases hw : w = j
                · rw [if_pos hw, hw]
                · rw [if_neg hw]
                  rcases List.mem_cons.mp h with e | h
                  · exact absurd e.symm hw
                  · exact ih h
            rw [this _ _ hm, this _ _ hm, List.length_set]
          · rw [wipe_out hm, wipe_out hm, List.getElem?_set, if_neg hj]
    · rcases List.mem_cons.mp h with e | h
      · exact absurd e hv
      · rw [wipe_set h]
section
variable {M : MatC} {T : List Addr} {Ev : Nat → Hp → Prop}
/-- what a target's reading gives: only its own names change -/
abbrev SameBut (l : List Nat) (σ σ' : L2.St) : Prop := ∀ vs : List Nat, (∀ n ∈ l, n ∈ vs) → wipe σ' vs = wipe σ vs
def tG (M : MatC) (T : List Addr) (t : Tg) : TG := fun v σ H Q => ∃ H₀ B O env d env', EnvR M T H₀ B O σ H env ∧ Rp M (hide H O) d v ∧ tgD t d env = .ok env' ∧ ∀ σ', EnvR M T H₀ B O σ' H env' → SameBut (tgN t) σ σ' → Q σ' H
def tGs (M : MatC) (T : List Addr) (l : List Tg) : TGs := fun vs σ H Q => ∃ H₀ B O env ds env', EnvR M T H₀ B O σ H env ∧ RpL M (hide H O) ds vs ∧ tgL l ds env = .ok env' ∧ ∀ σ', EnvR M T H₀ B O σ' H env' → SameBut (tgNs l) σ σ' → Q σ' H
theorem pg_weak {X : Cx} {e : PySem.Expr} {t t' : TG} (h : PG X e t) (w : ∀ v σ H Q, t' v σ H Q → t v σ H Q) : PG X e t' := ⟨fun pins s σ H v u Q I r q => h.run pins s σ H v u Q I r (w v σ H Q q)⟩
theorem pgs_weak {X : Cx} {e : List PySem.Expr} {t t' : TGs} (h : PGs X e t) (w : ∀ v σ H Q, t' v σ H Q → t v σ H Q) : PGs X e t' := ⟨fun pins s σ H v u Q I r q => h.run pins s σ H v u Q I r (w v σ H Q q)⟩
theorem dg_name {X : Cx} {e : PySem.Expr} {i : Nat} (h : PG X e (gName i)) : PG X e (tG M T (.name i)) := by
  refine pg_weak h fun v σ H Q ⟨H₀, B, O, env, d, env', R, hd, ht, hq⟩ => ?_
  have ht : Res.ok (env.set i (.sh d)) = Res.ok env' := ht
  cases ht
  exact hq _ (R.setSh hd i) fun vs h => wipe_set (h i (by simp [tgN]))
theorem dg_nil {X : Cx} : PGs X [] (tGs M T []) := by
  refine pgs_weak pgs_nil fun vs σ H Q ⟨H₀, B, O, env, ds, env', R, hd, ht, hq⟩ => ?_
  cases ds with
  | nil =>
    have ht : Res.ok env = Res.ok env' := ht
    cases ht
    unfold RpL at hd
    exact ⟨hd, hq _ R fun _ _ => rfl⟩
  | cons d ds => exact nomatch ht
theorem dg_cons {X : Cx} {e : PySem.Expr} {es : List PySem.Expr} {t : Tg} {l : List Tg} (h1 : PG X e (tG M T t)) (h2 : PGs X es (tGs M T l)) (hs : (assignEach (e :: es) X.env).map (·.2) = assign e X.env :: (assignEach es X.env).map (·.2)) : PGs X (e :: es) (tGs M T (t :: l)) := by
  refine pgs_weak (pgs_cons h1 h2 hs) fun vs σ H Q ⟨H₀, B, O, env, ds, env', R, hd, ht, hq⟩ => ?_
  cases ds with
  | nil => exact nomatch ht
  | cons d ds =>
    unfold RpL at hd
    obtain ⟨v, r, rfl, hd1, hd2⟩ := hd
    have ht : (tgD t d env).bind (tgL l ds) = .ok env' := ht
    cases q : tgD t d env with
    | exc n => rw [q] at ht; cases ht
    | bad => rw [q] at ht; cases ht
    | ok e1 =>
      rw [q] at ht
      refine ⟨v, r, rfl, H₀, B, O, env, d, e1, R, hd1, q, fun σ1 R1 s1 => ⟨H₀, B, O, e1, ds, env', R1, hd2, ht, fun σ2 R2 s2 => hq σ2 R2 fun vs h => ?_⟩⟩
      rw [s2 vs fun n hn => h n (by unfold tgNs; exact List.mem_append_right _ hn), s1 vs fun n hn => h n (by unfold tgNs; exact List.mem_append_left _ hn)]
theorem tgL_len : ∀ (l : List Tg) (ds : List D) (env env' : DEnv), tgL l ds env = .ok env' → ds.length = l.length
  | [], [], _, _, _ => rfl
  | [], _ :: _, _, _, h => by cases h
  | _ :: _, [], _, _, h => by cases h
  | t :: l, d :: ds, env, env', h => by
    have h : (tgD t d env).bind (tgL l ds) = .ok env' := h
    cases q : tgD t d env with
    | exc n => rw [q] at h; cases h
    | bad => rw [q] at h; cases h
    | ok e1 => rw [q] at h; rw [List.length_cons, List.length_cons, tgL_len l ds e1 env' h]
theorem assignEach_len (env : Env) : ∀ es : List PySem.Expr, (assignEach es env).length = es.length
  | [] => rfl
  | e :: es => by cases e <;> (show (_ :: assignEach es env).length = _; rw [List.length_cons, List.length_cons, assignEach_len env es])
theorem dg_tup {X : Cx} {es : List PySem.Expr} {k : Nat} {pos : Pos} {l : List Tg} (hK : X.K = M.K) (hc : X.calm = true) (hl : es.length = l.length) (h : PGs X es (tGs M T l)) (hst : (assignEach es X.env).findIdx? (·.1) = none) : PG X (.Tuple es k pos) (tG M T (.tup l)) := by
  refine pg_weak (pg_tup (n := es.length) hc h (assignEach_len _ _) hst) fun v σ H Q ⟨H₀, B, O, env, d, env', R, hd, ht, hq⟩ => ?_
  cases d with
  | tup ds =>
    have ht : tgL l ds env = .ok env' := ht
    unfold Rp at hd
    obtain ⟨a, vs, rfl, h1, h2⟩ := hd
    exact ⟨a, vs, rfl, hK ▸ sqT_hide h1, by rw [h2.length, tgL_len l ds env env' ht, hl], H₀, B, O, env, ds, env', R, h2, ht, fun σ' R' s' => hq σ' R' s'⟩
  | _ => exact nomatch ht
theorem EnvR.wipe {H₀ H : Hp} {B O : Addr → Bool} {σ : L2.St} {env : DEnv} (R : EnvR M T H₀ B O σ H env) : ∀ vs : List Nat, EnvR M T H₀ B O (L2.wipe σ vs) H (wipeE env vs)
  | [] => R
  | v :: vs => (EnvR.wipe R vs).wipe1 v none
/-- one more address is hidden -/
theorem EnvR.more {H₀ H H' : Hp} {B O : Addr → Bool} {σ : L2.St} {env : DEnv} (R : EnvR M T H₀ B O σ H env) {p : Addr} (e : Ext H H') (hp : H p = none) (hp' : ∃ o, H' p = some o ∧ mu o = true) : EnvR M T H₀ B (plus O p) σ H' env where
  ext := R.ext.trans e
  sub := fun a h => by simp [plus, R.sub a h]
  len := R.len
  sh := fun j d hj => by
    obtain ⟨w, h1, h2⟩ := R.sh j d hj
    exact ⟨w, h1, Rp.mono (hide_new2 e hp) d h2⟩
  own := fun j t hj hto => by
    obtain ⟨a, h1, h2, h3, h4, h5⟩ := R.own j t hj hto
    exact ⟨a, h1, h2, by simp [plus, h3], h4, h5.mono e (hide_new2 e hp)⟩
  dis := R.dis
  tabs := fun P hP => (R.mono e).tabs P hP
  trk := fun a h => by
    have h : (O a || a == p) = true := h
    rw [Bool.or_eq_true] at h
    rcases h with h | h
    · exact (R.mono e).trk a h
    · have : a = p := by simpa using h
      subst this
      exact hp'
end
end Dx
namespace Dx
variable [Nm]
open PySem PySem.Spec L2
section
variable {M : MatC} {T : List Addr} {Ev : Nat → Hp → Prop}
/-- what a block's result asks -/
def EndS (M : MatC) (T : List Addr) (Ev : Nat → Hp → Prop) (H₀ : Hp) (B O : Addr → Bool) (H : Hp) (D : Ends) : Res Out → Prop
  | .ok (.nx e) => ∀ σ' H' O', EnvR M T H₀ B O' σ' H' e → Ext (hide H O) (hide H' O') → D.nx σ' H'
  | .ok (.bk e) => ∀ σ' H' O', EnvR M T H₀ B O' σ' H' e → Ext (hide H O) (hide H' O') → D.bk σ' H'
  | .ok (.ct e) => ∀ σ' H' O', EnvR M T H₀ B O' σ' H' e → Ext (hide H O) (hide H' O') → D.ct σ' H'
  | .ok (.ret d) => ∀ v H' O', Ext H₀ H' → Ext (hide H O) (hide H' O') → (∀ a, B a = true → O' a = true) → Rp M (hide H' O') d v → D.rt v H'
  | .exc n => ∀ H', Ext H₀ H' → Ev n H'
  | .bad => False
def tS (M : MatC) (T : List Addr) (Ev : Nat → Hp → Prop) (f : DEnv → Res Out) : TS := fun D σ H => ∃ H₀ B O env, EnvR M T H₀ B O σ H env ∧ EndS M T Ev H₀ B O H D (f env)
theorem EndS.step {H₀ H H1 : Hp} {B O O1 : Addr → Bool} {D : Ends} {r : Res Out} (h : EndS M T Ev H₀ B O H D r) (e : Ext (hide H O) (hide H1 O1)) : EndS M T Ev H₀ B O1 H1 D r := by
  cases r with
  | ok o =>
    cases o with
    | nx env => exact fun σ' H' O' R e2 => h σ' H' O' R (e.trans e2)
    | bk env => exact fun σ' H' O' R e2 => h σ' H' O' R (e.trans e2)
    | ct env => exact fun σ' H' O' R e2 => h σ' H' O' R (e.trans e2)
    | ret d => exact fun v H' O' k e2 s => h v H' O' k (e.trans e2) s
  | exc n => exact h
  | bad => exact h
theorem EndS.bind {α : Type} {H₀ H : Hp} {B O : Addr → Bool} {D : Ends} {r : Res α} {g : α → Res Out} (x : Ext H₀ H) (h : EndS M T Ev H₀ B O H D (r >>= g)) : After Ev r H fun a H1 => EndS M T Ev H₀ B O H1 D (g a) := by
  cases r with
  | ok a => exact fun H1 e1 => EndS.step (show EndS M T Ev H₀ B O H D (g a) from h) (e1.hide O)
  | exc n => exact fun H1 e1 => h H1 (x.trans e1)
  | bad => exact h
theorem EndS.ite {c : Prop} [Decidable c] {r : Res Out} {H₀ H : Hp} {B O : Addr → Bool} {D : Ends} (h : EndS M T Ev H₀ B O H D (if c then r else .bad)) : c ∧ EndS M T Ev H₀ B O H D r := by
  by_cases hc : c
  · rw [if_pos hc] at h; exact ⟨hc, h⟩
  · rw [if_neg hc] at h; exact h.elim
theorem dss_nil {X : Cx} : PSs X [] (tS M T Ev fun env => .ok (.nx env)) := pss_weak pss_nil fun D σ H ⟨H₀, B, O, env, R, h⟩ => h σ H O R (Ext.refl _)
theorem dss_cons {X : Cx} {st : PySem.Stmt} {rest : List PySem.Stmt} {f g : DEnv → Res Out} (h1 : PS X st (tS M T Ev f)) (h2 : PSs X rest (tS M T Ev g)) : PSs X (st :: rest) (tS M T Ev fun env => f env >>= thenS g) := by
  refine pss_weak (pss_cons h1 h2) fun D σ H ⟨H₀, B, O, env, R, h⟩ => ?_
  have h : EndS M T Ev H₀ B O H D (f env >>= thenS g) := h
  refine ⟨H₀, B, O, env, R, ?_⟩
  cases e : f env with
  | ok o =>
    rw [e] at h
    cases o with
    | nx e1 => exact fun σ' H' O' R' e2 => ⟨H₀, B, O', e1, R', EndS.step (show EndS M T Ev H₀ B O H D (g e1) from h) e2⟩
    | bk e1 => exact h
    | ct e1 => exact h
    | ret d => exact h
  | exc n => rw [e] at h; exact h
  | bad => rw [e] at h; exact h
/-- a ghost: an own thing is given away -/
theorem dss_frz {X : Cx} {rest : List PySem.Stmt} {g : DEnv → Res Out} (i : Nat) (h2 : PSs X rest (tS M T Ev g)) : PSs X rest (tS M T Ev fun env => g (frzD i env)) := by
  refine pss_weak h2 fun D σ H ⟨H₀, B, O, env, R, h⟩ => ?_
  have h : EndS M T Ev H₀ B O H D (g (frzD i env)) := h
  unfold frzD at h
  split at h
  · rename_i ds hi
    obtain ⟨O', R', e⟩ := R.give hi (d := .lst ds) rfl
    exact ⟨H₀, B, O', _, R', h.step e⟩
  · rename_i t ks vs hi
    obtain ⟨O', R', e⟩ := R.give hi (d := .dct t ks vs) rfl
    exact ⟨H₀, B, O', _, R', h.step e⟩
  · exact ⟨H₀, B, O, env, R, h⟩
mutual
theorem tg_ne : ∀ (t : Tg) (d : D) (env : DEnv) (n : Nat), tgD t d env ≠ .exc n
  | .name i, _, _, _ => fun z => nomatch z
  | .tup l, .tup ds, env, n => tgL_ne l ds env n
  | .tup l, .non, _, _ => fun z => nomatch z
  | .tup l, .bl _, _, _ => fun z => nomatch z
  | .tup l, .int _, _, _ => fun z => nomatch z
  | .tup l, .str _, _, _ => fun z => nomatch z
  | .tup l, .lst _, _, _ => fun z => nomatch z
  | .tup l, .ftup _, _, _ => fun z => nomatch z
  | .tup l, .scr _, _, _ => fun z => nomatch z
  | .tup l, .dct _ _ _, _, _ => fun z => nomatch z
  | .tup l, .set _, _, _ => fun z => nomatch z
  | .tup l, .mat _ _ _, _, _ => fun z => nomatch z
theorem tgL_ne : ∀ (l : List Tg) (ds : List D) (env : DEnv) (n : Nat), tgL l ds env ≠ .exc n
  | [], [], _, _ => fun z => nomatch z
  | [], _ :: _, _, _ => fun z => nomatch z
  | _ :: _, [], _, _ => fun z => nomatch z
  | t :: l, d :: ds, env, n => fun z => by
    have z : (tgD t d env).bind (tgL l ds) = .exc n := z
    cases q : tgD t d env with
    | ok e => rw [q] at z; exact tgL_ne l ds e n z
    | exc m => exact tg_ne t d env m q
    | bad => rw [q] at z; cases z
end
/-! ### the simple ones -/
theorem ds_pass {X : Cx} {pos : Pos} : PS X (.Pass pos) (tS M T Ev fun env => .ok (.nx env)) := ps_weak ps_pass fun D σ H ⟨H₀, B, O, env, R, h⟩ => h σ H O R (Ext.refl _)
theorem ds_brk {X : Cx} {pos : Pos} : PS X (.Break pos) (tS M T Ev fun env => .ok (.bk env)) := ps_weak ps_break fun D σ H ⟨H₀, B, O, env, R, h⟩ => h σ H O R (Ext.refl _)
theorem ds_cont {X : Cx} {pos : Pos} : PS X (.Continue pos) (tS M T Ev fun env => .ok (.ct env)) := ps_weak ps_continue fun D σ H ⟨H₀, B, O, env, R, h⟩ => h σ H O R (Ext.refl _)
theorem ds_expr {X : Cx} {e : PySem.Expr} {pos : Pos} {f : DEnv → Res D} {k : DEnv → Bool} (he : PE X e (tE M T Ev f k)) (hs : swapsWith e none pos.line X.env = pure false) : PS X (.Expr e pos) (tS M T Ev fun env => do let _ ← f env; .ok (.nx env)) := by
  refine ps_weak (ps_expr he hs) fun D σ H ⟨H₀, B, O, env, R, h⟩ => ?_
  exact ⟨H₀, B, O, env, R, After.mono (EndS.bind R.ext h) (Ext.refl H) fun d H1 e1 _ q v _ _ => q σ H1 O (R.mono e1) (Ext.refl _)⟩
theorem ds_retN {X : Cx} {pos : Pos} : PS X (.Return none pos) (tS M T Ev fun _ => .ok (.ret .non)) :=
  ps_weak ps_retN fun D σ H ⟨H₀, B, O, env, R, h⟩ => h .non H O R.ext (Ext.refl _) R.sub rp_non
theorem ds_ret {X : Cx} {e : PySem.Expr} {pos : Pos} {f : DEnv → Res D} {k : DEnv → Bool} (he : PE X e (tE M T Ev f k)) : PS X (.Return (some e) pos) (tS M T Ev (retG f k)) := by
  refine ps_weak (ps_ret he) fun D σ H ⟨H₀, B, O, env, R, h⟩ => ?_
  obtain ⟨hk, h⟩ := EndS.ite (c := k env = true) h
  exact ⟨H₀, B, O, env, R, After.mono (EndS.bind R.ext h) (Ext.refl H) fun d H1 e1 _ q v _ kk => q v H1 O (R.ext.trans e1) (Ext.refl _) R.sub (kk hk)⟩
theorem asg_read {te : TE} {f : DEnv → Res D} {k : DEnv → Bool} {t : Tg} {D : Ends} {σ : L2.St} {H : Hp} (h : tS M T Ev (asgG f k t) D σ H) : tAsg (tE M T Ev f k) (tG M T t) D σ H := by
  obtain ⟨H₀, B, O, env, R, h⟩ := h
  obtain ⟨hk, h⟩ := EndS.ite (c := k env = true) h
  refine ⟨H₀, B, O, env, R, After.mono (EndS.bind R.ext h) (Ext.refl H) fun d H1 e1 _ q v _ kk => ?_⟩
  cases ht : tgD t d env with
  | ok env' =>
    rw [ht] at q
    exact ⟨H₀, B, O, env, d, env', R.mono e1, kk hk, ht, fun σ' R' _ => q σ' H1 O R' (Ext.refl _)⟩
  | exc n =>
    exact absurd ht (tg_ne t d env n)
  | bad => rw [ht] at q; exact q.elim
theorem ds_asg {X : Cx} {tg e : PySem.Expr} {pos : Pos} {f : DEnv → Res D} {k : DEnv → Bool} {t : Tg} (he : PE X e (tE M T Ev f k)) (hg : PG X tg (tG M T t)) (hs : swapsWithSole [tg] e pos.line X.env = pure false) (hw : swappedStores [tg] e X.env = pure none)
    (h1 : (assignEach [tg] X.env).map (·.2) = [assign tg X.env]) : PS X (.Assign [tg] e pos) (tS M T Ev (asgG f k t)) :=
  ps_weak (ps_asg he hg hs hw h1) fun D σ H h => asg_read (te := tE M T Ev f k) h
theorem new_read {f : DEnv → Res D} {i : Nat} {D : Ends} {σ : L2.St} {H : Hp} (h : tS M T Ev (newG f i) D σ H) : tAsg (tN M T Ev f) (gName i) D σ H := by
  obtain ⟨H₀, B, O, env, R, h⟩ := h
  have h : EndS M T Ev H₀ B O H D (f env >>= fun x => ownOf x >>= fun s => .ok (.nx (env.set i s))) := h
  rw [← Res.bind_assoc] at h
  refine ⟨H₀, B, O, env, R, ?_⟩
  cases e : f env >>= ownOf with
  | ok s =>
    rw [e] at h
    exact fun H1 e1 p hp ho => h _ H1 _ (R.setOwn e1 hp ho i) (hide_new2 e1 hp)
  | exc n => rw [e] at h; exact fun H1 e1 => h H1 (R.ext.trans e1)
  | bad => rw [e] at h; exact h
theorem ds_new {X : Cx} {tg e : PySem.Expr} {pos : Pos} {f : DEnv → Res D} {i : Nat} (he : PE X e (tN M T Ev f)) (hg : PG X tg (gName i)) (hs : swapsWithSole [tg] e pos.line X.env = pure false) (hw : swappedStores [tg] e X.env = pure none)
    (h1 : (assignEach [tg] X.env).map (·.2) = [assign tg X.env]) : PS X (.Assign [tg] e pos) (tS M T Ev (newG f i)) :=
  ps_weak (ps_asg he hg hs hw h1) fun D σ H h => new_read h
theorem ds_if {X : Cx} {c : PySem.Expr} {a b : List PySem.Stmt} {pos : Pos} {fc : DEnv → Res Bool} {f g : DEnv → Res Out} (hc : PT X c (tT M T Ev fc)) (ha : PSs X a (tS M T Ev f)) (hb : PSs X b (tS M T Ev g)) :
    PS X (.If c a b pos) (tS M T Ev fun env => do let k ← fc env; if k then f env else g env) := by
  refine ps_weak (ps_if hc ha hb) fun D σ H ⟨H₀, B, O, env, R, h⟩ => ?_
  refine ⟨H₀, B, O, env, R, After.mono (EndS.bind R.ext h) (Ext.refl H) fun k H1 e1 _ q => ?_⟩
  cases k with
  | true => exact ⟨H₀, B, O, env, R.mono e1, q⟩
  | false => exact ⟨H₀, B, O, env, R.mono e1, q⟩
end
end Dx
namespace Dx
variable [Nm]
open PySem PySem.Spec L2
section
variable {M : MatC} {T : List Addr} {Ev : Nat → Hp → Prop}
theorem EnvR.lst {H₀ H : Hp} {B O : Addr → Bool} {σ : L2.St} {env : DEnv} (R : EnvR M T H₀ B O σ H env) {i : Nat} {ds : List D} (hi : env[i]? = some (.own ds)) :
    ∃ a vs, σ[i]? = some (some (.ref a)) ∧ O a = true ∧ H a = some (.lst vs) ∧ RpL M (hide H O) ds vs := by
  obtain ⟨a, q1, q2, q3, q4, vs, q5, q6⟩ := R.own i _ hi rfl
  exact ⟨a, vs, q1, q3, q5, q6⟩
/-- the end of a step that changes an own list -/
theorem EnvR.putL {H₀ H H1 : Hp} {B O : Addr → Bool} {σ : L2.St} {env : DEnv} {D : Ends} (R : EnvR M T H₀ B O σ H env) (e1 : Ext H H1) {i : Nat} {a : Addr} {ds ds' : List Dx.D} {vs' : List V} (hi : env[i]? = some (.own ds)) (ha : σ[i]? = some (some (.ref a))) (hr : RpL M (hide H1 O) ds' vs')
    (q : ∀ σ' H' O', EnvR M T H₀ B O' σ' H' (env.set i (.own ds')) → Ext (hide H O) (hide H' O') → D.nx σ' H') : D.nx σ (upd H1 a (.lst vs')) := by
  obtain ⟨b, vs, q1, q3, q5, q6⟩ := R.lst hi
  rw [ha] at q1; cases q1
  have R2 := (R.mono e1).mutate (s' := .own ds') (o := .lst vs') hi rfl ha rfl ⟨vs', upd_same, hr⟩
  refine q σ _ O R2 ?_
  rw [hide_upd q3 rfl (e1.keep a _ q5 fun ps z => nomatch z) rfl]
  exact e1.hide O
theorem get_list {X : Cx} : PGet X (rIxL X.K) := by
  intro pins s σ H x y v u Q I rx ry h
  obtain ⟨p, xs, i, z, rfl, rfl, hq, he, q⟩ := h
  cases rx
  obtain ⟨t, rfl⟩ := ry
  obtain ⟨its, r, pl, hz⟩ := I.list hq
  obtain ⟨j, h1, h2, h3, h4, h5⟩ := atI_get he
  obtain ⟨w, ew, rw'⟩ := r.get h2
  have hl := r.length
  have hn := line63
  have fin : EP X pins σ Q w s := ⟨z, H, I, rw', q⟩
  by_cases h0 : 0 ≤ i
  · have hj : i.toNat = j := by
      rw [seqIndex_of h0 h5] at h1
      exact Option.some.inj h1
    exact wpAny_getItem_list pl.isList h0 (by omega) (by rw [hj]; simpa using ew) fin
  · have hj : (i + (its.toArray.size : Int)).toNat = j := by
      rw [seqIndex_neg (by omega) h4] at h1
      rw [List.size_toArray, ← hl]
      exact Option.some.inj h1
    exact wpAny_getItem_list_neg pl.isList (by omega) (by rw [List.size_toArray] <;> omega) (by omega) (by rw [hj]; simpa using ew) fin
/-- x += e -/
theorem ds_aug {X : Cx} {i : Nat} {st : PySem.Stmt} {f : DEnv → Res D} {k : DEnv → Bool} (h : PS X st (tAug i (tE M T Ev f k) (ipI fun i j => i + j))) : PS X st (tS M T Ev (augG f i .add)) := by
  refine ps_weak h fun D σ H ⟨H₀, B, O, env, R, h⟩ => ?_
  have h : EndS M T Ev H₀ B O H D (augG f i .add env) := h
  unfold augG at h
  split at h
  · rename_i x hi
    obtain ⟨v, h1, h2⟩ := R.sh i _ hi
    have hv : v = .int x := by unfold Rp at h2; exact h2
    subst hv
    refine ⟨.int x, h1, H₀, B, O, env, R, After.mono (EndS.bind R.ext h) (Ext.refl H) fun d H1 e1 _ q w b _ => ?_⟩
    cases d with
    | int y =>
      exact ⟨x, y, rfl, br_int b, q _ H1 O ((R.mono e1).setSh rp_int i) (Ext.refl _)⟩
    | _ => exact q.elim
  · exact h.elim
theorem After.iteS {c : Prop} [Decidable c] {r : Res Out} {H₀ H : Hp} {B O : Addr → Bool} {D : Ends} (h : EndS M T Ev H₀ B O H D (if c then r else .bad)) : c ∧ EndS M T Ev H₀ B O H D r := EndS.ite h
theorem tyV_list {H : Hp} {a : Addr} {vs : List V} (h : H a = some (.lst vs)) (K : PySem.W.Frag) : tyV K "list" (.ref a) H := .inl ⟨rfl, vs, SqL.of h⟩
theorem ds_app {X : Cx} {i : Nat} {o e : PySem.Expr} {apos cpos pos : Pos} {f : DEnv → Res D} {k : DEnv → Bool} (ho : PE X o (tVar i)) (he : PE X e (tE M T Ev f k)) (hs : starEach [e] X.env = (false, eval e X.env) :: starEach [] X.env)
    (hbase : attributeBase o "append" X.env (eval o X.env) = eval o X.env) (hfew : ((backTo cpos (starEach [e] X.env)).all (fun x => !x.1) && (backToKw cpos (keywordEach [] X.env)).all (fun x => x.1.isSome)
      && decide ([e].length + ([] : List Keyword).length + (if ([] : List Keyword).isEmpty then 0 else 1) < 30)) = true) (hline : (apos.endLine == cpos.line) = true) :
    PS X (.Expr (.Call (.Attribute o "append" apos) [e] [] cpos) pos) (tS M T Ev (appG f k i)) := by
  refine ps_weak (ps_expr (pe_bm PySem.F.plainAttrs_list PySem.F.slot_list_append PySem.F.type_list_append mt_append ho (pa_cons he pa_nil hs) hbase hfew hline hs rfl) rfl) fun D σ H ⟨H₀, B, O, env, R, h⟩ => ?_
  have h : EndS M T Ev H₀ B O H D (appG f k i env) := h
  unfold appG at h
  split at h
  · rename_i ds hi
    obtain ⟨hk, h⟩ := EndS.ite h
    obtain ⟨a, vs, q1, q3, q5, q6⟩ := R.lst hi
    refine ⟨.ref a, q1, tyV_list q5 X.K, H₀, B, O, env, R, After.mono (EndS.bind R.ext h) (Ext.refl H) fun d H1 e1 _ q w b kk => ?_⟩
    obtain ⟨hl, q⟩ := EndS.ite q
    obtain ⟨a', vs', p1, p3, p5, p6⟩ := (R.mono e1).lst hi
    rw [q1] at p1; cases p1
    refine ⟨a, vs', w, rfl, rfl, p5, by rw [p6.length]; exact of_decide_eq_true hl, ?_⟩
    exact (R.mono e1).putL (Ext.refl H1) hi q1 (p6.append (.cons (kk hk) .nil)) q
  · exact h.elim
end
end Dx
namespace Dx
variable [Nm]
open PySem PySem.Spec L2
section
variable {M : MatC} {T : List Addr} {Ev : Nat → Hp → Prop}
theorem RpL.dropLast {H : Hp} {ds : List D} {vs : List V} (h : RpL M H ds vs) : RpL M H ds.dropLast vs.dropLast := by
  rw [List.dropLast_eq_take, List.dropLast_eq_take, h.length]
  exact h.take _
theorem ds_pop {X : Cx} {i : Nat} {o : PySem.Expr} {apos cpos pos : Pos} (ho : PE X o (tVar i))
    (hbase : attributeBase o "pop" X.env (eval o X.env) = eval o X.env) (hline : (apos.endLine == cpos.line) = true) :
    PS X (.Expr (.Call (.Attribute o "pop" apos) [] [] cpos) pos) (tS M T Ev (popG i)) := by
  refine ps_weak (ps_expr (pe_bm0 PySem.F.plainAttrs_list PySem.F.slot_list_pop PySem.F.type_list_pop mt_pop ho hbase hline) rfl) fun D σ H ⟨H₀, B, O, env, R, h⟩ => ?_
  have h : EndS M T Ev H₀ B O H D (popG i env) := h
  unfold popG at h
  split at h
  · rename_i ds hi
    split at h
    · exact h.elim
    · rename_i hne
      obtain ⟨a, vs, q1, q3, q5, q6⟩ := R.lst hi
      have hl := q6.length
      have hpos : 0 < vs.length := by
        cases ds with
        | nil => exact absurd rfl hne
        | cons d r => rw [hl]; exact Nat.succ_pos _
      obtain ⟨y, hy⟩ : ∃ y, vs[vs.length - 1]? = some y := ⟨_, List.getElem?_eq_getElem (by omega)⟩
      exact ⟨.ref a, q1, tyV_list q5 X.K, a, vs, y, rfl, rfl, q5, hy, R.putL (Ext.refl H) hi q1 q6.dropLast h⟩
  · exact h.elim
theorem ds_popTo {X : Cx} {i j : Nat} {o tg : PySem.Expr} {apos cpos pos : Pos} (ho : PE X o (tVar i)) (hg : PG X tg (gName j))
    (hbase : attributeBase o "pop" X.env (eval o X.env) = eval o X.env) (hline : (apos.endLine == cpos.line) = true) 
    (hs : swapsWithSole [tg] (.Call (.Attribute o "pop" apos) [] [] cpos) pos.line X.env = pure false) (hw : swappedStores [tg] (.Call (.Attribute o "pop" apos) [] [] cpos) X.env = pure none)
    (h1 : (assignEach [tg] X.env).map (·.2) = [assign tg X.env]) :
    PS X (.Assign [tg] (.Call (.Attribute o "pop" apos) [] [] cpos) pos) (tS M T Ev (popToG j i)) := by
  refine ps_weak (ps_asg (pe_bm0 PySem.F.plainAttrs_list PySem.F.slot_list_pop PySem.F.type_list_pop mt_pop ho hbase hline) hg hs hw h1) fun D σ H ⟨H₀, B, O, env, R, h⟩ => ?_
  have h : EndS M T Ev H₀ B O H D (popToG j i env) := h
  unfold popToG at h
  split at h
  · rename_i ds hi
    split at h
    · rename_i d hd
      obtain ⟨a, vs, q1, q3, q5, q6⟩ := R.lst hi
      have hl := q6.length
      obtain ⟨y, hy, ry⟩ := q6.get hd
      refine ⟨.ref a, q1, tyV_list q5 X.K, a, vs, y, rfl, rfl, q5, by rw [hl]; exact hy, ?_⟩
      exact R.putL (D := { D with nx := fun σ' H' => D.nx (σ'.set j (some y)) H' }) (Ext.refl H) hi q1 q6.dropLast fun σ' H' O' R' e' =>
        h _ H' O' (R'.setSh (Rp.mono e' d ry) j) e'
    · exact h.elim
  · exact h.elim
theorem ds_setI {X : Cx} {i : Nat} {o kx e : PySem.Expr} {tpos pos : Pos} {f g : DEnv → Res D} {kf kg : DEnv → Bool} (ho : PE X o (tVar i)) (hk : PE X kx (tE M T Ev g kg)) (he : PE X e (tE M T Ev f kf))
    (ha : ∀ v, assign (.Subscript o kx tpos) X.env v = (do
      let ov ← holding [v] (eval o X.env)
      let iv ← holding [v, ov] (eval kx X.env)
      standAt tpos
      holding [v, ov, iv] (setItem ov iv v)
      release [v, ov, iv] []))
    (hs : swapsWithSole [.Subscript o kx tpos] e pos.line X.env = pure false) : PS X (.Assign [.Subscript o kx tpos] e pos) (tS M T Ev (setIG f g kf i)) := by
  refine ps_weak (ps_asg he (pg_sub ho hk set_list ha) hs rfl rfl) fun D σ H ⟨H₀, B, O, env, R, h⟩ => ?_
  have h : EndS M T Ev H₀ B O H D (setIG f g kf i env) := h
  unfold setIG at h
  split at h
  · rename_i ds hi
    obtain ⟨hkf, h⟩ := EndS.ite h
    refine ⟨H₀, B, O, env, R, After.mono (EndS.bind R.ext h) (Ext.refl H) fun d H1 e1 _ q w b kk => ?_⟩
    have R1 := R.mono e1
    obtain ⟨a, vs, q1, q3, q5, q6⟩ := R1.lst hi
    refine ⟨.ref a, q1, H₀, B, O, env, R1, After.mono (EndS.bind R1.ext q) (Ext.refl H1) fun n H2 e2 _ q w2 b2 _ => ?_⟩
    cases n with
    | int n =>
      have q : EndS M T Ev H₀ B O H2 D (match L2.ixN ds.length n with | some j => .ok (.nx (env.set i (.own (ds.set j d)))) | none => .bad) := q
      split at q
      · rename_i j hj
        have R2 := R1.mono e2
        obtain ⟨a', vs', p1, p3, p5, p6⟩ := R2.lst hi
        rw [q1] at p1; cases p1
        exact ⟨a, vs', n, j, rfl, br_int b2, p5, by rw [p6.length]; exact hj, R2.putL (Ext.refl H2) hi q1 (p6.set (Rp.mono (e2.hide O) d (kk hkf)) j) q⟩
      · exact q.elim
    | _ => exact q.elim
  · exact h.elim
theorem ds_augI {X : Cx} {i : Nat} {o kx e : PySem.Expr} {tpos pos : Pos} {f g : DEnv → Res D} {kf kg : DEnv → Bool} (hK : X.K = M.K) (ho : PE X o (tVar i)) (hk : PE X kx (tE M T Ev g kg)) (he : PE X e (tE M T Ev f kf))
    (ha : ∀ ov iv new, augStore kx ov iv new = (do holding [new, ov, iv] (setItem ov iv new); release [new, ov, iv] []; pure .next)) : PS X (.AugAssign (.Subscript o kx tpos) .Add e pos) (tS M T Ev (augIG f g i)) := by
  refine ps_weak (ps_augS ho hk get_list he ip_add set_list ha) fun D σ H ⟨H₀, B, O, env, R, h⟩ => ?_
  have h : EndS M T Ev H₀ B O H D (augIG f g i env) := h
  unfold augIG at h
  split at h
  · rename_i ds hi
    obtain ⟨a, vs, q1, q3, q5, q6⟩ := R.lst hi
    refine ⟨.ref a, q1, H₀, B, O, env, R, After.mono (EndS.bind R.ext h) (Ext.refl H) fun n H1 e1 _ q w b _ => ?_⟩
    cases n with
    | int n =>
      have q : EndS M T Ev H₀ B O H1 D (match L2.ixN ds.length n with
        | some j => match ds[j]? with
          | some (.int a) => do match ← f env with
            | .int b => .ok (.nx (env.set i (.own (ds.set j (.int (a + b))))))
            | _ => .bad
          | _ => .bad
        | none => .bad) := q
      split at q
      · rename_i j hj
        split at q
        · rename_i x hx
          have R1 := R.mono e1
          obtain ⟨a', vs', p1, p3, p5, p6⟩ := R1.lst hi
          rw [q1] at p1; cases p1
          obtain ⟨y, hy, ry⟩ := p6.get hx
          have ey : y = .int x := by unfold Rp at ry; exact ry
          subst ey
          refine ⟨a, vs', n, .int x, rfl, br_int b, hK ▸ SqL.of p5, by unfold atI; rw [p6.length, hj]; exact hy, ?_⟩
          refine ⟨H₀, B, O, env, R1, After.mono (EndS.bind R1.ext q) (Ext.refl H1) fun m H2 e2 _ q w2 b2 _ => ?_⟩
          cases m with
          | int m =>
            have R2 := R1.mono e2
            obtain ⟨a', vs2, r1, r3, r5, r6⟩ := R2.lst hi
            rw [q1] at r1; cases r1
            exact ⟨x, m, rfl, br_int b2, a, vs2, n, j, rfl, br_int b, r5, by rw [r6.length]; exact hj, R2.putL (Ext.refl H2) hi q1 (r6.set rp_int j) q⟩
          | _ => exact q.elim
        · exact q.elim
      · exact q.elim
    | _ => exact q.elim
  · exact h.elim
end
end Dx
namespace Dx
variable [Nm]
open PySem PySem.Spec L2
section
variable {M : MatC} {T : List Addr} {Ev : Nat → Hp → Prop}
/-! ### a dict takes a value -/
theorem any_kD (k : Key) (kvs : List (Key × V)) : ((kvs.map fun p => kD p.1).any fun q => keyEq q (kD k)) = kvs.any fun p => decide (p.1 = k) := by
  rw [List.any_map]
  congr 1
  funext p
  exact keyEq_kD p.1 k
theorem any_tD (k : List Key) (kvs : List (List Key × V)) : ((kvs.map fun p => D.tup (p.1.map kD)).any fun q => keyEq q (.tup (k.map kD))) = kvs.any fun p => decide (p.1 = k) := by
  rw [List.any_map]
  congr 1
  funext p
  exact keyEq_tD p.1 k
theorem put_rel {κ : Type} [DecidableEq κ] {Hv : Hp} (en : κ → D) (hen : ∀ a b, keyEq (en a) (en b) = decide (a = b)) (k : κ) {d : D} {v : V} (hd : Rp M Hv d v) :
    ∀ {kvs : List (κ × V)} {vs : List D}, RpL M Hv vs (kvs.map (·.2)) →
      (putK kvs k v).map (fun p => en p.1) = (putL (kvs.map fun p => en p.1) vs (en k) d).1 ∧ RpL M Hv (putL (kvs.map fun p => en p.1) vs (en k) d).2 ((putK kvs k v).map (·.2)) := by
  intro kvs vs h
  have ea : ((kvs.map fun p => en p.1).any fun q => keyEq q (en k)) = kvs.any fun p => decide (p.1 = k) := by
    rw [List.any_map]
    congr 1
    funext p
    exact hen p.1 k
  unfold putK putL
  rw [ea]
  by_cases hc : (kvs.any fun p => decide (p.1 = k)) = true
  · rw [if_pos hc, if_pos hc]
    refine ⟨?_, ?_⟩
    · rw [List.map_map]
      apply List.map_congr_left
      intro p _
      show en (if p.1 = k then (p.1, v) else p).1 = en p.1
      split <;> rfl
    · clear hc ea
      induction kvs generalizing vs with
      | nil =>
        have := h.length
        cases vs with
        | nil => exact .nil
        | cons x y => simp at this
      | cons p kvs ih =>
        cases vs with
        | nil => have := h.length; simp at this
        | cons x vs =>
          unfold RpL at h
          obtain ⟨w, r, e, h1, h2⟩ := h
          rw [List.map_cons] at e
          injection e with e3 e4
          subst e3; subst e4
          rw [List.map_cons, List.map_cons, List.zip_cons_cons, List.map_cons, List.map_cons]
          refine .cons ?_ (ih h2)
          show Rp M Hv (if keyEq (en p.1) (en k) = true then d else x) (if p.1 = k then (p.1, v) else p).2
          rw [hen]
          by_cases hk : p.1 = k
          · rw [if_pos hk, if_pos (decide_eq_true hk)]; exact hd
          · rw [if_neg hk, if_neg (by simp [hk])]; exact h1
  · rw [if_neg hc, if_neg hc]
    refine ⟨by rw [List.map_append]; rfl, ?_⟩
    rw [List.map_append]
    exact h.append (.cons hd .nil)
theorem ds_put {X : Cx} {i : Nat} {o kx e : PySem.Expr} {tpos pos : Pos} {f g : DEnv → Res D} {kf kg : DEnv → Bool} (hu : X.A.units + 1 < cLine) (ho : PE X o (tVar i)) (hk : PE X kx (tE M T Ev g kg)) (he : PE X e (tE M T Ev f kf))
    (hs : swapsWith e (some (.Subscript o kx tpos)) pos.line X.env = pure false) : PS X (.Assign [.Subscript o kx tpos] e pos) (tS M T Ev (putG f g kf i)) := by
  refine ps_weak (ps_dput hu ho hk he hs) fun D σ H ⟨H₀, B, O, env, R, h⟩ => ?_
  have h : EndS M T Ev H₀ B O H D (putG f g kf i env) := h
  unfold putG at h
  split at h
  · rename_i t ks vs hi
    obtain ⟨hkf, h⟩ := EndS.ite h
    refine ⟨H₀, B, O, env, R, After.mono (EndS.bind R.ext h) (Ext.refl H) fun d H1 e1 _ q w b kk => ?_⟩
    have R1 := R.mono e1
    obtain ⟨a, q1, q2, q3, q4, q5⟩ := R1.own i _ hi rfl
    refine ⟨.ref a, q1, H₀, B, O, env, R1, After.mono (EndS.bind R1.ext q) (Ext.refl H1) fun y H2 e2 _ q w2 b2 _ => ?_⟩
    obtain ⟨hc, q⟩ := EndS.ite q
    rw [Bool.and_eq_true] at hc
    obtain ⟨hfit, hlen⟩ := hc
    have hlen : ks.length < sizeLine := of_decide_eq_true hlen
    have R2 := R1.mono e2
    have q5 := q5.mono e2 (e2.hide O)
    have rd : Rp M (hide H2 O) d w := Rp.mono (e2.hide O) d (kk hkf)
    cases t with
    | false =>
      obtain ⟨kvs, h1, rfl, h3⟩ := q5
      obtain ⟨kk2, rfl⟩ := keyK_of hfit
      have ek : w2 = kV kk2 := by
        cases kk2 with
        | inl i => exact br_int b2
        | inr i => exact br_str b2
      subst ek
      rw [List.length_map] at hlen
      obtain ⟨p1, p2⟩ := put_rel kD keyEq_kD kk2 rd h3
      refine ⟨a, _, rfl, DPut.k h1 hlen, ?_⟩
      exact q σ _ O (R2.mutate (s' := .ownD false _ _) (o := .dK _) hi rfl q1 rfl ⟨_, upd_same, p1.symm, p2⟩) (by rw [hide_upd q3 rfl h1 rfl]; exact Ext.refl _)
    | true =>
      obtain ⟨kvs, h1, rfl, h3⟩ := q5
      obtain ⟨kk2, rfl⟩ := keyT_of hfit
      obtain ⟨c, us, rfl, hb, hu2⟩ := br_tup b2
      have eu := rpL_kD kk2 hu2
      subst eu
      rw [List.length_map] at hlen
      obtain ⟨p1, p2⟩ := put_rel (fun k : List Key => Dx.D.tup (k.map kD)) keyEq_tD kk2 rd h3
      refine ⟨a, _, rfl, DPut.t h1 (hide_some hb).2 hlen, ?_⟩
      exact q σ _ O (R2.mutate (s' := .ownD true _ _) (o := .dT _) hi rfl q1 rfl ⟨_, upd_same, p1.symm, p2⟩) (by rw [hide_upd q3 rfl h1 rfl]; exact Ext.refl _)
  · exact h.elim
theorem ds_raise {X : Cx} {st : PySem.Stmt} {n : Nat} (h : PS X st fun _ _ H => Ev n H) : PS X st (tS M T Ev fun _ => .exc n) := ps_weak h fun D σ H ⟨H₀, B, O, env, R, h⟩ => h H R.ext
/-! ### loops -/
theorem ds_while {X : Cx} {c : PySem.Expr} {body : List PySem.Stmt} {pos : Pos} {fc : DEnv → Res Bool} {f : DEnv → Res Out} (fuel : Nat) (hp : PassesOwn (model X.prog X.w) X.A X.env X.xe) (hc : PT X c (tT M T Ev fc)) (hb : PSs X body (tS M T Ev f)) :
    PS X (.While c body [] pos) (tS M T Ev (whileL fc f fuel)) := by
  refine ps_weak (ps_while hp hc hb) fun D σ H ⟨H₀, B, O, env, R, h⟩ => ?_
  refine ⟨fun m σ H => ∃ O env, EnvR M T H₀ B O σ H env ∧ EndS M T Ev H₀ B O H D (whileL fc f m env), ⟨fuel, O, env, R, h⟩, ?_⟩
  rintro m σ H ⟨O, env, R, h⟩
  cases m with
  | zero => exact h.elim
  | succ m =>
    have h : EndS M T Ev H₀ B O H D (fc env >>= fun b => if b = true then (do
      match ← f env with
      | .nx e => whileL fc f m e
      | .ct e => whileL fc f m e
      | .bk e => .ok (.nx e)
      | .ret r => .ok (.ret r)) else .ok (.nx env)) := h
    refine ⟨H₀, B, O, env, R, After.mono (EndS.bind R.ext h) (Ext.refl H) fun b H1 e1 _ q => ?_⟩
    have R1 := R.mono e1
    cases b with
    | false => exact q σ H1 O R1 (Ext.refl _)
    | true =>
      refine ⟨fun σ' H' => ∃ O env, EnvR M T H₀ B O σ' H' env ∧ EndS M T Ev H₀ B O H' D (whileL fc f m env), fun σ' H' h => ⟨m, Nat.lt_succ_self m, h⟩, H₀, B, O, env, R1, ?_⟩
      have q : EndS M T Ev H₀ B O H1 D (f env >>= fun o => match o with
        | .nx e => whileL fc f m e
        | .ct e => whileL fc f m e
        | .bk e => .ok (.nx e)
        | .ret r => .ok (.ret r)) := q
      cases e : f env with
      | ok o =>
        rw [e] at q
        cases o with
        | nx e1 => exact fun σ' H' O' R' e2 => ⟨O', e1, R', EndS.step (show EndS M T Ev H₀ B O H1 D (whileL fc f m e1) from q) e2⟩
        | ct e1 => exact fun σ' H' O' R' e2 => ⟨O', e1, R', EndS.step (show EndS M T Ev H₀ B O H1 D (whileL fc f m e1) from q) e2⟩
        | bk e1 => exact q
        | ret d => exact q
      | exc n => rw [e] at q; exact q
      | bad => rw [e] at q; exact q
/-- an iterator yields these -/
structure Yl (M : MatC) (J : L2.It) (ds : List D) (Src : Hp → (Addr → Bool) → Prop) : Prop where
  go : ∀ i H' O', Src H' O' → Trk O' H' → i < ds.length → J.go i H'
  yld : ∀ i H' O' d x H2, Src H' O' → Trk O' H' → ds[i]? = some d → J.yld i H' x H2 → Ext H' H2 ∧ Rp M (hide H2 O') d x
  stop : ∀ H' O', Src H' O' → Trk O' H' → J.stop ds.length H'
def tI (M : MatC) (T : List Addr) (Ev : Nat → Hp → Prop) (f : DEnv → Res (List D)) (k : DEnv → Bool) : TI := fun σ H R => ∃ H₀ B O env, EnvR M T H₀ B O σ H env ∧
  After Ev (f env) H fun ds H1 => ∀ J Src, Yl M J ds Src → (∀ H' O', Ext (hide H1 O) (hide H' O') → (k env = true ∨ Ext H1 H') → Src H' O') → R J H1
theorem for_inner {t : Tg} {b : DEnv → Res Out} {D : Ends} {σ : L2.St} {H₀ H1 : Hp} {B O : Addr → Bool} {env : DEnv} {ds : List Dx.D} {J : L2.It} {Src : Hp → (Addr → Bool) → Prop} (R : EnvR M T H₀ B O σ H1 env) (Y : Yl M J ds Src) (hsrc : ∀ H' O', Ext (hide H1 O) (hide H' O') → Src H' O')
    (q : EndS M T Ev H₀ B O H1 D (forL (fun d env => do let env1 ← tgD t d env; b env1) ds env)) : ∃ W : Nat → Nat → L2.St → Hp → Prop, (∃ m, W 0 m σ H1) ∧ ∀ i m σ H, W i m σ H →
  (J.stop i H ∧ D.nx σ H) ∨ (J.go i H ∧ ∃ N : L2.St → Hp → Prop, (∀ σ' H', N σ' H' → ∃ m', m' < m ∧ W (i + 1) m' σ' H') ∧ ∀ x H', J.yld i H x H' → tG M T t x σ H' fun σ2 H2 => tS M T Ev b { D with nx := N, ct := N, bk := D.nx } σ2 H2) := by
  refine ⟨fun i m σ' H' => m = ds.length - i ∧ i ≤ ds.length ∧ ∃ O' env', EnvR M T H₀ B O' σ' H' env' ∧ Ext (hide H1 O) (hide H' O') ∧ EndS M T Ev H₀ B O' H' D (forL (fun d env => do let env1 ← tgD t d env; b env1) (ds.drop i) env'),
    ⟨_, rfl, Nat.zero_le _, O, env, R, Ext.refl _, q⟩, ?_⟩
  rintro i m σ' H' ⟨rfl, hi, O', env', R', e', q'⟩
  have src := hsrc H' O' e'
  have trk : Trk O' H' := R'.trk
  rcases Nat.lt_or_ge i ds.length with hlt | hge
  · right
    refine ⟨Y.go i H' O' src trk hlt, ?_⟩
    obtain ⟨d, hd⟩ : ∃ d, ds[i]? = some d := ⟨_, List.getElem?_eq_getElem hlt⟩
    have ed : ds.drop i = d :: ds.drop (i + 1) := by
      rw [List.drop_eq_getElem_cons hlt, (List.getElem?_eq_some_iff.mp hd).2]
    rw [ed] at q'
    refine ⟨fun σ2 H2 => ∃ O2 env2, EnvR M T H₀ B O2 σ2 H2 env2 ∧ Ext (hide H1 O) (hide H2 O2) ∧ EndS M T Ev H₀ B O2 H2 D (forL (fun d env => do let env1 ← tgD t d env; b env1) (ds.drop (i + 1)) env2),
      fun σ2 H2 ⟨O2, env2, R2, e2, q2⟩ => ⟨ds.length - (i + 1), by omega, rfl, by omega, O2, env2, R2, e2, q2⟩, fun x H2 hy => ?_⟩
    obtain ⟨ey, ry⟩ := Y.yld i H' O' d x H2 src trk hd hy
    have R2 := R'.mono ey
    have q2 : EndS M T Ev H₀ B O' H2 D ((tgD t d env' >>= b) >>= fun o => match o with
      | .nx e => forL (fun d env => do let env1 ← tgD t d env; b env1) (ds.drop (i + 1)) e
      | .ct e => forL (fun d env => do let env1 ← tgD t d env; b env1) (ds.drop (i + 1)) e
      | .bk e => .ok (.nx e)
      | .ret r => .ok (.ret r)) := EndS.step q' (ey.hide O')
    cases ht : tgD t d env' with
    | exc n => exact absurd ht (tg_ne t d env' n)
    | bad => rw [ht] at q2; exact q2.elim
    | ok env3 =>
      rw [ht] at q2
      refine ⟨H₀, B, O', env', d, env3, R2, ry, ht, fun σ3 R3 _ => ⟨H₀, B, O', env3, R3, ?_⟩⟩
      have eh : Ext (hide H1 O) (hide H2 O') := e'.trans (ey.hide O')
      have q2 : EndS M T Ev H₀ B O' H2 D (b env3 >>= fun o => match o with
        | .nx e => forL (fun d env => do let env1 ← tgD t d env; b env1) (ds.drop (i + 1)) e
        | .ct e => forL (fun d env => do let env1 ← tgD t d env; b env1) (ds.drop (i + 1)) e
        | .bk e => .ok (.nx e)
        | .ret r => .ok (.ret r)) := q2
      cases eb : b env3 with
      | ok o =>
        rw [eb] at q2
        cases o with
        | nx e1 => exact fun σ4 H4 O4 R4 e4 => ⟨O4, e1, R4, eh.trans e4, EndS.step (show EndS M T Ev H₀ B O' H2 D (forL _ (ds.drop (i + 1)) e1) from q2) e4⟩
        | ct e1 => exact fun σ4 H4 O4 R4 e4 => ⟨O4, e1, R4, eh.trans e4, EndS.step (show EndS M T Ev H₀ B O' H2 D (forL _ (ds.drop (i + 1)) e1) from q2) e4⟩
        | bk e1 => exact q2
        | ret d => exact q2
      | exc n => rw [eb] at q2; exact q2
      | bad => rw [eb] at q2; exact q2
  · left
    have ei : i = ds.length := Nat.le_antisymm hi hge
    subst ei
    rw [List.drop_length] at q'
    exact ⟨Y.stop H' O' src trk, q' σ' H' O' R' (Ext.refl _)⟩
theorem for_read {f : DEnv → Res (List D)} {k : DEnv → Bool} {t : Tg} {b : DEnv → Res Out} {D : Ends} {σ : L2.St} {H : Hp} (h : tS M T Ev (forG f k t b) D σ H) : tFor (tI M T Ev f k) (tG M T t) (tS M T Ev b) D σ H := by
  obtain ⟨H₀, B, O, env, R, h⟩ := h
  obtain ⟨hk, h⟩ := EndS.ite (c := k env = true) h
  exact ⟨H₀, B, O, env, R, After.mono (EndS.bind R.ext h) (Ext.refl H) fun ds H1 e1 _ q J Src Y hsrc => for_inner (R.mono e1) Y (fun H' O' e => hsrc H' O' e (.inl hk)) q⟩
theorem ds_for {X : Cx} {tg iter : PySem.Expr} {body : List PySem.Stmt} {pos : Pos} {f : DEnv → Res (List D)} {k : DEnv → Bool} {t : Tg} {b : DEnv → Res Out} (hp : PassesOwn (model X.prog X.w) X.A X.env X.xe) (hc : X.calm = true)
    (hi : PI X tg iter (tI M T Ev f k)) (hg : PG X tg (tG M T t)) (hb : PSs X body (tS M T Ev b)) (hs : ∀ x, foldedSetIterable iter X.env x = pure x) : PS X (.For tg iter body [] pos) (tS M T Ev (forG f k t b)) := by
  exact ps_weak (ps_for hp hc hi hg hb hs) fun D σ H h => for_read h
end
end Dx
namespace Dx
variable [Nm]
open PySem PySem.Spec L2
section
variable {M : MatC} {T : List Addr} {Ev : Nat → Hp → Prop} {X : Cx}
/-! ### tuples whose object is known -/
def tTupF (t : TA) : TE := fun σ H Q => t σ H fun xs H1 => xs.length ≤ sizeLine ∧ ∀ p o, o.dict = none → H1 p = none → Q (.ref p) (upd H1 p (.frz o (.tup xs)))
theorem pe_tupF {es : List PySem.Expr} {n : Nat} {pos : Pos} {t : TA} (h : PA X es t) : PE X (.Tuple es n pos) (tTupF t) := by
  refine ⟨fun pins s σ H Q I hq => ?_⟩
  refine wpAny_Tuple_spliced (thn (h.run pos pins s σ H _ I hq) fun us s1 ⟨xs, H1, I1, r, z, q⟩ => ⟨by rw [← r.length]; exact z, ?_⟩)
  have I2 := I1.laid (a := s1.heap.objs.size) (o := .frz _ (.tup xs)) (t' := s1.toks) (h' := s1.heap.push { cls := .type "tuple", data := .seq us.toArray }) (fun b u e => Heap.get?_push_of_some _ e) (Nat.le_refl _) ⟨Heap.get?_push_size _ rfl, z, us, r, ⟨_, Heap.get?_push_size _ rfl, rfl, _, rfl⟩⟩
  exact ⟨.ref s1.heap.objs.size, _, I2, rfl, q _ _ rfl (I1.hok.fresh (Nat.le_refl _))⟩
theorem rp_newF {H : Hp} {O : Addr → Bool} {p : Addr} {o : Obj} {ds : List D} {vs : List V} (t : Trk O H) (ho : o.dict = none) (hp : H p = none) (h : RpL M (hide H O) ds vs) : Rp M (hide (upd H p (.frz o (.tup vs))) O) (.ftup ds) (.ref p) := by
  unfold Rp
  exact ⟨p, vs, o, rfl, ho, (by rw [hide_of (t.free hp)]; exact upd_same), RpL.mono ((Ext.new hp).hide O) ds h⟩
theorem de_tupF {es : List PySem.Expr} {n : Nat} {pos : Pos} {f : DEnv → Res (List D)} {kl k : DEnv → Bool} (h : PA X es (tL M T Ev f kl)) : PE X (.Tuple es n pos) (tE M T Ev (tupFG kl f) k) := by
  refine pe_weak (pe_tupF h) fun σ H Q ⟨H₀, B, O, env, R, q⟩ => ?_
  obtain ⟨hk, q⟩ := After.ite (c := kl env = true) q
  refine ⟨H₀, B, O, env, R, After.mono (After.bind q) (Ext.refl H) fun ds H1 e1 _ q vs bvs kvs => ?_⟩
  obtain ⟨hf, q⟩ := After.ite q
  have hv := kvs hk
  refine ⟨by rw [hv.length]; exact fits_le hf, fun p o ho hp => ?_⟩
  have r := rp_newF (Trk.mono R.trk e1) ho hp hv
  exact q _ (Ext.new hp) _ r.br fun _ => r
def rTupF (K : PySem.W.Frag) : List V → Hp → VK → Prop := fun xs H Q => ∃ p ys, xs = [.ref p] ∧ SqL K H p ys ∧ ∀ l o, o.dict = none → H l = none → Q (.ref l) (upd H l (.frz o (.tup ys)))
theorem call_tupF : CallR X (.type "tuple") (rTupF X.K) := by
  intro pins s σ H xs us Q I r h
  obtain ⟨p, ys, rfl, hq, q⟩ := h
  obtain ⟨u, rfl, rx⟩ := vals1 r
  cases rx
  obtain ⟨its, r', pl, hz⟩ := I.list hq
  have hlen := r'.length
  refine call_tuple_list pl.isList (fun g kp => ?_) (by simp only [List.size_toArray] <;> omega)
  have I1 : Inv X pins σ H { s with heap := g } := I.kept (t' := s.toks) kp
  have I2 := I1.laid (a := g.objs.size) (o := .frz _ (.tup ys)) (t' := s.toks) (h' := g.push { cls := .type "tuple", data := .seq its.toArray }) (fun b o e => Heap.get?_push_of_some _ e) (Nat.le_refl _) ⟨Heap.get?_push_size _ rfl, hz, its, r', PyProof.Rows.IsTup.new _ _⟩
  exact ⟨.ref g.objs.size, _, I2, rfl, q _ _ rfl (I1.hok.fresh (Nat.le_refl _))⟩
theorem gl_tupF : GL M Ev (biD .tupleF) (rTupF M.K) := by
  intro ds vs H O Q t b a
  rcases ds with _ | ⟨d, _ | ⟨d2, r⟩⟩
  · exact a.elim
  · obtain ⟨v, rfl, b1⟩ := br1 b
    cases d <;> first | exact a.elim | skip
    obtain ⟨p, vs, rfl, h1, h2⟩ := br_lst b1
    exact ⟨p, vs, rfl, SqL.of h1, fun l o ho hl => a _ (Ext.new hl) _ (rp_newF t ho hl h2)⟩
  · cases d <;> exact a.elim
/-! ### dicts of dicts, of pairs; keys are tuples -/
/-- one pair: its tuple, its key, the key's tuple, its value -/
abbrev Pr := Addr × List Key × Addr × V
def prK (q : Pr) : List Key × V := (q.2.1, q.2.2.2)
structure PrAt (H : Hp) (q : Pr) : Prop where
  t : H q.1 = some (.tup [.ref q.2.2.1, q.2.2.2])
  k : H q.2.2.1 = some (.tup (q.2.1.map kV))
theorem pairs_of {H Hv : Hp} (hs : ∀ a o, Hv a = some o → H a = some o) : ∀ {ds : List D} {ws : List V} {ps : List (D × D)}, RpL M Hv ds ws → pairsD ds = some ps → ∃ qs : List Pr, ws = qs.map (fun q => .ref q.1) ∧ (∀ q ∈ qs, PrAt H q) ∧
    ps.map (·.1) = qs.map (fun q => D.tup (q.2.1.map kD)) ∧ RpL M Hv (ps.map (·.2)) (qs.map fun q => q.2.2.2)
  | [], ws, ps, h, e => by
    unfold RpL at h; unfold pairsD at e
    cases e; subst h
    exact ⟨[], rfl, fun _ z => absurd z (by simp), rfl, .nil⟩
  | d :: ds, ws, ps, h, e => by
    unfold RpL at h
    obtain ⟨v, r, rfl, h2, h3⟩ := h
    have hd : ∃ k x, d = .tup [k, x] := by
      unfold pairsD at e
      split at e
      · rename_i heq; cases heq
      · rename_i heq; cases heq; exact ⟨_, _, rfl⟩
      · cases e
    obtain ⟨k, x, rfl⟩ := hd
    have e : (if keyT k = true then (pairsD ds).map ((k, x) :: ·) else none) = some ps := e
    by_cases hk : keyT k = true
    · rw [if_pos hk] at e
      cases q : pairsD ds with
      | none => rw [q] at e; cases e
      | some ps' =>
        rw [q] at e; cases e
        obtain ⟨qs, rfl, q1, q2, q3⟩ := pairs_of hs h3 q
        obtain ⟨kk, rfl⟩ := keyT_of hk
        unfold Rp at h2
        obtain ⟨a, us, rfl, g1, g2⟩ := h2
        unfold RpL at g2
        obtain ⟨kv, r1, rfl, g3, g4⟩ := g2
        unfold RpL at g4
        obtain ⟨xv, r2, rfl, g5, g6⟩ := g4
        unfold RpL at g6
        subst g6
        unfold Rp at g3
        obtain ⟨b, ks, rfl, g7, g8⟩ := g3
        have e2 := rpL_kD kk g8
        subst e2
        refine ⟨(a, kk, b, xv) :: qs, rfl, fun z hz => ?_, ?_, ?_⟩
        · rcases List.mem_cons.mp hz with rfl | hz
          · exact ⟨hs _ _ g1, hs _ _ g7⟩
          · exact q1 z hz
        · rw [List.map_cons, List.map_cons, q2]
        · rw [List.map_cons, List.map_cons]; exact .cons g5 q3
    · rw [if_neg hk] at e; cases e
/-- the pairs stored one behind the other -/
def foldPut (qs : List Pr) (kvs : List (List Key × V)) : List (List Key × V) := qs.foldl (fun acc q => putK acc q.2.1 q.2.2.2) kvs
abbrev PrU : List Pr → List (List Key × Addr × Value) → Prop := Paired fun (q : Pr) (u : List Key × Addr × Value) => u.1 = q.2.1 ∧ u.2.1 = q.2.2.1 ∧ RelV q.2.2.2 u.2.2
theorem fold_kt {H : Hp} : ∀ {qs : List Pr} {us : List (List Key × Addr × Value)} {kvs : List (List Key × V)} {xs : List (List Key × Addr × Value)}, (∀ q ∈ qs, PrAt H q) → PrU qs us → KT H kvs xs → KT H (foldPut qs kvs) (us.foldl (fun acc p => storedH acc p.1 p.2.1 p.2.2) xs)
  | [], us, kvs, xs, _, hu, kt => by cases hu; exact kt
  | q :: qs, us, kvs, xs, hq, hu, kt => by
    cases hu with
    | cons h0 t =>
      rename_i u us
      obtain ⟨uk, ua, uv⟩ := u
      obtain ⟨z1, z2, z3⟩ := h0
      have z1 : uk = q.2.1 := z1
      have z2 : ua = q.2.2.1 := z2
      subst z1; subst z2
      exact fold_kt (qs := qs) (us := us) (fun z hz => hq z (List.mem_cons_of_mem _ hz)) t (kt.put q.2.1 (hq q List.mem_cons_self).k z3)
theorem fold_d {Hv : Hp} : ∀ {qs : List Pr} {ps : List (D × D)} {acc : List D × List D} {kvs : List (List Key × V)}, ps.map (·.1) = qs.map (fun q => D.tup (q.2.1.map kD)) → RpL M Hv (ps.map (·.2)) (qs.map fun q => q.2.2.2) →
    acc.1 = kvs.map (fun p => D.tup (p.1.map kD)) → RpL M Hv acc.2 (kvs.map (·.2)) →
    (ps.foldl (fun acc p => putL acc.1 acc.2 p.1 p.2) acc).1 = (foldPut qs kvs).map (fun p => D.tup (p.1.map kD)) ∧ RpL M Hv (ps.foldl (fun acc p => putL acc.1 acc.2 p.1 p.2) acc).2 ((foldPut qs kvs).map (·.2))
  | [], ps, acc, kvs, e, _, a1, a2 => by
    cases ps with
    | nil => exact ⟨a1, a2⟩
    | cons p ps => cases e
  | q :: qs, ps, acc, kvs, e, hr, a1, a2 => by
    cases ps with
    | nil => cases e
    | cons p ps =>
      obtain ⟨pk, px⟩ := p
      rw [List.map_cons, List.map_cons] at e hr
      injection e with e1 e2
      have e1 : pk = D.tup (q.2.1.map kD) := e1
      subst e1
      unfold RpL at hr
      obtain ⟨w, r, hw, hr1, hr2⟩ := hr
      injection hw with hw1 hw2
      subst hw1; subst hw2
      obtain ⟨p1, p2⟩ := put_rel (fun k : List Key => D.tup (k.map kD)) keyEq_tD q.2.1 hr1 a2
      rw [← a1] at p1 p2
      exact fold_d (qs := qs) (ps := ps) e2 hr2 p1.symm p2
theorem foldPut_len : ∀ (qs : List Pr) (kvs : List (List Key × V)), (foldPut qs kvs).length ≤ kvs.length + qs.length
  | [], kvs => Nat.le_refl _
  | q :: qs, kvs => by
    have h1 := foldPut_len qs (putK kvs q.2.1 q.2.2.2)
    have h2 : (putK kvs q.2.1 q.2.2.2).length ≤ kvs.length + 1 := by
      unfold putK
      split
      · rw [List.length_map]; omega
      · rw [List.length_append]; simp
    show (foldPut qs (putK kvs q.2.1 q.2.2.2)).length ≤ _
    rw [List.length_cons]
    omega
/-- what the pairs are in the heap -/
theorem prs_heap {P : Program} {w : World} {H : Hp} {h : Heap} (ok : HOk P w H h) : ∀ {qs : List Pr}, (∀ q ∈ qs, PrAt H q) → ∃ us, PrU qs us ∧ us.length = qs.length ∧ ∀ (j : Nat) q u, qs[j]? = some q → us[j]? = some u → PyProof.Rows.IsTup h q.1 #[.ref u.2.1, u.2.2] ∧ (tupleKind (mixKind P w)).is h u.1 u.2.1
  | [], _ => ⟨[], .nil, rfl, fun j q u e => by simp at e⟩
  | q :: qs, hq => by
    obtain ⟨us, h1, h2, h3⟩ := prs_heap ok (qs := qs) fun z hz => hq z (List.mem_cons_of_mem _ hz)
    have pa := hq q List.mem_cons_self
    obtain ⟨_, its, r, it⟩ := (show ObjOk P w H h q.1 (.tup [.ref q.2.2.1, q.2.2.2]) from ok q.1 _ pa.t)
    obtain ⟨u1, u2, rfl, e1, e2⟩ := vals2 r
    cases e1
    refine ⟨(q.2.1, q.2.2.1, u2) :: us, .cons ⟨rfl, rfl, e2⟩ h1, by rw [List.length_cons, List.length_cons, h2], fun j q' u' e3 e4 => ?_⟩
    cases j with
    | zero =>
      simp at e3 e4
      subst e3; subst e4
      exact ⟨it, key_of ok pa.k⟩
    | succ j => exact h3 j q' u' (by simpa using e3) (by simpa using e4)
/-! ### the calls -/
theorem call_dictH {prog : Program} {w : World} {A : Around} {E : Value → Shared → Prop} {s : Shared} {K : Type} [DecidableEq K] {knd : HeapKind prog w K} {o : Addr} {more : List (K × Addr × Value)} {Q : Value → Shared → Prop} (hu : knd.room A.in1.in1) (hoS : (o == sysModules) = false) (ho : s.heap.DictOfH knd o more)
    (hap : (∀ x ∈ more, s.TypeIs (.ref x.2.1) "tuple") ∧ (more.map fun x => knd.hash x.1).Nodup) (hsz : more.length ≤ sizeLine) (hst : ∀ h' : Heap, (∀ b ob, s.heap.get? b = some ob → h'.get? b = some ob) → h'.DictOfH knd o more)
    (h : ∀ h', h'.DictOfH knd s.heap.objs.size more → (∀ b ob, s.heap.get? b = some ob → h'.get? b = some ob) → Q (.ref s.heap.objs.size) { s with heap := h' }) :
    wpAny (model prog w) A (call (.type "dict") [.ref o]) Q E s := by
  let s1 : Shared := { s with heap := s.heap.push { cls := .type "dict", data := .dict #[] } }
  have old : ∀ b ob, s.heap.get? b = some ob → s1.heap.get? b = some ob := fun b ob e => Heap.get?_push_of_some _ e
  have hn : s1.heap.DictOfH knd s.heap.objs.size [] := Heap.DictOfH.new s.heap
  have ho1 : s1.heap.DictOfH knd o more := hst _ old
  have hne : s.heap.objs.size ≠ o := Nat.ne_of_gt ho.lt_size
  refine callType_codes (Q₁ := fun obj s2 => obj = .ref s.heap.objs.size ∧ s2 = s1) F.kt_called_dict (F.kt_typeCall_dict_1 _) F.entry_dict_init (kt_code_dict_new _ ⟨rfl, rfl⟩) ?_
  rintro obj s2 ⟨e1, e2⟩
  subst e1; subst e2
  refine ⟨hn.typeIs, F.args_dict_init_2 _ _, ?_⟩
  unfold Builtin.«dict.__init__» Builtin.Dict.selfAndRest
  refine wpAny_bind (wpAny_bind (wpAny_notOrdered_dict hn.typeIs (wpAny_pure ?_)))
  refine updateFrom_dictH (A := A.in1) (d := s.heap.objs.size) (kvs := []) (more := more) .none hu hne hoS hn ho1 (.inr ⟨fun x hx => ?_, hap.2⟩) (by simpa using hsz) fun h' hd' _ hs' => ?_
  · obtain ⟨ob, e, c⟩ := hap.1 x hx
    exact ⟨ob, old _ _ e, c⟩
  · rw [storedAllH_nil_of_nodup more ho.nodup] at hd'
    exact ⟨rfl, h h' hd' fun b ob e => (hs'.2 b (Nat.ne_of_lt (Heap.lt_size e))).trans (old b ob e)⟩
end
end Dx
namespace Dx
variable [Nm]
open PySem PySem.Spec L2
section
variable {M : MatC} {T : List Addr} {Ev : Nat → Hp → Prop} {X : Cx}
/-- a sequence whose object is plain -/
def SeqObj (H : Hp) (a : Addr) (xs : List V) : Prop := H a = some (.lst xs) ∨ ∃ o, o.dict = none ∧ H a = some (.frz o (.tup xs))
def keyHs (w : World) (k : List Key) : Int := reduceHash (Builtin.Tuple.tupleHashOf (k.map (keyH w)))
def rDict (w : World) : List V → Hp → VK → Prop := fun xs H Q => ∃ a, xs = [.ref a] ∧
  ((∃ qs : List Pr, SeqObj H a (qs.map fun q => V.ref q.1) ∧ (∀ q ∈ qs, PrAt H q) ∧ qs.length ≤ sizeLine ∧ ∀ p, H p = none → Q (.ref p) (upd H p (.dT (foldPut qs [])))) ∨
   (∃ kvs : List (List Key × V), Rd H a (.dT kvs) ∧ (kvs.map fun p => keyHs w p.1).Nodup ∧ ∀ p, H p = none → Q (.ref p) (upd H p (.dT kvs))))
theorem prs_array {qs : List Pr} {its : List Value} (h : Vals (qs.map fun q => V.ref q.1) its) : its = qs.map fun q => Value.ref q.1 := by
  generalize hx : (qs.map fun q => V.ref q.1) = xs at h
  induction h generalizing qs with
  | nil => cases qs with
    | nil => rfl
    | cons q qs => cases hx
  | cons r t ih => cases qs with
    | nil => cases hx
    | cons q qs =>
      rw [List.map_cons] at hx
      injection hx with h1 h2
      subst h1
      rw [List.map_cons, ih h2]
      cases r; rfl
theorem dT_ok {P : Program} {w : World} {H : Hp} {h : Heap} {a : Addr} {kvs : List (List Key × V)} {xs : List (List Key × Addr × Value)} (z : kvs.length ≤ sizeLine) (ha : (a == sysModules) = false) (kt : KT H kvs xs) (hd : h.DictOfH (tupleKind (mixKind P w)) a xs) : ObjOk P w H h a (.dT kvs) := by
  obtain ⟨o, es, ep, h1, h2, h3, h4, _, h5⟩ := hd
  exact ⟨z, ha, xs, kt, o, es, ep, h1, h2, h3, h4, h5⟩
theorem kt_keys {H : Hp} {f : List Key → Int} : ∀ {kvs : List (List Key × V)} {xs : List (List Key × Addr × Value)}, KT H kvs xs → (xs.map fun x => f x.1) = kvs.map fun p => f p.1 := by
  intro kvs xs h
  induction h with
  | nil => rfl
  | cons h t ih => rw [List.map_cons, List.map_cons, ih, h.1]
theorem cr_dict (hc : X.calm = true) (hu : X.A.units + 65 < cLine) : CallR X (.type "dict") (rDict X.w) := by
  intro pins s σ H xs us Q I r h
  obtain ⟨a, rfl, h⟩ := h
  obtain ⟨u, rfl, rx⟩ := vals1 r
  cases rx
  have hfr : H s.heap.objs.size = none := I.hok.fresh (Nat.le_refl _)
  have hbig : (s.heap.objs.size == sysModules) = false := beq_eq_false_iff_ne.mpr (Ne.symm (Nat.ne_of_lt I.big))
  have hroom : (tupleKind (mixKind X.prog X.w)).room X.A.in1.in1 := by show X.A.units + 1 + 1 < cLine; omega
  rcases h with ⟨qs, hs, hq, hz, q⟩ | ⟨kvs, hrd, hnd, q⟩
  · obtain ⟨us, hu1, hu2, hu3⟩ := prs_heap I.hok hq
    have fin : ∀ (h' : Heap) (tk : Tok), h'.DictOfH (tupleKind (mixKind X.prog X.w)) s.heap.objs.size (storedAllH [] us) → (∀ b o, b ∉ ([] : List Addr) → s.heap.get? b = some o → h'.get? b = some o) → EP X pins σ Q (.ref s.heap.objs.size) { s with heap := h', toks := tk } := fun h' tk hd' hk => by
      have hl := foldPut_len qs []
      have kt : KT H (foldPut qs []) (storedAllH [] us) := fold_kt hq hu1 .nil
      have I2 := I.laid (a := s.heap.objs.size) (o := .dT (foldPut qs [])) (t' := tk) (h' := h') (fun b o e => hk b o (by simp) e) (Nat.le_refl _) (dT_ok (by simp at hl; omega) hbig (kt.keeps fun b ys e => by rw [upd_ne (ne_of_none e hfr)]; exact e) hd')
      exact ⟨.ref _, _, I2, rfl, q _ hfr⟩
    have hpl : (us.map fun u => ((.ref u.2.1 : Value), u.2.2)).length = qs.length := by rw [List.length_map, hu2]
    have pit : PairItems s.heap (qs.map fun q => Value.ref q.1).toArray (fun j => ((qs[j]?).map (·.1)).getD 0) (us.map fun u => ((.ref u.2.1 : Value), u.2.2)) := by
      refine ⟨by rw [List.size_toArray, List.length_map, hpl], fun j k v e => ?_⟩
      rw [List.getElem?_map] at e
      cases e1 : us[j]? with
      | none => rw [e1] at e; cases e
      | some u =>
        rw [e1] at e; cases e
        have hj : j < qs.length := by rw [← hu2]; exact (List.getElem?_eq_some_iff.mp e1).1
        have e2 : qs[j]? = some qs[j] := List.getElem?_eq_getElem hj
        refine ⟨by simp [e2], ?_⟩
        have e3 : ((fun j => ((qs[j]?).map (·.1)).getD 0) j : Addr) = (qs[j]).1 := by show ((qs[j]?).map (·.1)).getD 0 = _; rw [e2]; rfl
        rw [e3]
        exact .inl (hu3 j _ u e2 e1).1
    have ph : PairsHaveH (tupleKind (mixKind X.prog X.w)) (us.map fun u => ((.ref u.2.1 : Value), u.2.2)).length (PairRel (us.map fun u => ((.ref u.2.1 : Value), u.2.2))) us := by
      refine ⟨by rw [List.length_map], fun i key v e => ?_⟩
      have e : (us.map fun u => ((.ref u.2.1 : Value), u.2.2))[i]? = some (key, v) := e
      rw [List.getElem?_map] at e
      cases e1 : us[i]? with
      | none => rw [e1] at e; cases e
      | some u => rw [e1] at e; cases e; exact ⟨u.1, u.2.1, rfl, rfl⟩
    have ks : KeysStay (tupleKind (mixKind X.prog X.w)) s.heap s.heap.objs.size [] us := fun h' hk x hx => by
      obtain ⟨i, hi⟩ := List.mem_iff_getElem?.mp hx
      have hj : i < qs.length := by rw [← hu2]; exact (List.getElem?_eq_some_iff.mp hi).1
      exact tupleKind_stays.stays (fun b o vs n e _ => hk b o (Nat.ne_of_lt (Heap.lt_size e)) (by simp) e) (hu3 i _ x (List.getElem?_eq_getElem hj) hi).2
    rcases hs with hs | ⟨o, ho, hs⟩
    · obtain ⟨_, its, n, rv, e⟩ := (show ObjOk X.prog X.w H s.heap a (.lst _) from I.hok a _ hs)
      rw [prs_array rv] at e
      exact call_dict_pairsH (PairArg.list a _ _ _) (I.ok.hd hc) hroom ⟨⟨_, n, e, rfl, rfl, rfl⟩, pit⟩ ph ks (by rw [hpl]; exact hz) fin
    · obtain ⟨e, _, its, rv, o2, e2, hc2, n, hd2⟩ := (show ObjOk X.prog X.w H s.heap a (.frz o (.tup _)) from I.hok a _ hs)
      rw [e] at e2; cases e2
      rw [prs_array rv] at hd2
      exact call_dict_pairsH (PairArg.tuple a _ _ _) (I.ok.hd hc) hroom ⟨⟨_, n, e, hc2, ho, hd2⟩, pit⟩ ph ks (by rw [hpl]; exact hz) fin
  · obtain ⟨z, hS, xs, kt, hd⟩ := dt_rd I.hok hrd
    have hst : ∀ h' : Heap, (∀ b ob, s.heap.get? b = some ob → h'.get? b = some ob) → h'.DictOfH (tupleKind (mixKind X.prog X.w)) a xs := fun h' hk => by
      obtain ⟨_, _, _, _, _, _, _, his, _⟩ := id hd
      exact hd.at' (hk a) fun y hy => tupleKind_stays.stays (fun b o vs n e _ => hk b o e) (his y hy)
    have hty : ∀ x ∈ xs, s.TypeIs (.ref x.2.1) "tuple" := by
      obtain ⟨_, _, _, _, _, _, _, his, _⟩ := id hd
      exact fun x hx => tupleKind_stays.tuple (his x hx)
    have hxl : xs.length = kvs.length := by
      have := congrArg List.length (kt_keys (f := fun _ => 0) kt)
      simpa using this
    refine call_dictH hroom hS hd ⟨hty, ?_⟩ (by rw [hxl]; exact z) hst fun h' hd' hk => ?_
    · have e : (xs.map fun x => (tupleKind (mixKind X.prog X.w)).hash x.1) = kvs.map fun p => keyHs X.w p.1 := kt_keys kt
      rw [e]; exact hnd
    · have I2 := I.laid (a := s.heap.objs.size) (o := .dT kvs) (t' := s.toks) (h' := h') hk (Nat.le_refl _) (dT_ok z hbig (kt.keeps fun b ys e => by rw [upd_ne (ne_of_none e hfr)]; exact e) hd')
      exact ⟨.ref _, _, I2, rfl, q _ hfr⟩
/-! ### by data -/
theorem ints_key : ∀ {ds : List D} {is : List Int}, intsD ds = some is → ∀ k : List Key, ds = k.map kD → ∀ w, k.map (keyH w) = is.map hashInt
  | [], is, h, k, e, w => by
    cases h
    cases k with
    | nil => rfl
    | cons x k => cases e
  | d :: ds, is, h, k, e, w => by
    cases k with
    | nil => cases e
    | cons x k =>
      rw [List.map_cons] at e
      injection e with e1 e2
      subst e1
      cases x with
      | inr y => unfold kD intsD at h; cases h
      | inl i =>
        unfold kD intsD at h
        cases q : intsD ds with
        | none => rw [q] at h; cases h
        | some js =>
          rw [q] at h; cases h
          rw [List.map_cons, List.map_cons, ints_key q k e2 w]; rfl
theorem hashes_of {w : World} : ∀ {kvs : List (List Key × V)} {hs : List Int}, hashesD (kvs.map fun p => D.tup (p.1.map kD)) = some hs → (kvs.map fun p => keyHs w p.1) = hs
  | [], hs, h => by cases h; rfl
  | p :: kvs, hs, h => by
    rw [List.map_cons] at h
    unfold hashesD at h
    cases q1 : hashD (D.tup (p.1.map kD)) with
    | none => rw [q1] at h; cases h
    | some x =>
      cases q2 : hashesD (kvs.map fun p => D.tup (p.1.map kD)) with
      | none => rw [q1, q2] at h; cases h
      | some xs =>
        rw [q1, q2] at h; cases h
        rw [List.map_cons, hashes_of q2]
        congr 1
        have q1 : (intsD (p.1.map kD)).map (fun is => reduceHash (Builtin.Tuple.tupleHashOf (is.map hashInt))) = some x := q1
        cases q3 : intsD (p.1.map kD) with
        | none => rw [q3] at q1; cases q1
        | some is =>
          rw [q3] at q1; cases q1
          unfold keyHs
          rw [ints_key q3 p.1 rfl w]
theorem dict_pairs {H : Hp} {O : Addr → Bool} {ds : List D} {ws : List V} {a : Addr} {Q : VK} (hs : SeqObj H a ws) (hr : RpL M (hide H O) ds ws) (h : After Ev (dictD ds >>= ownOf) H (NewP M H O Q)) :
    ∃ qs : List Pr, SeqObj H a (qs.map fun q => V.ref q.1) ∧ (∀ q ∈ qs, PrAt H q) ∧ qs.length ≤ sizeLine ∧ ∀ p, H p = none → Q (.ref p) (upd H p (.dT (foldPut qs []))) := by
  unfold dictD at h
  cases q : pairsD ds with
  | none => rw [q] at h; exact h.elim
  | some ps =>
    rw [q] at h
    have h : After Ev ((if fits ps.length = true then (.ok (.dct true (dictL ps).1 (dictL ps).2) : Res D) else .bad) >>= ownOf) H (NewP M H O Q) := h
    obtain ⟨hf, h⟩ := After.iteO h
    obtain ⟨qs, rfl, q1, q2, q3⟩ := pairs_of (H := H) (fun a o e => (hide_some' e).2) hr q
    obtain ⟨f1, f2⟩ := fold_d (acc := ([], [])) (kvs := []) q2 q3 rfl .nil
    have hl : qs.length = ps.length := by
      have := congrArg List.length q2
      simpa using this.symm
    refine ⟨qs, hs, q1, by rw [hl]; exact fits_le hf, fun p hp => h _ (Ext.new hp) p hp ⟨foldPut qs [], upd_same, f1, ?_⟩⟩
    exact RpL.mono (hide_new hp) _ f2
theorem gn_dict : GNL M Ev (biD .dict) (rDict M.w) := by
  intro ds vs H O Q t b a
  rcases ds with _ | ⟨d, _ | ⟨d2, r⟩⟩
  · exact a.elim
  · obtain ⟨v, rfl, b1⟩ := br1 b
    cases d <;> first | exact a.elim | skip
    · obtain ⟨p, vs, rfl, h1, h2⟩ := br_lst b1
      exact ⟨p, rfl, .inl (dict_pairs (.inl h1) h2 a)⟩
    · obtain ⟨p, vs, o, rfl, ho, _, h1, h2⟩ := br_ftup b1
      exact ⟨p, rfl, .inl (dict_pairs (.inr ⟨o, ho, h1⟩) h2 a)⟩
    · rename_i tt ks xs
      cases tt with
      | false => exact a.elim
      | true =>
        have a : After Ev ((if hashOk ks = true then (.ok (.dct true ks xs) : Res D) else .bad) >>= ownOf) H (NewP M H O Q) := a
        obtain ⟨hh, a⟩ := After.iteO a
        obtain ⟨p, ws, rfl, hw, kvs, h1, h2, h3⟩ := b1
        subst h2; subst h3
        refine ⟨p, rfl, .inr ⟨kvs, h1, ?_, fun q hq => a _ (Ext.new hq) q hq ⟨kvs, upd_same, rfl, RpL.mono (hide_new hq) _ hw⟩⟩⟩
        unfold hashOk at hh
        cases e : hashesD (kvs.map fun p => D.tup (p.1.map kD)) with
        | none => rw [e] at hh; cases hh
        | some hs =>
          rw [e] at hh
          rw [Bool.and_eq_true] at hh
          rw [hashes_of e]
          exact of_decide_eq_true hh.1
  · cases d <;> first | exact a.elim | skip
    rename_i tt _ _
    cases tt <;> exact a.elim
theorem dict_own {ds : List D} {d : D} (h : biD .dict ds = .ok d) : ∃ s, ownOf d = .ok s := by
  have hp : ∀ {es : List D}, dictD es = .ok d → ∃ s, ownOf d = .ok s := fun {es} h => by
    unfold dictD at h
    split at h
    · split at h
      · cases h; exact ⟨_, rfl⟩
      · cases h
    · cases h
  rcases ds with _ | ⟨x, _ | ⟨y, r⟩⟩
  · cases h
  · cases x <;> first | cases h | skip
    · exact hp h
    · exact hp h
    · rename_i t ks xs
      cases t with
      | false => cases h
      | true =>
        have h : (if hashOk ks = true then (.ok (.dct true ks xs) : Res D) else .bad) = .ok d := h
        by_cases hc : hashOk ks = true
        · rw [if_pos hc] at h; cases h; exact ⟨_, rfl⟩
        · rw [if_neg hc] at h; cases h
  · cases x <;> first | cases h | skip
    rename_i t _ _
    cases t <;> cases h
theorem dn_dict {e : PySem.Expr} {es : List PySem.Expr} {p pos : Pos} {g : DEnv → Res (List D)} {k : DEnv → Bool} (hw : X.w = M.w) (hc : X.calm = true) (hu : X.A.units + 65 < cLine)
    (hg : Gl X "dict") (hm : X.mg "dict" = none) (hs : starEach (e :: es) X.env = (false, eval e X.env) :: starEach es X.env) (hpl : (backTo pos (starEach es X.env)).any (·.1) = false) (ha : PA X (e :: es) (tL M T Ev g k)) :
    PE X (.Call (.Name "dict" p) (e :: es) [] pos) (tN M T Ev (fun env => do let ds ← g env; biD .dict ds)) :=
  pe_weak (pe_callTy (cr_dict hc hu) hg hm (by decide +kernel) ha (by decide) (by decide) hs hpl) fun σ H Q q => rdNL (hw ▸ gn_dict) q
theorem de_tupleF {e : PySem.Expr} {es : List PySem.Expr} {p pos : Pos} {g : DEnv → Res (List D)} {k k' : DEnv → Bool} (hK : X.K = M.K)
    (hg : Gl X "tuple") (hm : X.mg "tuple" = none) (hs : starEach (e :: es) X.env = (false, eval e X.env) :: starEach es X.env) (hpl : (backTo pos (starEach es X.env)).any (·.1) = false) (ha : PA X (e :: es) (tL M T Ev g k)) :
    PE X (.Call (.Name "tuple" p) (e :: es) [] pos) (tE M T Ev (fun env => do let ds ← g env; biD .tupleF ds) k') :=
  pe_weak (pe_callTy call_tupF hg hm (by decide +kernel) ha (by decide) (by decide) hs hpl) fun σ H Q q => rdL (hK ▸ gl_tupF) q
end
end Dx
namespace Dx
variable [Nm]
open PySem
open Sem (wp)
open AutoSeq1 (wpAny_loadPart')
theorem meets_enumT (l : Addr) (items : Array Value) (n : Nat) (dct : Option Addr) (sl : Array (Option Value)) :
    Meets (Builtin.«enumerate.__new__» ⟨[.type "enumerate", .ref l], []⟩) (fun _ R s => s.heap.get? l = some { cls := .type "tuple", dict := dct, data := .seq items n, slots := sl } ∧
      R (.ok (.ret (.ref (s.heap.push { cls := .type "tuple_iterator", data := .fields #[.ref l, .int 0 0] }).objs.size)))
        { s with heap := (s.heap.push { cls := .type "tuple_iterator", data := .fields #[.ref l, .int 0 0] }).push { cls := .type "enumerate", data := .fields #[.none, .bool false, .ref s.heap.objs.size, rawInt 0, .none, .none] } }) :=
  .of_wp fun prog w A R s h => by
    obtain ⟨hp, g, d, tk, os⟩ := s; obtain ⟨hl, h⟩ := h
    have hsub := sub_enumerate
    have hL : Heap.IsTuple (Shared.heap ⟨hp, g, d, tk, os⟩) l items := ⟨_, hl, rfl, n, rfl⟩
    wp_walk using wpAny_loadPart' hl
    refine wpAny_stack_any fun st => wpAny_pure ?_
    split
    · rename_i c _ _ _ _ _
      cases (c == Value.type "enumerate")
      · wp_walk using wpAny_loadPart' hl, wpAny_pyIter_tuple hL
        exact ⟨_, rfl, h⟩
      · wp_walk using wpAny_loadPart' hl, wpAny_pyIter_tuple hL
        exact ⟨_, rfl, h⟩
    · wp_walk using wpAny_loadPart' hl, wpAny_pyIter_tuple hL
      exact ⟨_, rfl, h⟩

section
variable {prog : Program} {w : World} {A : Around} {E : Value → Shared → Prop} {s : Shared}
theorem call_enumT {l : Addr} {items : Array Value} {Q : Value → Shared → Prop} (hL : s.heap.IsTuple l items)
    (h : ∀ h', IsEnum h' (s.heap.objs.size + 1) s.heap.objs.size 0 .none → h'.IsTupleIter s.heap.objs.size l 0 → h'.objs.size = s.heap.objs.size + 2 →
      (∀ b o, s.heap.get? b = some o → h'.get? b = some o) → Q (.ref (s.heap.objs.size + 1)) { s with heap := h' }) :
    wpAny (model prog w) A (call (.type "enumerate") [.ref l]) Q E s := by
  obtain ⟨⟨c, dct, dt, sl⟩, hl, hc, n, hd⟩ := hL
  replace hc : c = .type "tuple" := hc
  replace hd : dt = .seq items n := hd
  subst hc hd
  refine callType_new F.called_enumerate (by decide) (F.typeCall_enumerate_1 _) (F.newCall_enumerate_1 _) (fun obj => F.args_object_init_2 obj _) F.entry_enumerate_new
    (meets_enumT l items n dct sl) ⟨hl, ?_⟩
  have hz : (s.heap.push { cls := .type "tuple_iterator", data := .fields #[.ref l, .int 0 0] }).objs.size = s.heap.objs.size + 1 := Heap.size_push ..
  show _ ∧ _
  rw [hz]
  have he : IsEnum ((s.heap.push { cls := .type "tuple_iterator", data := .fields #[.ref l, .int 0 0] }).push
      { cls := .type "enumerate", data := .fields #[.none, .bool false, .ref s.heap.objs.size, rawInt 0, .none, .none] }) (s.heap.objs.size + 1) s.heap.objs.size 0 .none := by
    have := Heap.get?_push_size (s.heap.push { cls := .type "tuple_iterator", data := .fields #[.ref l, .int 0 0] })
      (o := { cls := .type "enumerate", data := .fields #[.none, .bool false, .ref s.heap.objs.size, rawInt 0, .none, .none] }) rfl
    rw [hz] at this; exact this
  refine ⟨⟨_, he, rfl⟩, h _ he ⟨_, Heap.get?_push_of_some _ (Heap.get?_push_size _ rfl), rfl, rfl⟩ (by rw [Heap.size_push, hz]) fun b o x => Heap.get?_push_of_some _ (Heap.get?_push_of_some _ x)⟩
end
open PySem.Spec PyProof.Rows L2
/-- the tuple at a, each item in a new pair -/
def IteT (K : PySem.W.Frag) (a : Addr) : L2.It :=
  ⟨fun i H => ∃ (xs : List V) (x : V), SqT K H a xs ∧ xs[i]? = some x, fun i H v H' => ∃ T x, v = .ref T ∧ H T = none ∧ H' = upd H T (.tup [.int (i : Nat), x]) ∧ ∀ xs, SqT K H a xs → xs[i]? = some x, fun i H => ∃ xs : List V, SqT K H a xs ∧ xs.length ≤ i⟩
theorem turn_enumT {P : Program} {w : World} {K : PySem.W.Frag} {elts : List Expr} {kk : Nat} {tpos : Pos} (a e it : Addr) :
    Turn P w K (.Tuple elts kk tpos) (IteT K a) [e, it] e (fun i h => (∃ old, IsEnum h e it ((i : Nat) : Int) old) ∧ h.IsTupleIter it a i ∧ e ≠ it ∧ e ≠ a ∧ a ≠ it) where
  mem := by simp
  obj := fun i h st b hb => by
    obtain ⟨⟨old, he⟩, ⟨o, ho, hc, hd⟩, _⟩ := st
    have e' : b = e ∨ b = it := by simpa using hb
    rcases e' with z | z
    · rw [z]; exact ⟨_, he, fun v q => nomatch q⟩
    · rw [z]; exact ⟨o, ho, fun v q => by rw [hd] at q; cases q⟩
  keep := fun i h h' st k => let ⟨⟨old, he⟩, hi, hne⟩ := st; ⟨⟨old, k e (by simp) _ he⟩, hi.at fun o q => k it (by simp) o q, hne⟩
  item := by
    intro X hP hw hK hc i pins s σ H E I hf st hg
    subst hP hw hK
    obtain ⟨⟨old, he⟩, hit, hne, hea, hai⟩ := st
    obtain ⟨xs, x, hq, hx⟩ := hg
    obtain ⟨its, rv, p, hz⟩ := I.tuple hq
    obtain ⟨u, hu, ru⟩ := rv.get hx
    have hel : e < s.heap.objs.size := Heap.lt_size he
    have hil : it < s.heap.objs.size := by obtain ⟨_, q, _⟩ := hit; exact Heap.lt_size q
    have hua : its.toArray[i]? = some u := by simpa using hu
    have hlt : i < its.toArray.size := (Array.getElem?_eq_some_iff.mp hua).1
    refine wpAny_pyNext_enum_itemD (Draws.tuple (A := X.A.in1) (I.ok.hd hc) it a hai its.toArray) he ⟨hit, p⟩ hlt hne (by simp [hne, hea]) fun x' h' tk hx' ho hit' hT hsz hk => ?_
    have ex : x' = u := by rw [hua] at hx'; exact (Option.some.inj hx').symm
    subst ex
    refine ⟨_, rfl, wpAny_letOwnedTupleGo_enum (s := { s with heap := h', toks := tk + 1 }) ho fun h'' he' sb => ?_⟩
    have hT2 : h''.get? s.heap.objs.size = some { cls := .type "tuple", data := .seq #[.int i tk, x'] } := (sb.2 _ (Nat.ne_of_gt hel)).trans hT
    have new : ObjOk X.prog X.w (upd H s.heap.objs.size (.tup [.int (i : Nat), x])) h'' s.heap.objs.size (.tup [.int (i : Nat), x]) :=
      ⟨by show 2 ≤ sizeLine; decide, [.int i tk, x'], .cons ⟨_, rfl⟩ (.cons ru .nil), ⟨_, hT2, rfl, _, rfl⟩⟩
    have I1 : Inv X pins σ (upd H s.heap.objs.size (.tup [.int (i : Nat), x])) { s with heap := h'', toks := tk + 1 } :=
      I.turnedNew (ch := [e, it]) (fun b ob hb q => (sb.2 b (fun z => hb (by simp [z]))).trans (hk b ob (fun z => hb (by simp [z])) (fun z => hb (by simp [z])) q)) hf (Nat.le_refl _) new
    refine ⟨.ref s.heap.objs.size, _, I1, rfl, ⟨_, x, rfl, I.hok.fresh (Nat.le_refl _), rfl, fun ys hy => by rw [I.tuple_inj hy hq]; exact hx⟩, ⟨⟨x', ?_⟩, hit'.1.at fun o q => (sb.2 it (Ne.symm hne)).trans q, hne, hea, hai⟩, fun b hb => ?_⟩
    · have e1 : ((i + 1 : Nat) : Int) = (i : Int) + 1 := by omega
      rw [e1]; exact he'
    · have hb' : b < s.heap.objs.size := by
        have e' : b = e ∨ b = it := by simpa using hb
        rcases e' with z | z
        · rw [z]; exact hel
        · rw [z]; exact hil
      rw [upd_ne (Nat.ne_of_lt hb')]
      exact (hf b hb).1
  done := by
    intro X hP hw hK hc i pins s σ H E I hf st hg
    subst hP hw hK
    obtain ⟨⟨old, he⟩, hit, hne, hea, hai⟩ := st
    obtain ⟨xs, hq, hx⟩ := hg
    obtain ⟨its, rv, p, hz⟩ := I.tuple hq
    obtain ⟨f0, f1, f2, f3, f4, f5⟩ := hf it (by simp)
    have hl := rv.length
    have hT : s.TypeIs (.ref e) "enumerate" := ⟨_, he, rfl⟩
    unfold pyNext
    refine wpAny_bind (wpAny_attempt (wpAny_callSpecial?_slot (name := Str.ofString "__next__") hT F.slot_enumerate_next
      (wpAny_call_entry F.slot_enumerate_next hT F.entry_enumerate_next ?_ (F.args_enumerate_next_1 _))))
    show wpAny _ _ (field (.ref e) 2 >>= _) _ _ _
    refine wpAny_bind (wpAny_field he rfl (x := .ref it) rfl ?_)
    refine wpAny_bind (wpAny_nextOf_tuple_end (A := X.A.in1) (I.ok.hd hc) hit p (i := i) (by simp; omega) fun h' x he' hx' => ?_)
    obtain ⟨o, ho, hcs⟩ := hx'
    refine wpAny_bind (wpAny_isInstance (T := "StopIteration") (b := true) ⟨o, ho, hcs⟩ isSubtype_stop ?_)
    exact wpAny_pure ⟨rfl, I.turned (t' := s.toks) (fun b o hb q => he' b o hb q) f0 f1 f3 f4 f5⟩
  self := fun A i s Q E st h => let ⟨⟨_, he⟩, _⟩ := st; wpAny_pyIter_enum he h

def iEnumT (K : PySem.W.Frag) (ta : TA) : TI := fun σ H R => ta σ H fun vs H1 => ∃ a xs, vs = [.ref a] ∧ SqT K H1 a xs ∧ R (IteT K a) H1
theorem pi_enumT {X : Cx} {e : Expr} {ta : TA} {p pos tpos : Pos} {elts : List Expr} {kk : Nat} (hg : Gl X "enumerate") (hm : X.mg "enumerate" = none) (ha : PA X [e] ta) (hs : starEach [e] X.env = [(false, eval e X.env)]) :
    PI X (.Tuple elts kk tpos) (.Call (.Name "enumerate" p) [e] [] pos) (iEnumT X.K ta) := by
  refine ⟨fun pins s σ H R I h => ?_⟩
  refine Call_ (ld_blt I hg hm boot_enumerate (PyProof.Rows.callWith_type1 (thn (ha.run pos pins s σ H _ I h) fun us s1 ⟨vs, H1, I1, r1, q1⟩ => ?_) hs rfl))
  obtain ⟨a, xs, ex, hq, q⟩ := q1
  subst ex
  cases r1 with
  | cons r rr =>
    cases rr
    cases r
    obtain ⟨its, rv, p', hz⟩ := I1.tuple hq
    have hal : a < s1.heap.objs.size := by obtain ⟨o, ho, _⟩ := id p'; exact Heap.lt_size ho
    refine call_enumT (show s1.heap.IsTuple a its.toArray from p') fun h' he hit hsz hk => wpAny_pyIter_enum he ?_
    have I2 : Inv X pins σ H1 { s1 with heap := h' } := I1.kept (t' := s1.toks) hk
    refine ⟨s1.heap.objs.size + 1, [s1.heap.objs.size + 1, s1.heap.objs.size], _, _, H1, rfl, I2, turn_enumT a (s1.heap.objs.size + 1) s1.heap.objs.size, ⟨⟨.none, he⟩, hit, Nat.succ_ne_self _, Nat.ne_of_gt (Nat.lt_succ_of_lt hal), Nat.ne_of_lt hal⟩, fun b hb => ?_, q⟩
    have e' : b = s1.heap.objs.size + 1 ∨ b = s1.heap.objs.size := by simpa using hb
    have hle : s1.heap.objs.size ≤ b := by
      rcases e' with z | z
      · rw [z]; exact Nat.le_add_right _ _
      · rw [z]; exact Nat.le_refl _
    exact I1.fpOk hle (I1.hok.fresh hle)
/-! ### the items of a dict with tuple keys -/
def Itit (d : Addr) (o : Obj) (kvs : List (List L2.Key × V)) : L2.It :=
  ⟨fun i H => H d = some (.frz o (.dT kvs)) ∧ i < kvs.length, fun i H x H' => ∃ T k v q, kvs[i]? = some (k, v) ∧ x = .ref T ∧ H T = none ∧ H q = some (.tup (k.map kV)) ∧ H' = upd H T (.tup [.ref q, v]), fun i H => H d = some (.frz o (.dT kvs)) ∧ kvs.length ≤ i⟩
theorem frzT2 {X : Cx} {pins : List (Addr × Obj)} {σ : L2.St} {H : Hp} {s : Shared} {d : Addr} {o : Obj} {kvs : List (List L2.Key × V)} (I : Inv X pins σ H s) (h : H d = some (.frz o (.dT kvs))) :
    (d == sysModules) = false ∧ s.heap.get? d = some o ∧ o.ExactDict ∧ ∃ (es : Array DictEntry) (ep : Nat), o.data = .dict es ep ∧ es.size = kvs.length ∧
      ∀ (i : Nat) (k : List L2.Key) (v : V), kvs[i]? = some (k, v) → ∃ (en : DictEntry) (q : Addr), es[i]? = some en ∧ en.key = .ref q ∧ H q = some (.tup (k.map kV)) ∧ RelV v en.val := by
  obtain ⟨hd, z, hs, xs, pr, o', es, ep, ho, hx, hdt, he, _⟩ := I.hok d _ h
  rw [hd] at ho
  cases ho
  refine ⟨hs, hd, hx, es, ep, hdt, ?_, fun i k v e => ?_⟩
  · have l1 : es.size = xs.length := size_of_entries he
    have l2 : kvs.length = xs.length := Paired.length pr
    omega
  · obtain ⟨b, hb, e1, e2, e3⟩ := L2.paired_get pr e
    have q := entry_at he i
    rw [hb] at q
    exact ⟨_, b.2.1, q, rfl, e2, e3⟩
theorem turn_itemsT {P : Program} {w : World} {K : PySem.W.Frag} {d : Addr} {o : Obj} {es : Array DictEntry} {ep : Nat} {kvs : List (List L2.Key × V)} {elts : List Expr} {kk : Nat} {tpos : Pos} (it : Addr) (hod : o.data = .dict es ep) :
    Turn P w K (.Tuple elts kk tpos) (Itit d o kvs) [it] it (fun i h => ∃ ok ov, IsItemIter h it d i kvs.length ep ok ov) where
  mem := by simp
  obj := fun i h st b hb => by
    have e : b = it := by simpa using hb
    subst e
    obtain ⟨ok, ov, e⟩ := st
    exact ⟨_, e, fun v z => nomatch z⟩
  keep := fun i h h' st k => let ⟨ok, ov, e⟩ := st; ⟨ok, ov, k it (by simp) _ e⟩
  item := by
    intro X hP hw hK hc i pins s σ H E I hf st hg
    subst hP hw hK
    obtain ⟨hd, hi⟩ := hg
    obtain ⟨hs, hgd, hx, es', ep', hdt, hsz, ent⟩ := frzT2 I hd
    obtain ⟨rfl, rfl⟩ := dict_ep hod hdt
    obtain ⟨⟨k, v⟩, hkv⟩ : ∃ p, kvs[i]? = some p := ⟨kvs[i], List.getElem?_eq_getElem hi⟩
    obtain ⟨en, q, hen, hkey, hq, rv⟩ := ent i k v hkv
    obtain ⟨ok, ov, he⟩ := st
    rw [← hsz] at he
    have hlt : it < s.heap.objs.size := Heap.lt_size he
    have hie : i < es'.size := by omega
    have een : es'[i] = en := by rw [Array.getElem?_eq_getElem hie] at hen; exact Option.some.inj hen
    refine DT.nextI he ⟨o, hgd, hx, hdt⟩ hie fun h' ho hT hz hk => ?_
    rw [een] at ho hT
    refine ⟨_, rfl, wpAny_letOwnedTupleGo_items (s := { s with heap := h' }) ho fun h'' he' sb => ?_⟩
    have hT2 : h''.get? s.heap.objs.size = some { cls := .type "tuple", data := .seq #[en.key, en.val] } := (sb.2 _ (Nat.ne_of_gt hlt)).trans hT
    have new : ObjOk X.prog X.w (upd H s.heap.objs.size (.tup [.ref q, v])) h'' s.heap.objs.size (.tup [.ref q, v]) :=
      ⟨by show 2 ≤ sizeLine; decide, [en.key, en.val], .cons hkey (.cons rv .nil), ⟨_, hT2, rfl, _, rfl⟩⟩
    have I1 : Inv X pins σ (upd H s.heap.objs.size (.tup [.ref q, v])) { s with heap := h'' } :=
      I.turnedNew (t' := s.toks) (ch := [it]) (fun b ob hb e => (sb.2 b (by simpa using hb)).trans (hk b ob (by simpa using hb) e)) hf (Nat.le_refl _) new
    refine ⟨.ref s.heap.objs.size, _, I1, rfl, ⟨_, k, v, q, hkv, rfl, I.hok.fresh (Nat.le_refl _), hq, rfl⟩, ⟨en.key, en.val, ?_⟩, fun b hb => ?_⟩
    · rw [← hsz]; exact he'
    · have e : b = it := by simpa using hb
      rw [e, upd_ne (Nat.ne_of_lt hlt)]
      exact (hf it (by simp)).1
  done := by
    intro X hP hw hK hc i pins s σ H E I hf st hg
    subst hP hw hK
    obtain ⟨hd, hi⟩ := hg
    obtain ⟨f0, f1, f2, f3, f4, f5⟩ := hf it (by simp)
    obtain ⟨hs, hgd, hx, es', ep', hdt, hsz, ent⟩ := frzT2 I hd
    obtain ⟨rfl, rfl⟩ := dict_ep hod hdt
    obtain ⟨ok, ov, he⟩ := st
    rw [← hsz] at he
    exact DT.endI (I.ok.hd hc) he ⟨o, hgd, hx, hdt⟩ (by omega) fun h' eb => ⟨rfl, I.turned (t' := s.toks) (fun b ob hb e => eb b ob hb e) f0 f1 f3 f4 f5⟩
  self := fun A i s Q E st h => let ⟨_, _, e⟩ := st; PySem.W.kcp_self e h
def iItemsT (td : TE) : TI := fun σ H R => td σ H fun x H1 => ∃ d o kvs, x = .ref d ∧ H1 d = some (.frz o (.dT kvs)) ∧ R (Itit d o kvs) H1
theorem pi_itemsT {X : Cx} {e : Expr} {td : TE} {apos cpos : Pos} {elts : List Expr} {kk : Nat} {tpos : Pos} (he : PE X e td) (hbase : attributeBase e "items" X.env (eval e X.env) = eval e X.env) (hline : (apos.endLine == cpos.line) = true) :
    PI X (.Tuple elts kk tpos) (.Call (.Attribute e "items" apos) [] [] cpos) (iItemsT td) := by
  refine ⟨fun pins s σ H R I h => ?_⟩
  refine wpAny_Call_method (T := "dict") (id := "dict.items") hbase rfl hline PySem.F.plainAttrs_dict PySem.F.slot_dict_items PySem.F.type_dict_items (thn (he.run pins s σ H _ I h) fun u s1 ⟨x, H1, I1, rx, d, o, kvs, ex, hd, q⟩ => ?_)
  subst ex
  obtain rfl : u = Value.ref d := rx
  obtain ⟨hs, hgd, hx, es, ep, hdt, hsz, ent⟩ := frzT2 I1 hd
  have raw : DT.Raw s1.heap d es ep := ⟨o, hgd, hx, hdt⟩
  refine ⟨raw.typeIs, fun b q => ?_, ?_⟩
  · cases q
    exact ⟨o, hgd, hx.2.1⟩
  have I2 : Inv X pins σ H1 { s1 with heap := s1.heap.push { cls := .type "dict_items", data := .fields #[.ref d] } } := I1.kept (t' := s1.toks) fun b ob q => Heap.get?_push_of_some _ q
  have fin : wpAny (model X.prog X.w) X.A (pyIter (.ref s1.heap.objs.size)) (PIE X pins σ (.Tuple elts kk tpos) R) X.xe { s1 with heap := s1.heap.push { cls := .type "dict_items", data := .fields #[.ref d] } } := by
    refine DT.iterI (d := d) (es := es) (ep := ep) ⟨_, Heap.get?_push_size _ rfl, rfl, rfl⟩ (raw.push _) (pi_one (tk := s1.toks) I2 _ (turn_itemsT _ hdt) ⟨.none, .none, ?_⟩ q)
    rw [← hsz]
    exact Heap.get?_push_size _ rfl
  show wpAny _ _ (callWith cpos (.builtin "dict.items") [.ref d] [] []) _ X.xe s1
  exact method_meetsIn PySem.F.slot_dict_items PySem.F.entry_dict_items rfl (PySem.evalArgs_none ⟨rfl, raw.typeIs, PySem.F.args_dict_items_1 _, _, DT.meetsItems (es := es) (ep := ep) hs, raw, fin⟩)
end Dx
namespace Dx
variable [Nm]
open PySem PySem.Spec L2
section
variable {M : MatC} {T : List Addr} {Ev : Nat → Hp → Prop}
theorem PI.or {X : Cx} {tg e : PySem.Expr} {w w' : TI} (h : PI X tg e w) (h' : PI X tg e w') : PI X tg e fun σ H R => w σ H R ∨ w' σ H R :=
  ⟨fun pins s σ H R I q => q.elim (h.run pins s σ H R I) (h'.run pins s σ H R I)⟩
theorem pi_weak {X : Cx} {tg e : PySem.Expr} {w w' : TI} (h : PI X tg e w) (k : ∀ σ H R, w' σ H R → w σ H R) : PI X tg e w' := ⟨fun pins s σ H R I q => h.run pins s σ H R I (k σ H R q)⟩
/-- what a list or a tuple is, and stays -/
def SeqAt (M : MatC) (t : Bool) (a : Addr) (ds : List D) (vs : List V) : Hp → (Addr → Bool) → Prop := fun H O => (if t then SqT M.K H a vs else SqL M.K H a vs) ∧ RpL M (hide H O) ds vs
theorem seq_tup {H : Hp} {O : Addr → Bool} {v : V} {ds : List D} {k : Bool} (b : BRp M H O (.tup ds) v) :
    ∃ a vs, v = .ref a ∧ vs.length = ds.length ∧ ∀ H' O', Ext (hide H O) (hide H' O') → (k = true ∨ Ext H H') → SeqAt M true a ds vs H' O' := by
  obtain ⟨a, vs, rfl, h1, h2⟩ := br_tup b
  exact ⟨a, vs, rfl, h2.length, fun H' O' e _ => ⟨sqT_hide (e.keep a _ h1 fun ps z => nomatch z), RpL.mono e ds h2⟩⟩
theorem seq_ftup {H : Hp} {O : Addr → Bool} {v : V} {ds : List D} {k : Bool} (b : BRp M H O (.ftup ds) v) :
    ∃ a vs, v = .ref a ∧ vs.length = ds.length ∧ ∀ H' O', Ext (hide H O) (hide H' O') → (k = true ∨ Ext H H') → SeqAt M true a ds vs H' O' := by
  obtain ⟨a, vs, o, rfl, _, h1, _, h2⟩ := br_ftup b
  exact ⟨a, vs, rfl, h2.length, fun H' O' e _ => ⟨sqT_frz (hide_some (e.keep a _ h1 fun ps z => nomatch z)).2, RpL.mono e ds h2⟩⟩
theorem seq_lst {H : Hp} {O : Addr → Bool} {v : V} {ds : List D} {k : Bool} (b : BRp M H O (.lst ds) v) (kk : k = true → Rp M (hide H O) (.lst ds) v) :
    ∃ a vs, v = .ref a ∧ vs.length = ds.length ∧ ∀ H' O', Ext (hide H O) (hide H' O') → (k = true ∨ Ext H H') → SeqAt M false a ds vs H' O' := by
  obtain ⟨a, vs, rfl, h1, h2⟩ := br_lst b
  refine ⟨a, vs, rfl, h2.length, fun H' O' e q => ⟨?_, RpL.mono e ds h2⟩⟩
  show SqL M.K H' a vs
  rcases q with q | q
  · have r := kk q
    unfold Rp at r
    obtain ⟨a', vs', ea, r1, r2⟩ := r
    cases ea
    have r3 := (hide_some r1).2
    rw [h1] at r3; cases r3
    exact SqL.of (hide_some (e.keep a _ r1 fun ps z => nomatch z)).2
  · exact SqL.of (q.keep a _ h1 fun ps z => nomatch z)
theorem yl_list {a : Addr} {ds : List D} {vs : List V} (hl : vs.length = ds.length) : Yl M (Itl M.K a) ds (SeqAt M false a ds vs) where
  go := fun i H' O' h _ hi => ⟨vs, vs[i], h.1, List.getElem?_eq_getElem (by omega)⟩
  yld := fun i H' O' d x H2 h _ hd hy => by
    obtain ⟨rfl, hy⟩ := hy
    obtain ⟨v, h1, h2⟩ := h.2.get hd
    have e := hy vs h.1
    rw [h1] at e; cases e
    exact ⟨Ext.refl _, h2⟩
  stop := fun H' O' h _ => ⟨vs, h.1, by omega⟩
theorem yl_tup {a : Addr} {ds : List D} {vs : List V} (hl : vs.length = ds.length) : Yl M (Itt M.K a) ds (SeqAt M true a ds vs) where
  go := fun i H' O' h _ hi => ⟨vs, vs[i], h.1, List.getElem?_eq_getElem (by omega)⟩
  yld := fun i H' O' d x H2 h _ hd hy => by
    obtain ⟨rfl, hy⟩ := hy
    obtain ⟨v, h1, h2⟩ := h.2.get hd
    have e := hy vs h.1
    rw [h1] at e; cases e
    exact ⟨Ext.refl _, h2⟩
  stop := fun H' O' h _ => ⟨vs, h.1, by omega⟩
theorem it_seq {X : Cx} {tg a : PySem.Expr} {g : DEnv → Res D} {k : DEnv → Bool} (hK : X.K = M.K) (he : PE X a (tE M T Ev g k)) : PI X tg a (tI M T Ev (fun env => do let x ← g env; seqG x) k) := by
  refine pi_weak (PI.or (pi_list he) (pi_tup he)) fun σ H R ⟨H₀, B, O, env, RR, h⟩ => ?_
  by_cases ht : ∃ es, g env = .ok (.tup es)
  · right
    obtain ⟨es, ht⟩ := ht
    refine ⟨H₀, B, O, env, RR, After.mono (After.bind h) (Ext.refl H) fun x H1 e1 ex q v b kk => ?_⟩
    rw [ht] at ex; cases ex
    obtain ⟨p, vs, rfl, hl, hs⟩ := seq_tup (k := k env) b
    exact ⟨p, rfl, ⟨vs, hK ▸ (hs H1 O (Ext.refl _) (.inr (Ext.refl _))).1⟩, q.one _ _ (hK ▸ yl_tup hl) hs⟩
  by_cases hf : ∃ es, g env = .ok (.ftup es)
  · right
    obtain ⟨es, ht⟩ := hf
    refine ⟨H₀, B, O, env, RR, After.mono (After.bind h) (Ext.refl H) fun x H1 e1 ex q v b kk => ?_⟩
    rw [ht] at ex; cases ex
    obtain ⟨p, vs, rfl, hl, hs⟩ := seq_ftup (k := k env) b
    exact ⟨p, rfl, ⟨vs, hK ▸ (hs H1 O (Ext.refl _) (.inr (Ext.refl _))).1⟩, q.one _ _ (hK ▸ yl_tup hl) hs⟩
  · left
    refine ⟨H₀, B, O, env, RR, After.mono (After.bind h) (Ext.refl H) fun x H1 e1 ex q v b kk => ?_⟩
    cases x with
    | tup es => exact absurd ⟨es, ex⟩ ht
    | ftup es => exact absurd ⟨es, ex⟩ hf
    | lst es =>
      obtain ⟨p, vs, rfl, hl, hs⟩ := seq_lst (k := k env) b kk
      exact ⟨p, rfl, ⟨vs, hK ▸ (hs H1 O (Ext.refl _) (.inr (Ext.refl _))).1⟩, q.one _ _ (hK ▸ yl_list hl) hs⟩
    | _ => exact q.elim
/-! ### ranges -/
theorem getE {α : Type} {l : List α} {i : Nat} {a : α} (h : l[i]? = some a) : i < l.length := (List.getElem?_eq_some_iff.mp h).1
theorem yl_range {lo hi : Int} {Src : Hp → (Addr → Bool) → Prop} : Yl M (Itr lo (hi - lo).toNat) (rangeD lo hi) Src where
  go := fun i H' O' _ _ h => by unfold rangeD at h; rw [List.length_map, List.length_range] at h; exact h
  yld := fun i H' O' d x H2 _ _ hd hy => by
    obtain ⟨rfl, rfl⟩ := hy
    unfold rangeD at hd
    rw [List.getElem?_map] at hd
    cases q : (List.range (hi - lo).toNat)[i]? with
    | none => rw [q] at hd; cases hd
    | some j =>
      rw [q] at hd; cases hd
      have : j = i := by
        have := (List.getElem?_eq_some_iff.mp q).2
        rw [List.getElem_range] at this; exact this.symm
      subst this
      exact ⟨Ext.refl _, rp_int⟩
  stop := fun H' O' _ _ => by unfold rangeD; rw [List.length_map, List.length_range]; exact Nat.le_refl _
theorem inR_of {i : Int} (h : inR i = true) : -(2 ^ 62) ≤ i ∧ i < 2 ^ 62 := by
  unfold inR at h
  simp only [Bool.and_eq_true, decide_eq_true_eq] at h
  exact h
theorem After.iteL {α : Type} {c : Prop} [Decidable c] {r : Res α} {H : Hp} {P : α → Hp → Prop} (h : After Ev (if c then r else .bad) H P) : c ∧ After Ev r H P := After.ite h
theorem it_rng1 {X : Cx} {tg a : PySem.Expr} {p pos : Pos} {g : DEnv → Res D} {k kk : DEnv → Bool} (hg : Gl X "range") (hm : X.mg "range" = none) (hs : starEach [a] X.env = [(false, eval a X.env)]) (ha : PE X a (tE M T Ev g k)) :
    PI X tg (.Call (.Name "range" p) [a] [] pos) (tI M T Ev (fun env => do let ds ← (do let x ← g env; .ok [x]); rngG ds) kk) := by
  refine pi_weak (pi_range1 hg hm (pa_cons ha pa_nil hs) hs) fun σ H R ⟨H₀, B, O, env, RR, h⟩ => ?_
  have h : After Ev ((g env >>= fun x => .ok [x]) >>= rngG) H _ := h
  rw [Res.bind_assoc] at h
  refine ⟨H₀, B, O, env, RR, After.mono (After.bind h) (Ext.refl H) fun x H1 e1 _ q v b _ => ?_⟩
  cases x with
  | int j =>
    obtain ⟨hc, q⟩ := After.iteL (c := inR j = true) q
    obtain ⟨h1, h2⟩ := inR_of hc
    refine ⟨j, by rw [br_int b], h1, h2, ?_⟩
    have := q.one (Itr 0 (j - 0).toNat) (fun _ _ => True) yl_range fun _ _ _ _ => trivial
    simpa using this
  | _ => exact q.elim
theorem it_rng2 {X : Cx} {tg a a2 : PySem.Expr} {p pos : Pos} {g g2 : DEnv → Res D} {k k2 kk : DEnv → Bool} (hg : Gl X "range") (hm : X.mg "range" = none) (hs : starEach [a, a2] X.env = [(false, eval a X.env), (false, eval a2 X.env)]) (hs2 : starEach [a2] X.env = [(false, eval a2 X.env)])
    (ha : PE X a (tE M T Ev g k)) (ha2 : PE X a2 (tE M T Ev g2 k2)) :
    PI X tg (.Call (.Name "range" p) [a, a2] [] pos) (tI M T Ev (fun env => do let ds ← (do let x ← g env; let y ← g2 env; .ok [x, y]); rngG ds) kk) := by
  refine pi_weak (pi_range2 hg hm (pa_cons ha (pa_cons ha2 pa_nil hs2) (by rw [hs, hs2])) hs hs2) fun σ H R ⟨H₀, B, O, env, RR, h⟩ => ?_
  have h : After Ev ((g env >>= fun x => g2 env >>= fun y => .ok [x, y]) >>= rngG) H _ := h
  rw [Res.bind_assoc] at h
  refine ⟨H₀, B, O, env, RR, After.mono (After.bind h) (Ext.refl H) fun x H1 e1 _ q v b _ => ?_⟩
  rw [Res.bind_assoc] at q
  refine ⟨H₀, B, O, env, RR.mono e1, After.mono (After.bind q) (Ext.refl H1) fun y H2 e2 _ q v2 b2 _ => ?_⟩
  cases x with
  | int i =>
    cases y with
    | int j =>
      obtain ⟨hc, q⟩ := After.iteL (c := (inR i && inR j) = true) q
      rw [Bool.and_eq_true] at hc
      obtain ⟨h1, h2⟩ := inR_of hc.1
      obtain ⟨h3, h4⟩ := inR_of hc.2
      exact ⟨i, j, by rw [br_int (b.mono e2), br_int b2], ⟨h1, h2, h3, h4⟩, q.one (Itr i (j - i).toNat) (fun _ _ => True) yl_range fun _ _ _ _ => trivial⟩
    | _ => exact q.elim
  | _ => cases y <;> exact q.elim
theorem yl_down {i j : Int} {n : Nat} (hn : n = (i - j).toNat) {Src : Hp → (Addr → Bool) → Prop} : Yl M (Itc i (-1) n) (downD i j) Src where
  go := fun t H' O' _ _ h => by unfold downD at h; rw [List.length_map, List.length_range] at h; exact hn ▸ h
  yld := fun t H' O' d x H2 _ _ hd hy => by
    obtain ⟨rfl, rfl⟩ := hy
    unfold downD at hd
    rw [List.getElem?_map] at hd
    cases q : (List.range (i - j).toNat)[t]? with
    | none => rw [q] at hd; cases hd
    | some m =>
      rw [q] at hd; cases hd
      have : m = t := by
        have := (List.getElem?_eq_some_iff.mp q).2
        rw [List.getElem_range] at this; exact this.symm
      subst this
      refine ⟨Ext.refl _, ?_⟩
      have e : i + ((m : Nat) : Int) * (-1) = i - (m : Nat) := by omega
      rw [e]; exact rp_int
  stop := fun H' O' _ _ => by unfold downD; rw [List.length_map, List.length_range]; exact Nat.le_of_eq hn
theorem rev_range (a b : Int) : (rangeD a b).reverse = downD (a + (((b - a).toNat : Nat) : Int) - 1) (a - 1) := by
  have e : (a + (((b - a).toNat : Nat) : Int) - 1 - (a - 1)).toNat = (b - a).toNat := by omega
  unfold rangeD downD
  rw [e]
  apply List.ext_getElem?
  intro k
  by_cases hk : k < (b - a).toNat
  · rw [List.getElem?_reverse (by rw [List.length_map, List.length_range]; exact hk), List.length_map, List.length_range, List.getElem?_map, List.getElem?_map, List.getElem?_range (by omega), List.getElem?_range hk]
    simp only [Option.map_some]
    congr 2
    omega
  · rw [List.getElem?_eq_none (by rw [List.length_reverse, List.length_map, List.length_range]; omega), List.getElem?_eq_none (by rw [List.length_map, List.length_range]; omega)]
theorem it_rng3 {X : Cx} {tg a a2 a3 : PySem.Expr} {p pos : Pos} {g g2 g3 : DEnv → Res D} {k k2 k3 kk : DEnv → Bool} (hg : Gl X "range") (hm : X.mg "range" = none) (hs : starEach [a, a2, a3] X.env = (false, eval a X.env) :: starEach [a2, a3] X.env) (hs2 : starEach [a2, a3] X.env = (false, eval a2 X.env) :: starEach [a3] X.env) (hs3 : starEach [a3] X.env = (false, eval a3 X.env) :: starEach [] X.env)
    (hpl : (backTo pos (starEach [a2, a3] X.env)).any (·.1) = false)
    (ha : PE X a (tE M T Ev g k)) (ha2 : PE X a2 (tE M T Ev g2 k2)) (ha3 : PE X a3 (tE M T Ev g3 k3)) :
    PI X tg (.Call (.Name "range" p) [a, a2, a3] [] pos) (tI M T Ev (fun env => do let ds ← (do let x ← g env; let y ← g2 env; let z ← g3 env; .ok [x, y, z]); rngG ds) kk) := by
  refine pi_weak (pi_range3 hg hm (pa_cons ha (pa_cons ha2 (pa_cons ha3 pa_nil hs3) hs2) hs) hs hpl) fun σ H R ⟨H₀, B, O, env, RR, h⟩ => ?_
  have h : After Ev ((g env >>= fun x => g2 env >>= fun y => g3 env >>= fun z => .ok [x, y, z]) >>= rngG) H _ := h
  rw [Res.bind_assoc] at h
  refine ⟨H₀, B, O, env, RR, After.mono (After.bind h) (Ext.refl H) fun x H1 e1 _ q v b _ => ?_⟩
  rw [Res.bind_assoc] at q
  refine ⟨H₀, B, O, env, RR.mono e1, After.mono (After.bind q) (Ext.refl H1) fun y H2 e2 _ q v2 b2 _ => ?_⟩
  rw [Res.bind_assoc] at q
  refine ⟨H₀, B, O, env, RR.mono (e1.trans e2), After.mono (After.bind q) (Ext.refl H2) fun z H3 e3 _ q v3 b3 _ => ?_⟩
  cases x with
  | int i =>
    cases y with
    | int j =>
      cases z with
      | int c =>
        obtain ⟨hc, q2⟩ := After.iteL (c := (decide (c = -1) && (inR i && inR j)) = true) q
        rw [Bool.and_eq_true, Bool.and_eq_true] at hc
        obtain ⟨h1, h2⟩ := inR_of hc.2.1
        obtain ⟨h3, h4⟩ := inR_of hc.2.2
        have ec : c = -1 := of_decide_eq_true hc.1
        subst ec
        exact ⟨i, j, -1, (i - j).toNat, by rw [br_int (b.mono (e2.trans e3)), br_int (b2.mono e3), br_int b3], RgC.neg h1 h2 h3 h4, q2.one _ (fun _ _ => True) (yl_down rfl) fun _ _ _ _ => trivial⟩
      | _ => exact q.elim
    | _ => cases z <;> exact q.elim
  | _ => cases y <;> cases z <;> exact q.elim
theorem it_revR1 {X : Cx} {tg a : PySem.Expr} {p pos p2 pos2 : Pos} {g : DEnv → Res D} {k kk : DEnv → Bool} (hg : Gl X "range") (hm : X.mg "range" = none) (hg2 : Gl X "reversed") (hm2 : X.mg "reversed" = none) (hs : starEach [a] X.env = (false, eval a X.env) :: starEach [] X.env) (ha : PE X a (tE M T Ev g k)) :
    PI X tg (.Call (.Name "reversed" p2) [.Call (.Name "range" p) [a] [] pos] [] pos2) (tI M T Ev (fun env => do let ds ← (do let x ← g env; .ok [x]); revRG ds) kk) := by
  refine pi_weak (pi_revR hg2 hm2 (prg_1 hg hm ha hs) rfl) fun σ H R ⟨H₀, B, O, env, RR, h⟩ => ?_
  have h : After Ev ((g env >>= fun x => .ok [x]) >>= revRG) H _ := h
  rw [Res.bind_assoc] at h
  refine ⟨H₀, B, O, env, RR, After.mono (After.bind h) (Ext.refl H) fun x H1 e1 _ q v b _ => ?_⟩
  cases x with
  | int j =>
    obtain ⟨hc, q⟩ := After.iteL (c := inR j = true) q
    obtain ⟨h1, h2⟩ := inR_of hc
    rw [rev_range] at q
    exact ⟨j, br_int b, by omega, by omega, h1, h2, q.one _ (fun _ _ => True) (yl_down (by omega)) fun _ _ _ _ => trivial⟩
  | _ => exact q.elim
theorem it_revR2 {X : Cx} {tg a a2 : PySem.Expr} {p pos p2 pos2 : Pos} {g g2 : DEnv → Res D} {k k2 kk : DEnv → Bool} (hg : Gl X "range") (hm : X.mg "range" = none) (hg2 : Gl X "reversed") (hm2 : X.mg "reversed" = none) (hs : starEach [a, a2] X.env = (false, eval a X.env) :: starEach [a2] X.env)
    (hs2 : starEach [a2] X.env = (false, eval a2 X.env) :: starEach [] X.env) (hpl : (backTo pos (starEach [a2] X.env)).any (·.1) = false) (ha : PE X a (tE M T Ev g k)) (ha2 : PE X a2 (tE M T Ev g2 k2)) :
    PI X tg (.Call (.Name "reversed" p2) [.Call (.Name "range" p) [a, a2] [] pos] [] pos2) (tI M T Ev (fun env => do let ds ← (do let x ← g env; let y ← g2 env; .ok [x, y]); revRG ds) kk) := by
  refine pi_weak (pi_revR hg2 hm2 (prg_2 hg hm ha ha2 hs hs2 hpl) rfl) fun σ H R ⟨H₀, B, O, env, RR, h⟩ => ?_
  have h : After Ev ((g env >>= fun x => g2 env >>= fun y => .ok [x, y]) >>= revRG) H _ := h
  rw [Res.bind_assoc] at h
  refine ⟨H₀, B, O, env, RR, After.mono (After.bind h) (Ext.refl H) fun x H1 e1 _ q v b _ => ?_⟩
  rw [Res.bind_assoc] at q
  refine ⟨H₀, B, O, env, RR.mono e1, After.mono (After.bind q) (Ext.refl H1) fun y H2 e2 _ q v2 b2 _ => ?_⟩
  cases x with
  | int i =>
    cases y with
    | int j =>
      obtain ⟨hc, q⟩ := After.iteL (c := (inR i && inR j) = true) q
      rw [Bool.and_eq_true] at hc
      obtain ⟨h1, h2⟩ := inR_of hc.1
      obtain ⟨h3, h4⟩ := inR_of hc.2
      rw [rev_range] at q
      exact ⟨i, j, br_int (b.mono e2), br_int b2, h1, h2, h3, h4, q.one _ (fun _ _ => True) (yl_down (by omega)) fun _ _ _ _ => trivial⟩
    | _ => exact q.elim
  | _ => cases y <;> exact q.elim
/-! ### reversed, enumerate, zip -/
theorem yl_rev {a : Addr} {ds : List D} {vs : List V} (hl : vs.length = ds.length) : Yl M (Itv M.K a vs.length) ds.reverse (SeqAt M false a ds vs) where
  go := fun i H' O' h _ hi => ⟨by rw [List.length_reverse] at hi; omega, vs, vs[vs.length - 1 - i]'(by rw [List.length_reverse] at hi; omega), h.1, List.getElem?_eq_getElem _⟩
  yld := fun i H' O' d x H2 h _ hd hy => by
    obtain ⟨rfl, hy⟩ := hy
    have hi : i < ds.length := by have := getE hd; rwa [List.length_reverse] at this
    rw [List.getElem?_reverse hi] at hd
    obtain ⟨v, h1, h2⟩ := h.2.get hd
    have e := hy vs h.1
    rw [hl] at e
    rw [h1] at e; cases e
    exact ⟨Ext.refl _, h2⟩
  stop := fun H' O' h _ => by rw [List.length_reverse]; exact Nat.le_of_eq hl
theorem yl_revT {a : Addr} {ds : List D} {vs : List V} (hl : vs.length = ds.length) : Yl M (RT.ItvT M.K a vs.length) ds.reverse (SeqAt M true a ds vs) where
  go := fun i H' O' h _ hi => ⟨by rw [List.length_reverse] at hi; omega, vs, vs[vs.length - 1 - i]'(by rw [List.length_reverse] at hi; omega), h.1, List.getElem?_eq_getElem _⟩
  yld := fun i H' O' d x H2 h _ hd hy => by
    obtain ⟨rfl, hy⟩ := hy
    have hi : i < ds.length := by have := getE hd; rwa [List.length_reverse] at this
    rw [List.getElem?_reverse hi] at hd
    obtain ⟨v, h1, h2⟩ := h.2.get hd
    have e := hy vs h.1
    rw [hl] at e
    rw [h1] at e; cases e
    exact ⟨Ext.refl _, h2⟩
  stop := fun H' O' h _ => by rw [List.length_reverse]; exact Nat.le_of_eq hl
theorem it_rev {X : Cx} {tg a : PySem.Expr} {p pos : Pos} {g : DEnv → Res D} {k : DEnv → Bool} (hK : X.K = M.K) (hg : Gl X "reversed") (hm : X.mg "reversed" = none) (hs : starEach [a] X.env = (false, eval a X.env) :: starEach [] X.env) (he : PE X a (tE M T Ev g k)) :
    PI X tg (.Call (.Name "reversed" p) [a] [] pos) (tI M T Ev (fun env => do let x ← g env; revG x) k) := by
  refine pi_weak (RT.pi_revA hg hm he hs) fun σ H R ⟨H₀, B, O, env, RR, h⟩ => ?_
  refine ⟨H₀, B, O, env, RR, After.mono (After.bind h) (Ext.refl H) fun x H1 e1 ex q v b kk => ?_⟩
  cases x with
  | tup es =>
    obtain ⟨p, vs, rfl, hl, hs⟩ := seq_tup (k := k env) b
    exact ⟨p, vs, rfl, .inr ⟨hK ▸ (hs H1 O (Ext.refl _) (.inr (Ext.refl _))).1, q.one _ _ (hK ▸ yl_revT hl) hs⟩⟩
  | ftup es =>
    obtain ⟨p, vs, rfl, hl, hs⟩ := seq_ftup (k := k env) b
    exact ⟨p, vs, rfl, .inr ⟨hK ▸ (hs H1 O (Ext.refl _) (.inr (Ext.refl _))).1, q.one _ _ (hK ▸ yl_revT hl) hs⟩⟩
  | lst es =>
    obtain ⟨p, vs, rfl, hl, hs⟩ := seq_lst (k := k env) b kk
    exact ⟨p, vs, rfl, .inl ⟨hK ▸ (hs H1 O (Ext.refl _) (.inr (Ext.refl _))).1, q.one _ _ (hK ▸ yl_rev hl) hs⟩⟩
  | _ => exact q.elim
theorem enum_get {ds : List D} {i : Nat} {d : D} (h : (enumL ds)[i]? = some d) : ∃ x, ds[i]? = some x ∧ d = .tup [.int i, x] := by
  unfold enumL at h
  rw [List.getElem?_map] at h
  cases q : ds.zipIdx[i]? with
  | none => rw [q] at h; cases h
  | some p =>
    rw [q] at h; cases h
    rw [List.getElem?_zipIdx] at q
    cases q2 : ds[i]? with
    | none => rw [q2] at q; cases q
    | some x =>
      rw [q2] at q; cases q
      exact ⟨x, rfl, by simp⟩
/-- a new pair -/
theorem rp_pair {H : Hp} {O : Addr → Bool} {p : Addr} {d e : D} {v w : V} (t : Trk O H) (hp : H p = none) (h1 : Rp M (hide H O) d v) (h2 : Rp M (hide H O) e w) : Rp M (hide (upd H p (.tup [v, w])) O) (.tup [d, e]) (.ref p) :=
  rp_newT t hp (.cons h1 (.cons h2 .nil))
theorem yl_enum {a : Addr} {ds : List D} {vs : List V} (hl : vs.length = ds.length) : Yl M (Ite M.K a) (enumL ds) (SeqAt M false a ds vs) where
  go := fun i H' O' h _ hi => by
    have hi : i < vs.length := by unfold enumL at hi; rw [List.length_map, List.length_zipIdx] at hi; omega
    exact ⟨vs, vs[i], h.1, List.getElem?_eq_getElem hi⟩
  yld := fun i H' O' d x H2 h t hd hy => by
    obtain ⟨Tp, y, rfl, hp, rfl, hy⟩ := hy
    obtain ⟨z, h1, rfl⟩ := enum_get hd
    obtain ⟨v, h3, h4⟩ := h.2.get h1
    have e := hy vs h.1
    rw [h3] at e; cases e
    exact ⟨Ext.new hp, rp_pair t hp rp_int h4⟩
  stop := fun H' O' h _ => ⟨vs, h.1, by unfold enumL; rw [List.length_map, List.length_zipIdx]; omega⟩
theorem yl_enumT {a : Addr} {ds : List D} {vs : List V} (hl : vs.length = ds.length) : Yl M (IteT M.K a) (enumL ds) (SeqAt M true a ds vs) where
  go := fun i H' O' h _ hi => by
    have hi : i < vs.length := by unfold enumL at hi; rw [List.length_map, List.length_zipIdx] at hi; omega
    exact ⟨vs, vs[i], h.1, List.getElem?_eq_getElem hi⟩
  yld := fun i H' O' d x H2 h t hd hy => by
    obtain ⟨Tp, y, rfl, hp, rfl, hy⟩ := hy
    obtain ⟨z, h1, rfl⟩ := enum_get hd
    obtain ⟨v, h3, h4⟩ := h.2.get h1
    have e := hy vs h.1
    rw [h3] at e; cases e
    exact ⟨Ext.new hp, rp_pair t hp rp_int h4⟩
  stop := fun H' O' h _ => ⟨vs, h.1, by unfold enumL; rw [List.length_map, List.length_zipIdx]; omega⟩
theorem it_enum {X : Cx} {elts : List PySem.Expr} {kt : Nat} {tpos : Pos} {a : PySem.Expr} {p pos : Pos} {g : DEnv → Res D} {k : DEnv → Bool} (hK : X.K = M.K) (hg : Gl X "enumerate") (hm : X.mg "enumerate" = none) (hs : starEach [a] X.env = [(false, eval a X.env)]) (he : PE X a (tE M T Ev g k)) :
    PI X (.Tuple elts kt tpos) (.Call (.Name "enumerate" p) [a] [] pos) (tI M T Ev (fun env => do let x ← g env; enumG x) k) := by
  refine pi_weak (PI.or (pi_enum hg hm (pa_cons he pa_nil hs) hs) (pi_enumT hg hm (pa_cons he pa_nil hs) hs)) fun σ H R ⟨H₀, B, O, env, RR, h⟩ => ?_
  by_cases ht : ∃ es, g env = .ok (.tup es)
  · right
    obtain ⟨es, ht⟩ := ht
    refine ⟨H₀, B, O, env, RR, After.mono (After.bind h) (Ext.refl H) fun x H1 e1 ex q v b kk => ?_⟩
    rw [ht] at ex; cases ex
    obtain ⟨p, vs, rfl, hl, hs⟩ := seq_tup (k := k env) b
    exact ⟨p, vs, rfl, hK ▸ (hs H1 O (Ext.refl _) (.inr (Ext.refl _))).1, q.one _ _ (hK ▸ yl_enumT hl) hs⟩
  by_cases hf : ∃ es, g env = .ok (.ftup es)
  · right
    obtain ⟨es, ht⟩ := hf
    refine ⟨H₀, B, O, env, RR, After.mono (After.bind h) (Ext.refl H) fun x H1 e1 ex q v b kk => ?_⟩
    rw [ht] at ex; cases ex
    obtain ⟨p, vs, rfl, hl, hs⟩ := seq_ftup (k := k env) b
    exact ⟨p, vs, rfl, hK ▸ (hs H1 O (Ext.refl _) (.inr (Ext.refl _))).1, q.one _ _ (hK ▸ yl_enumT hl) hs⟩
  · left
    refine ⟨H₀, B, O, env, RR, After.mono (After.bind h) (Ext.refl H) fun x H1 e1 ex q v b kk => ?_⟩
    cases x with
    | tup es => exact absurd ⟨es, ex⟩ ht
    | ftup es => exact absurd ⟨es, ex⟩ hf
    | lst es =>
      obtain ⟨p, vs, rfl, hl, hs⟩ := seq_lst (k := k env) b kk
      exact ⟨p, vs, rfl, hK ▸ (hs H1 O (Ext.refl _) (.inr (Ext.refl _))).1, q.one _ _ (hK ▸ yl_enum hl) hs⟩
    | _ => exact q.elim
theorem zip_get {ds es : List D} {i : Nat} {d : D} (h : (zipL ds es)[i]? = some d) : ∃ x y, ds[i]? = some x ∧ es[i]? = some y ∧ d = .tup [x, y] := by
  unfold zipL at h
  rw [List.getElem?_map] at h
  cases q : (ds.zip es)[i]? with
  | none => rw [q] at h; cases h
  | some p =>
    rw [q] at h; cases h
    obtain ⟨h1, h2⟩ := List.getElem?_zip_eq_some.mp q
    exact ⟨p.1, p.2, h1, h2, rfl⟩
theorem zip_len (ds es : List D) : (zipL ds es).length = min ds.length es.length := by unfold zipL; rw [List.length_map, List.length_zip]
theorem yl_zip {a b : Addr} {ds es : List D} {vs ws : List V} (hl : vs.length = ds.length) (hl2 : ws.length = es.length) : Yl M (Itz M.K a b) (zipL ds es) (fun H O => SeqAt M false a ds vs H O ∧ SeqAt M false b es ws H O) where
  go := fun i H' O' h _ hi => by
    rw [zip_len] at hi
    exact ⟨vs, ws, vs[i]'(by omega), ws[i]'(by omega), h.1.1, h.2.1, List.getElem?_eq_getElem _, List.getElem?_eq_getElem _⟩
  yld := fun i H' O' d x H2 h t hd hy => by
    obtain ⟨Tp, y, z, rfl, hp, rfl, hy, hz⟩ := hy
    obtain ⟨x1, y1, h1, h2, rfl⟩ := zip_get hd
    obtain ⟨v, h3, h4⟩ := h.1.2.get h1
    obtain ⟨w, h5, h6⟩ := h.2.2.get h2
    have e := hy vs h.1.1
    rw [h3] at e; cases e
    have e := hz ws h.2.1
    rw [h5] at e; cases e
    exact ⟨Ext.new hp, rp_pair t hp h4 h6⟩
  stop := fun H' O' h _ => ⟨vs, ws, h.1.1, h.2.1, by rw [zip_len]; omega⟩
theorem yl_zipT {a b : Addr} {ds es : List D} {vs ws : List V} (hl : vs.length = ds.length) (hl2 : ws.length = es.length) : Yl M (RZ.ItzT M.K a b) (zipL ds es) (fun H O => SeqAt M true a ds vs H O ∧ SeqAt M true b es ws H O) where
  go := fun i H' O' h _ hi => by
    rw [zip_len] at hi
    exact ⟨vs, ws, vs[i]'(by omega), ws[i]'(by omega), h.1.1, h.2.1, List.getElem?_eq_getElem _, List.getElem?_eq_getElem _⟩
  yld := fun i H' O' d x H2 h t hd hy => by
    obtain ⟨Tp, y, z, rfl, hp, rfl, hy, hz⟩ := hy
    obtain ⟨x1, y1, h1, h2, rfl⟩ := zip_get hd
    obtain ⟨v, h3, h4⟩ := h.1.2.get h1
    obtain ⟨w, h5, h6⟩ := h.2.2.get h2
    have e := hy vs h.1.1
    rw [h3] at e; cases e
    have e := hz ws h.2.1
    rw [h5] at e; cases e
    exact ⟨Ext.new hp, rp_pair t hp h4 h6⟩
  stop := fun H' O' h _ => ⟨vs, ws, h.1.1, h.2.1, by rw [zip_len]; omega⟩
theorem it_zip {X : Cx} {elts : List PySem.Expr} {kt : Nat} {tpos : Pos} {a a2 : PySem.Expr} {p pos : Pos} {g g2 : DEnv → Res D} {k k2 : DEnv → Bool} (hK : X.K = M.K) (hg : Gl X "zip") (hm : X.mg "zip" = none) (hs : starEach [a, a2] X.env = (false, eval a X.env) :: starEach [a2] X.env)
    (hs2 : starEach [a2] X.env = (false, eval a2 X.env) :: starEach [] X.env) (hpl : (backTo pos (starEach [a2] X.env)).any (·.1) = false) (he : PE X a (tE M T Ev g k)) (he2 : PE X a2 (tE M T Ev g2 k2)) :
    PI X (.Tuple elts kt tpos) (.Call (.Name "zip" p) [a, a2] [] pos) (tI M T Ev (fun env => do let x ← g env; let y ← g2 env; zipG x y) fun env => k env && k2 env) := by
  refine pi_weak (RZ.pi_zipA hg hm (pa_cons he (pa_cons he2 pa_nil hs2) hs) hs hpl) fun σ H R ⟨H₀, B, O, env, RR, h⟩ => ?_
  refine ⟨H₀, B, O, env, RR, After.mono (After.bind h) (Ext.refl H) fun x H1 e1 ex q v b kk => ?_⟩
  refine ⟨H₀, B, O, env, RR.mono e1, After.mono (After.bind q) (Ext.refl H1) fun y H2 e2 _ q v2 b2 kk2 => ?_⟩
  have b := b.mono e2
  have kk : k env = true → Rp M (hide H2 O) x v := fun z => Rp.mono (e2.hide O) x (kk z)
  have split : ∀ {H' : Hp}, ((k env && k2 env) = true ∨ Ext H2 H') → (k env = true ∨ Ext H2 H') ∧ (k2 env = true ∨ Ext H2 H') := fun w => by
    rcases w with w | w
    · rw [Bool.and_eq_true] at w; exact ⟨.inl w.1, .inl w.2⟩
    · exact ⟨.inr w, .inr w⟩
  cases x <;> cases y <;> first | exact q.elim | skip
  · obtain ⟨p, vs, rfl, hl, hs⟩ := seq_tup (k := k env) b
    obtain ⟨p2, ws, rfl, hl2, hs2⟩ := seq_tup (k := k2 env) b2
    exact ⟨p, p2, vs, ws, rfl, .inr ⟨hK ▸ (hs H2 O (Ext.refl _) (.inr (Ext.refl _))).1, hK ▸ (hs2 H2 O (Ext.refl _) (.inr (Ext.refl _))).1, q.one _ _ (hK ▸ yl_zipT hl hl2) fun H' O' e w => ⟨hs H' O' e (split w).1, hs2 H' O' e (split w).2⟩⟩⟩
  · obtain ⟨p, vs, rfl, hl, hs⟩ := seq_lst (k := k env) b kk
    obtain ⟨p2, ws, rfl, hl2, hs2⟩ := seq_lst (k := k2 env) b2 kk2
    exact ⟨p, p2, vs, ws, rfl, .inl ⟨hK ▸ (hs H2 O (Ext.refl _) (.inr (Ext.refl _))).1, hK ▸ (hs2 H2 O (Ext.refl _) (.inr (Ext.refl _))).1, q.one _ _ (hK ▸ yl_zip hl hl2) fun H' O' e w => ⟨hs H' O' e (split w).1, hs2 H' O' e (split w).2⟩⟩⟩
end
end Dx
namespace Dx
variable [Nm]
open PySem PySem.Spec L2
namespace Res
theorem bind_eq_ok {α β : Type} {r : Res α} {f : α → Res β} {b : β} (h : (r >>= f) = .ok b) : ∃ a, r = .ok a ∧ f a = .ok b := by
  cases r with
  | ok a => exact ⟨a, rfl, h⟩
  | exc n => cases h
  | bad => cases h
theorem ite_ok {α : Type} {c : Prop} [Decidable c] {r : Res α} {a : α} (h : (if c then r else .bad) = .ok a) : c ∧ r = .ok a := by
  by_cases hc : c
  · rw [if_pos hc] at h; exact ⟨hc, h⟩
  · rw [if_neg hc] at h; cases h
end Res
theorem wipe_in {σ : L2.St} {i : Nat} : ∀ {vs : List Nat}, i ∈ vs → (wipe σ vs).set i none = wipe σ vs
  | [], h => by simp at h
  | v :: vs, h => by
    unfold wipe
    by_cases hv : i = v
    · subst hv; rw [List.set_set]
    · rcases List.mem_cons.mp h with e | h
      · exact absurd e hv
      · rw [List.set_comm _ _ (fun z => hv z.symm), wipe_in h]
theorem wipe_sub {σ : L2.St} {ws : List Nat} : ∀ {vs : List Nat}, (∀ v ∈ vs, v ∈ ws) → wipe (wipe σ ws) vs = wipe σ ws
  | [], _ => rfl
  | v :: vs, h => by
    show (wipe (wipe σ ws) vs).set v none = wipe σ ws
    rw [wipe_sub fun u hu => h u (List.mem_cons_of_mem _ hu), wipe_in (h v List.mem_cons_self)]
section
variable {M : MatC} {T : List Addr} {Ev : Nat → Hp → Prop}
abbrev NoEv : Nat → Hp → Prop := fun _ _ => False
theorem lcT_ok {t : Tg} {fc : DEnv → Res Bool} {fe : DEnv → Res D} {ke : DEnv → Bool} {d : D} {env : DEnv} {o : Option D} (h : lcT t fc fe ke d env = .ok o) :
    ∃ env1 b, tgD t d env = .ok env1 ∧ fc env1 = .ok b ∧ if b = true then ke env1 = true ∧ ∃ x, fe env1 = .ok x ∧ o = some x else o = none := by
  obtain ⟨env1, h1, h⟩ := Res.bind_eq_ok (noExc_of h)
  obtain ⟨b, h2, h⟩ := Res.bind_eq_ok h
  refine ⟨env1, b, h1, h2, ?_⟩
  cases b with
  | true =>
    obtain ⟨h3, h⟩ := Res.ite_ok (c := ke env1 = true) h
    obtain ⟨x, h4, h⟩ := Res.bind_eq_ok h
    cases h
    exact ⟨h3, x, h4, rfl⟩
  | false => cases h; rfl
theorem turns_cons {f : D → DEnv → Res (Option D)} {env : DEnv} {d : D} {ds : List D} {β : Type} {g : List D → Res β} {H : Hp} {P : β → Hp → Prop} (hf : ∀ n, f d env ≠ .exc n) (h : After Ev (turns f env (d :: ds) >>= g) H P) :
    ∃ o, f d env = .ok o ∧ After Ev (turns f env ds >>= fun r => g (match o with | some x => x :: r | none => r)) H P := by
  have h : After Ev (((f d env).bind fun o => (turns f env ds).bind fun r => .ok (match o with | some x => x :: r | none => r)) >>= g) H P := h
  cases e : f d env with
  | ok o =>
    rw [e] at h
    refine ⟨o, rfl, ?_⟩
    cases e2 : turns f env ds with
    | ok r => rw [e2] at h; exact h
    | exc n => rw [e2] at h; exact h
    | bad => rw [e2] at h; exact h
  | exc n => exact absurd e (hf n)
  | bad => rw [e] at h; exact h.elim
theorem lc_inner {t : Tg} {fc : DEnv → Res Bool} {fe : DEnv → Res D} {ke : DEnv → Bool} {vs : List Nat} (hv : ∀ n ∈ tgN t, n ∈ vs) {σ : L2.St} {H₀ H H1 : Hp} {B O : Addr → Bool} {env : DEnv} {ds : List D} {J : L2.It} {Src : Hp → (Addr → Bool) → Prop} {Q : VK} (R1 : EnvR M T H₀ B O σ H1 env) (e1 : Ext H H1)
    (Y : Yl M J ds Src) (hsrc : ∀ H' O', Ext (hide H1 O) (hide H' O') → Ext H1 H' → Src H' O') (hfit : ds.length ≤ sizeLine) (q : After Ev (turns (lcT t fc fe ke) (wipeE env vs) ds >>= fun r => ownOf (.lst r)) H1 (NewP M H O Q)) (L : Addr) (hL : H1 L = none) :
    ∃ W : Nat → Nat → Hp → Prop, (∃ m, W 0 m (upd H1 L (.lst []))) ∧ ∀ i m H, W i m H →
  (J.stop i H ∧ Q (.ref L) H) ∨ (J.go i H ∧ ∃ Nx : Hp → Prop, (∀ H', Nx H' → ∃ m', m' < m ∧ W (i + 1) m' H') ∧ ∀ x H', J.yld i H x H' → tG M T t x (wipe σ vs) H' fun σ2 H2 => wipe σ2 vs = wipe σ vs ∧ tT M T NoEv fc σ2 H2 fun b H3 =>
    if b = true then tE M T NoEv fe ke σ2 H3 fun y H4 => ∃ acc, H4 L = some (.lst acc) ∧ acc.length < sizeLine ∧ Nx (upd H4 L (.lst (acc ++ [y]))) else Nx H3) := by
  have hL0 : H L = none := e1.free hL
  refine ⟨fun i m Hi => m = ds.length - i ∧ i ≤ ds.length ∧ ∃ acc ws, Hi L = some (.lst ws) ∧ Ext H1 Hi ∧ RpL M (hide Hi (plus O L)) acc ws ∧ acc.length ≤ i ∧ After Ev (turns (lcT t fc fe ke) (wipeE env vs) (ds.drop i) >>= fun r => ownOf (.lst (acc ++ r))) H1 (NewP M H O Q),
    ⟨_, rfl, Nat.zero_le _, [], [], upd_same, Ext.new hL, .nil, Nat.le_refl _, q⟩, ?_⟩
  rintro i m Hi ⟨rfl, hi, acc, ws, hD, eHi, racc, hacc, qi⟩
  have hx : Ext (hide H1 O) (hide Hi (plus O L)) := hide_new2 eHi hL
  have Ri := R1.more eHi hL ⟨_, hD, rfl⟩
  have src := hsrc Hi (plus O L) hx eHi
  rcases Nat.lt_or_ge i ds.length with hlt | hge
  · right
    refine ⟨Y.go i Hi _ src Ri.trk hlt, ?_⟩
    obtain ⟨d, hd⟩ : ∃ d, ds[i]? = some d := ⟨_, List.getElem?_eq_getElem hlt⟩
    have ed : ds.drop i = d :: ds.drop (i + 1) := by
      rw [List.drop_eq_getElem_cons hlt, (List.getElem?_eq_some_iff.mp hd).2]
    rw [ed] at qi
    obtain ⟨o, ho, qi⟩ := turns_cons (fun n => noExc_ne) qi
    obtain ⟨env3, b, ht, hb, hrest⟩ := lcT_ok ho
    refine ⟨fun Hn => ∃ acc ws, Hn L = some (.lst ws) ∧ Ext H1 Hn ∧ RpL M (hide Hn (plus O L)) acc ws ∧ acc.length ≤ i + 1 ∧ After Ev (turns (lcT t fc fe ke) (wipeE env vs) (ds.drop (i + 1)) >>= fun r => ownOf (.lst (acc ++ r))) H1 (NewP M H O Q),
      fun Hn ⟨a2, w2, n1, n2, n3, n4, n5⟩ => ⟨ds.length - (i + 1), by omega, rfl, by omega, a2, w2, n1, n2, n3, n4, n5⟩, fun x H2 hy => ?_⟩
    obtain ⟨ey, ry⟩ := Y.yld i Hi _ d x H2 src Ri.trk hd hy
    have R2 := (Ri.mono ey).wipe vs
    refine ⟨H₀, B, plus O L, wipeE env vs, d, env3, R2, ry, ht, fun σ3 R3 s3 => ⟨by rw [s3 vs hv, wipe_sub fun _ z => z], H₀, B, plus O L, env3, R3, ?_⟩⟩
    rw [hb]
    intro H3 e3
    have e13 : Ext Hi H3 := ey.trans e3
    cases b with
    | false =>
      have hrest : o = none := hrest
      subst hrest
      exact ⟨acc, ws, e13.keep L _ hD (fun ps z => nomatch z), eHi.trans e13, RpL.mono (e13.hide _) acc racc, by omega, qi⟩
    | true =>
      obtain ⟨hke, y, hy2, rfl⟩ := hrest
      refine ⟨H₀, B, plus O L, env3, R3.mono e3, ?_⟩
      rw [hy2]
      intro H4 e4 v bv kv
      have e14 : Ext Hi H4 := e13.trans e4
      have hD4 : H4 L = some (.lst ws) := e14.keep L _ hD fun ps z => nomatch z
      have hpl : plus O L L = true := by simp [plus]
      refine ⟨ws, hD4, by rw [racc.length]; omega, acc ++ [y], ws ++ [v], upd_same, (eHi.trans e14).mut hL (fun phi z => by rw [hD4] at z; cases z), ?_, by rw [List.length_append]; simp; omega, ?_⟩
      · rw [hide_upd hpl rfl hD4 rfl]
        exact (RpL.mono (e14.hide _) acc racc).append (.cons (kv hke) .nil)
      · have e : (fun r => ownOf (.lst (acc ++ y :: r))) = fun r => ownOf (.lst (acc ++ [y] ++ r)) := by
          funext r
          rw [List.append_assoc]; rfl
        have qi : After Ev (turns (lcT t fc fe ke) (wipeE env vs) (ds.drop (i + 1)) >>= fun r => ownOf (.lst (acc ++ y :: r))) H1 (NewP M H O Q) := qi
        rw [e] at qi
        exact qi
  · left
    have ei : i = ds.length := Nat.le_antisymm hi hge
    subst ei
    rw [List.drop_length] at qi
    have qi : NewP M H O Q (.own (acc ++ [])) Hi := qi Hi eHi
    rw [List.append_nil] at qi
    exact ⟨Y.stop Hi _ src Ri.trk, qi L hL0 ⟨ws, hD, racc⟩⟩
theorem lc_read {fi : DEnv → Res (List D)} {k : DEnv → Bool} {t : Tg} {fc : DEnv → Res Bool} {fe : DEnv → Res D} {ke : DEnv → Bool} {vs : List Nat} (hv : ∀ n ∈ tgN t, n ∈ vs) {σ : L2.St} {H : Hp} {Q : VK} (h : tN M T Ev (lcG fi t fc fe ke vs) σ H Q) :
    tLc (tI M T Ev fi k) (tG M T t) (tT M T NoEv fc) (tE M T NoEv fe ke) vs σ H Q := by
  obtain ⟨H₀, B, O, env, R, h⟩ := h
  have h : After Ev ((fi env >>= fun ds => (if fits ds.length = true then turns (lcT t fc fe ke) (wipeE env vs) ds >>= fun r => .ok (.lst r) else .bad : Res D)) >>= ownOf) H (NewP M H O Q) := h
  rw [Res.bind_assoc] at h
  refine ⟨H₀, B, O, env, R, After.mono (After.bind h) (Ext.refl H) fun ds H1 e1 _ q J Src Y hsrc L hL => ?_⟩
  obtain ⟨hfit, q⟩ := After.iteO q
  rw [Res.bind_assoc] at q
  exact lc_inner hv (R.mono e1) e1 Y (fun H' O' x y => hsrc H' O' x (.inr y)) (fits_le hfit) q L hL
theorem dtests_nil {X : Cx} : PTs X [] (tT M T Ev fun _ => .ok true) := ⟨fun pins s σ H Q I ⟨H₀, B, O, env, R, h⟩ => pts_nil.run pins s σ H Q I h.one⟩
theorem dtests_one {X : Cx} {c : PySem.Expr} {f : DEnv → Res Bool} (h : PT X c (tT M T Ev f)) : PTs X [c] (tT M T Ev f) := pts_one h
theorem dn_lc {X : Cx} {elt tg iter : PySem.Expr} {ifs : List PySem.Expr} {scope : Scope} {own : List (Str × Nat)} {pos : Pos} {fi : DEnv → Res (List D)} {k : DEnv → Bool} {t : Tg} {fc : DEnv → Res Bool} {fe : DEnv → Res D} {ke : DEnv → Bool}
    (hv : ∀ n ∈ tgN t, n ∈ own.map (·.2)) (hc : X.calm = true) (hN : X.N.Nodup) (hi : PI X tg iter (tI M T Ev fi k)) (ok : BlkOk X.N X.env.scope scope own)
    (hg : ∀ (s : Shared) (H : Hp) (C : Addr) (cl : List (Str × Addr)) (fp : List Addr), PG (X.blk s H scope (compEnvC scope cl C X.env) fp) tg (tG M T t)) (ht : ∀ (s : Shared) (H : Hp) (C : Addr) (cl : List (Str × Addr)) (fp : List Addr), PTs (X.blk s H scope (compEnvC scope cl C X.env) fp) ifs (tT M T NoEv fc))
    (he : ∀ (s : Shared) (H : Hp) (C : Addr) (cl : List (Str × Addr)) (fp : List Addr), PE (X.blk s H scope (compEnvC scope cl C X.env) fp) elt (tE M T NoEv fe ke)) (hs : ∀ x, foldedSetIterable iter X.env x = pure x) :
    PE X (.ListComp elt [⟨tg, iter, ifs, 0⟩] scope pos) (tN M T Ev (lcG fi t fc fe ke (own.map (·.2)))) :=
  pe_weak (pe_lc hc hN hi ok hg ht he hs) fun σ H Q q => lc_read hv q
theorem lc_own {fi : DEnv → Res (List D)} {t : Tg} {fc : DEnv → Res Bool} {fe : DEnv → Res D} {ke : DEnv → Bool} {vs : List Nat} : ∀ env d, lcG fi t fc fe ke vs env = .ok d → ∃ s, ownOf d = .ok s := by
  intro env d h
  obtain ⟨ds, _, h⟩ := Res.bind_eq_ok h
  obtain ⟨_, h⟩ := Res.ite_ok h
  obtain ⟨r, _, h⟩ := Res.bind_eq_ok h
  cases h
  exact ⟨_, rfl⟩
/-- name = [..], one's own list -/
theorem ds_newLc {X : Cx} {i : Nat} {y : Str} {py : Pos} {elt tg iter : PySem.Expr} {ifs : List PySem.Expr} {scope : Scope} {own : List (Str × Nat)} {pos spos : Pos} {fi : DEnv → Res (List D)} {k : DEnv → Bool} {t : Tg} {fc : DEnv → Res Bool} {fe : DEnv → Res D} {ke : DEnv → Bool}
    (hv : ∀ n ∈ tgN t, n ∈ own.map (·.2)) (hc : X.calm = true) (hN : X.N.Nodup) (hy : X.N[i]? = some y) (hyl : X.env.scope.names.lookup y = some .local)
    (hsw : swapsWith (.ListComp elt [⟨tg, iter, ifs, 0⟩] scope pos) (some (.Name y py)) spos.line X.env = pure true) (hi : PI X tg iter (tI M T Ev fi k)) (ok : BlkOk X.N X.env.scope scope own)
    (hg : ∀ (s : Shared) (H : Hp) (C : Addr) (cl : List (Str × Addr)) (fp : List Addr), PG (X.blk s H scope (compEnvC scope cl C X.env) fp) tg (tG M T t)) (ht : ∀ (s : Shared) (H : Hp) (C : Addr) (cl : List (Str × Addr)) (fp : List Addr), PTs (X.blk s H scope (compEnvC scope cl C X.env) fp) ifs (tT M T NoEv fc))
    (he : ∀ (s : Shared) (H : Hp) (C : Addr) (cl : List (Str × Addr)) (fp : List Addr), PE (X.blk s H scope (compEnvC scope cl C X.env) fp) elt (tE M T NoEv fe ke)) (hs : ∀ x, foldedSetIterable iter X.env x = pure x) :
    PS X (.Assign [.Name y py] (.ListComp elt [⟨tg, iter, ifs, 0⟩] scope pos) spos) (tS M T Ev (newG (lcG fi t fc fe ke (own.map (·.2))) i)) := by
  refine ps_weak (ps_setLc hc hN hy hyl hsw hi ok hg ht he hs) fun D σ H h => ?_
  exact lc_read hv (new_read h)
/-- name = [..], a list for all -/
theorem ds_asgLc {X : Cx} {i : Nat} {y : Str} {py : Pos} {elt tg iter : PySem.Expr} {ifs : List PySem.Expr} {scope : Scope} {own : List (Str × Nat)} {pos spos : Pos} {fi : DEnv → Res (List D)} {k k2 : DEnv → Bool} {t : Tg} {fc : DEnv → Res Bool} {fe : DEnv → Res D} {ke : DEnv → Bool}
    (hv : ∀ n ∈ tgN t, n ∈ own.map (·.2)) (hc : X.calm = true) (hN : X.N.Nodup) (hy : X.N[i]? = some y) (hyl : X.env.scope.names.lookup y = some .local)
    (hsw : swapsWith (.ListComp elt [⟨tg, iter, ifs, 0⟩] scope pos) (some (.Name y py)) spos.line X.env = pure true) (hi : PI X tg iter (tI M T Ev fi k)) (ok : BlkOk X.N X.env.scope scope own)
    (hg : ∀ (s : Shared) (H : Hp) (C : Addr) (cl : List (Str × Addr)) (fp : List Addr), PG (X.blk s H scope (compEnvC scope cl C X.env) fp) tg (tG M T t)) (ht : ∀ (s : Shared) (H : Hp) (C : Addr) (cl : List (Str × Addr)) (fp : List Addr), PTs (X.blk s H scope (compEnvC scope cl C X.env) fp) ifs (tT M T NoEv fc))
    (he : ∀ (s : Shared) (H : Hp) (C : Addr) (cl : List (Str × Addr)) (fp : List Addr), PE (X.blk s H scope (compEnvC scope cl C X.env) fp) elt (tE M T NoEv fe ke)) (hs : ∀ x, foldedSetIterable iter X.env x = pure x) :
    PS X (.Assign [.Name y py] (.ListComp elt [⟨tg, iter, ifs, 0⟩] scope pos) spos) (tS M T Ev (asgG (lcG fi t fc fe ke (own.map (·.2))) k2 (.name i))) := by
  refine ps_weak (ps_setLc hc hN hy hyl hsw hi ok hg ht he hs) fun D σ H h => ?_
  have h := asg_read (te := tLc (tI M T Ev fi k) (tG M T t) (tT M T NoEv fc) (tE M T NoEv fe ke) (own.map (·.2))) h
  have h2 : tE M T Ev (lcG fi t fc fe ke (own.map (·.2))) k2 σ H (fun x H1 => gName i x σ H1 D.nx) := by
    obtain ⟨H₀, B, O, env, R, h⟩ := h
    refine ⟨H₀, B, O, env, R, After.mono h (Ext.refl H) fun d H1 e1 _ q v b kk => ?_⟩
    obtain ⟨H₀', B', O', env', d', env'', R', hd, ht, hq⟩ := q v b kk
    have ht : Res.ok (env'.set i (.sh d')) = Res.ok env'' := ht
    cases ht
    exact hq _ (R'.setSh hd i) fun vs h => wipe_set (h i (by simp [tgN]))
  exact lc_read hv (tN_tE lc_own h2)
end
end Dx
namespace Dx
variable [Nm]
open PySem PySem.Spec L2
def dU : HO → Bool
  | .dK _ => true
  | .dT _ => true
  | _ => false
/-- dicts may be locked or free; all else stays -/
def ExtD (H H' : Hp) : Prop := ∀ a o, H a = some o → (∀ ps, o ≠ .tbl ps) → H' a = some o ∨ ∃ u, dU u = true ∧ Rd H a u ∧ Rd H' a u
theorem dU_ne {u : HO} (h : dU u = true) : isExt u = false := by cases u <;> first | rfl | cases h
theorem dU_nophi {u : HO} (h : dU u = true) {H : Hp} {a : Addr} (e : H a = some u) : ∀ phi, H a ≠ some (.ext phi) := fun phi z => by
  rw [e] at z; cases z; cases h
theorem frz_nophi {u : HO} {od : Obj} {H : Hp} {a : Addr} (e : H a = some (.frz od u)) : ∀ phi, H a ≠ some (.ext phi) := fun phi z => by
  rw [e] at z; cases z
theorem ExtD.hide {H H' : Hp} (e : ExtD H H') (O : Addr → Bool) : ExtD (hide H O) (hide H' O) := fun a o h n => by
  obtain ⟨h1, h2⟩ := hide_some' h
  rcases e a o h2 n with q | ⟨u, q1, q2, q3⟩
  · exact .inl (hide_mk h1 q)
  · have hO : O a = false := by
      rcases h1 with h1 | h1
      · exact h1
      · exfalso
        rcases q2 with q | ⟨o', q⟩
        · rw [h2] at q; cases q
          rw [dU_ne q1] at h1; cases h1
        · rw [h2] at q; cases q; cases h1
    refine .inr ⟨u, q1, ?_, ?_⟩
    · unfold Rd; rw [hide_of hO]; exact q2
    · unfold Rd; rw [hide_of hO]; exact q3
theorem ExtD.plain {H H' : Hp} (e : ExtD H H') {a : Addr} {o : HO} (h : H a = some o) (n : ∀ ps, o ≠ .tbl ps) (hd : dU o = false) (hf : ∀ p u, o = .frz p u → dU u = false) : H' a = some o := by
  rcases e a o h n with q | ⟨u, q1, q2, _⟩
  · exact q
  · exfalso
    rcases q2 with q | ⟨p, q⟩
    · rw [h] at q; cases q; rw [hd] at q1; cases q1
    · rw [h] at q; cases q; rw [hf p u rfl] at q1; cases q1
theorem ExtD.dct {H H' : Hp} (e : ExtD H H') {a : Addr} {u : HO} (hd : dU u = true) (h : Rd H a u) : Rd H' a u := by
  have nt : ∀ ps, u ≠ .tbl ps := fun ps z => by rw [z] at hd; cases hd
  rcases h with h | ⟨o, h⟩
  · rcases e a u h nt with q | ⟨w, q1, q2, q3⟩
    · exact .inl q
    · have : w = u := by
        rcases q2 with q | ⟨p, q⟩
        · rw [h] at q; cases q; rfl
        · rw [h] at q; cases q; cases hd
      rw [← this]; exact q3
  · rcases e a _ h (fun ps z => nomatch z) with q | ⟨w, q1, q2, q3⟩
    · exact .inr ⟨o, q⟩
    · have : w = u := by
        rcases q2 with q | ⟨p, q⟩
        · rw [h] at q; cases q; cases q1
        · rw [h] at q; cases q; rfl
      rw [← this]; exact q3
mutual
theorem Rp.monoD {M : MatC} {H H' : Hp} (e : ExtD H H') : ∀ (d : D) {v : V}, Rp M H d v → Rp M H' d v
  | .non, _, h => h
  | .bl _, _, h => h
  | .int _, _, h => h
  | .str _, _, h => h
  | .ftup ds, v, h => by
    unfold Rp at h ⊢
    obtain ⟨a, vs, o, h1, h0, h2, h3⟩ := h
    exact ⟨a, vs, o, h1, h0, e.plain h2 (fun ps z => nomatch z) rfl (fun p u z => by cases z; rfl), RpL.monoD e ds h3⟩
  | .tup ds, v, h => by
    unfold Rp at h ⊢
    obtain ⟨a, vs, h1, h2, h3⟩ := h
    exact ⟨a, vs, h1, e.plain h2 (fun ps z => nomatch z) rfl (fun _ _ z => nomatch z), RpL.monoD e ds h3⟩
  | .lst ds, v, h => by
    unfold Rp at h ⊢
    obtain ⟨a, vs, h1, h2, h3⟩ := h
    exact ⟨a, vs, h1, e.plain h2 (fun ps z => nomatch z) rfl (fun _ _ z => nomatch z), RpL.monoD e ds h3⟩
  | .scr ds, v, h => by
    unfold Rp at h ⊢
    obtain ⟨a, vs, h1, h2, h3⟩ := h
    refine ⟨a, vs, h1, ?_, RpL.monoD e ds h3⟩
    rcases h2 with h2 | h2
    · rcases h2 with h2 | ⟨o, h2⟩
      · exact .inl (.inl (e.plain h2 (fun ps z => nomatch z) rfl (fun _ _ z => nomatch z)))
      · exact .inl (.inr ⟨o, e.plain h2 (fun ps z => nomatch z) rfl (fun _ _ z => by cases z; rfl)⟩)
    · exact .inr h2
  | .dct t ks vs, v, h => by
    unfold Rp at h ⊢
    obtain ⟨a, ws, h1, h2, h3⟩ := h
    refine ⟨a, ws, h1, RpL.monoD e vs h2, ?_⟩
    cases t with
    | false => obtain ⟨kvs, h4, h5⟩ := h3; exact ⟨kvs, e.dct rfl h4, h5⟩
    | true => obtain ⟨kvs, h4, h5⟩ := h3; exact ⟨kvs, e.dct rfl h4, h5⟩
  | .set ds, v, h => by
    unfold Rp at h ⊢
    obtain ⟨a, S, n, h1, h2, h3⟩ := h
    exact ⟨a, S, n, h1, e.plain h2 (fun ps z => nomatch z) rfl (fun _ _ z => nomatch z), h3⟩
  | .mat m b r, v, h => by
    unfold Rp at h ⊢
    obtain ⟨a, dx, fs, vm, vb, vr, h1, h2, h3, h4, h5, h6, h7, h8⟩ := h
    exact ⟨a, dx, fs, vm, vb, vr, h1, e.plain h2 (fun ps z => nomatch z) rfl (fun _ _ z => nomatch z), h3, h4, h5, Rp.monoD e m h6, Rp.monoD e b h7, Rp.monoD e r h8⟩
theorem RpL.monoD {M : MatC} {H H' : Hp} (e : ExtD H H') : ∀ (ds : List D) {vs : List V}, RpL M H ds vs → RpL M H' ds vs
  | [], _, h => h
  | d :: ds, vs, h => by
    unfold RpL at h ⊢
    obtain ⟨v, r, h1, h2, h3⟩ := h
    exact ⟨v, r, h1, Rp.monoD e d h2, RpL.monoD e ds h3⟩
end
theorem extD_lock {H : Hp} {d : Addr} {u : HO} {od : Obj} (h : H d = some u) (hd : dU u = true) : ExtD H (upd H d (.frz od u)) := fun a o ha _ => by
  by_cases e : a = d
  · subst e
    rw [h] at ha; cases ha
    exact .inr ⟨u, hd, .inl h, .inr ⟨od, upd_same⟩⟩
  · exact .inl (by rw [upd_ne e]; exact ha)
theorem extD_unlock {H : Hp} {d : Addr} {u : HO} {od : Obj} (h : H d = some (.frz od u)) (hd : dU u = true) : ExtD H (upd H d u) := fun a o ha _ => by
  by_cases e : a = d
  · subst e
    rw [h] at ha; cases ha
    exact .inr ⟨u, hd, .inr ⟨od, h⟩, .inl upd_same⟩
  · exact .inl (by rw [upd_ne e]; exact ha)
/-- the entry's heap with the lock -/
def lockH (H₀ : Hp) (d : Addr) (w : HO) : Hp := fun a => if a = d then (H₀ d).map (fun _ => w) else H₀ a
theorem lockH_ne {H₀ : Hp} {d a : Addr} {w : HO} (h : a ≠ d) : lockH H₀ d w a = H₀ a := if_neg h
theorem lockH_at {H₀ : Hp} {d : Addr} {w : HO} : lockH H₀ d w d = (H₀ d).map fun _ => w := if_pos rfl
section
variable {M : MatC} {T : List Addr} {Ev : Nat → Hp → Prop}
theorem ext_lock {H₀ H : Hp} {d : Addr} {u : HO} {od : Obj} (e : Ext H₀ H) (h : H d = some u) (hd : dU u = true) : Ext (lockH H₀ d (.frz od u)) (upd H d (.frz od u)) := by
  refine ⟨fun a o ha n => ?_, fun a ps ha => ?_⟩
  · by_cases ea : a = d
    · subst ea
      rw [lockH_at] at ha
      cases q : H₀ a with
      | none => rw [q] at ha; cases ha
      | some x => rw [q] at ha; cases ha; exact upd_same
    · rw [lockH_ne ea] at ha
      rw [upd_ne ea]
      exact e.keep a o ha n
  · by_cases ea : a = d
    · subst ea
      rw [lockH_at] at ha
      cases q : H₀ a with
      | none => rw [q] at ha; cases ha
      | some x => rw [q] at ha; cases ha
    · rw [lockH_ne ea] at ha
      rw [upd_ne ea]
      obtain ⟨ps', q1, q2⟩ := e.tab a ps ha
      refine ⟨ps', q1, fun t => TbOk.at (d := d) (fun c hc => upd_ne hc) (dU_nophi hd h) (q2 (TbOk.at (d := d) (fun c hc => (lockH_ne hc).symm) (fun phi z => ?_) t))⟩
      rw [lockH_at] at z
      cases q : H₀ d with
      | none => rw [q] at z; cases z
      | some x => rw [q] at z; cases z
theorem ext_unlock {H₀ H H' : Hp} {d : Addr} {u : HO} {od : Obj} (e0 : Ext H₀ H) (h : H d = some u) (hd : dU u = true) (hd' : H' d = some (.frz od u)) (e : Ext (lockH H₀ d (.frz od u)) H') : Ext H₀ (upd H' d u) := by
  have nt : ∀ ps, u ≠ .tbl ps := fun ps z => by rw [z] at hd; cases hd
  refine ⟨fun a o ha n => ?_, fun a ps ha => ?_⟩
  · by_cases ea : a = d
    · subst ea
      have := e0.keep a o ha n
      rw [h] at this; cases this
      exact upd_same
    · rw [upd_ne ea]
      exact e.keep a o (by rw [lockH_ne ea]; exact ha) n
  · by_cases ea : a = d
    · subst ea
      obtain ⟨ps', q, _⟩ := e0.tab a ps ha
      rw [h] at q; cases q
      exact absurd rfl (nt ps')
    · rw [upd_ne ea]
      obtain ⟨ps', q1, q2⟩ := e.tab a ps (by rw [lockH_ne ea]; exact ha)
      refine ⟨ps', q1, fun t => TbOk.at (d := d) (fun c hc => upd_ne hc) (frz_nophi hd') (q2 (TbOk.at (d := d) (fun c hc => lockH_ne hc) (fun phi z => ?_) t))⟩
      have := e0.code d phi z
      rw [h] at this; cases this; cases hd
theorem OwnAt.monoD {H H' Hv Hv' : Hp} {a : Addr} {s : Slot} (e : H' a = H a) (e' : ExtD Hv Hv') (h : OwnAt M H Hv a s) : OwnAt M H' Hv' a s := by
  cases s with
  | none => exact h
  | sh d => exact h
  | own ds =>
    obtain ⟨vs, h1, h2⟩ := h
    exact ⟨vs, by rw [e]; exact h1, RpL.monoD e' ds h2⟩
  | ownD t ks vs =>
    cases t with
    | false =>
      obtain ⟨kvs, h1, h2, h3⟩ := h
      exact ⟨kvs, by rw [e]; exact h1, h2, RpL.monoD e' vs h3⟩
    | true =>
      obtain ⟨kvs, h1, h2, h3⟩ := h
      exact ⟨kvs, by rw [e]; exact h1, h2, RpL.monoD e' vs h3⟩
theorem EnvR.lock {H₀ H : Hp} {B O : Addr → Bool} {σ : L2.St} {env : DEnv} (R : EnvR M T H₀ B O σ H env) {d : Addr} {u : HO} (od : Obj) (h : H d = some u) (hd : dU u = true) (hO : O d = false) : EnvR M T (lockH H₀ d (.frz od u)) B O σ (upd H d (.frz od u)) env where
  ext := ext_lock R.ext h hd
  sub := R.sub
  len := R.len
  sh := fun i x hi => by
    obtain ⟨v, h1, h2⟩ := R.sh i x hi
    exact ⟨v, h1, Rp.monoD ((extD_lock h hd).hide O) x h2⟩
  own := fun i s hi hs => by
    obtain ⟨a, h1, h2, h3, h4, h5⟩ := R.own i s hi hs
    have ea : a ≠ d := fun z => by rw [z, hO] at h3; cases h3
    exact ⟨a, h1, by rw [lockH_ne ea]; exact h2, h3, h4, h5.monoD (upd_ne ea) ((extD_lock h hd).hide O)⟩
  dis := R.dis
  tabs := fun P hP => by
    obtain ⟨ps, h1, h2⟩ := R.tabs P hP
    have ea : P ≠ d := fun z => by rw [z, h] at h1; cases h1; cases hd
    exact ⟨ps, by rw [upd_ne ea]; exact h1, TbOk.at (d := d) (fun c hc => upd_ne hc) (dU_nophi hd h) h2⟩
  trk := fun a h => by
    have ea : a ≠ d := fun z => by rw [z, hO] at h; cases h
    rw [upd_ne ea]; exact R.trk a h
theorem EnvR.unlock {H₀ H H' : Hp} {B O : Addr → Bool} {σ : L2.St} {env : DEnv} {d : Addr} {u : HO} {od : Obj} (R : EnvR M T (lockH H₀ d (.frz od u)) B O σ H' env) (e0 : Ext H₀ H) (h : H d = some u) (hd : dU u = true) (hw : H' d = some (.frz od u)) (hO : O d = false) : EnvR M T H₀ B O σ (upd H' d u) env where
  ext := ext_unlock e0 h hd hw R.ext
  sub := R.sub
  len := R.len
  sh := fun i x hi => by
    obtain ⟨v, h1, h2⟩ := R.sh i x hi
    exact ⟨v, h1, Rp.monoD ((extD_unlock hw hd).hide O) x h2⟩
  own := fun i s hi hs => by
    obtain ⟨a, h1, h2, h3, h4, h5⟩ := R.own i s hi hs
    have ea : a ≠ d := fun z => by rw [z, hO] at h3; cases h3
    exact ⟨a, h1, by rw [lockH_ne ea] at h2; exact h2, h3, h4, h5.monoD (upd_ne ea) ((extD_unlock hw hd).hide O)⟩
  dis := R.dis
  tabs := fun P hP => by
    obtain ⟨ps, h1, h2⟩ := R.tabs P hP
    have ea : P ≠ d := fun z => by rw [z, hw] at h1; cases h1
    exact ⟨ps, by rw [upd_ne ea]; exact h1, TbOk.at (d := d) (fun c hc => upd_ne hc) (frz_nophi hw) h2⟩
  trk := fun a h => by
    have ea : a ≠ d := fun z => by rw [z, hO] at h; cases h
    rw [upd_ne ea]; exact R.trk a h
theorem step_unlock {H H' : Hp} {O O' : Addr → Bool} {d : Addr} {u : HO} {od : Obj} (h : H d = some u) (hd : dU u = true) (hO : O d = false) (e : Ext (hide (upd H d (.frz od u)) O) (hide H' O')) :
    H' d = some (.frz od u) ∧ O' d = false ∧ Ext (hide H O) (hide (upd H' d u) O') := by
  have nt : ∀ ps, u ≠ .tbl ps := fun ps z => by rw [z] at hd; cases hd
  have k := hide_some (e.keep d (.frz od u) (by rw [hide_of hO]; exact upd_same) fun ps z => nomatch z)
  refine ⟨k.2, k.1, fun a o ha n => ?_, fun a ps ha => ?_⟩
  · obtain ⟨h1, h2⟩ := hide_some' ha
    by_cases ea : a = d
    · subst ea
      rw [h] at h2; cases h2
      rw [hide_of k.1]; exact upd_same
    · obtain ⟨q1, q2⟩ := hide_some' (e.keep a o (hide_mk h1 (by rw [upd_ne ea]; exact h2)) n)
      exact hide_mk q1 (by rw [upd_ne ea]; exact q2)
  · obtain ⟨h1, h2⟩ := hide_some ha
    by_cases ea : a = d
    · subst ea
      rw [h] at h2; cases h2
      exact absurd rfl (nt ps)
    · obtain ⟨ps', q1, q2⟩ := e.tab a ps (by rw [hide_of h1, upd_ne ea]; exact h2)
      have q := hide_some q1
      exact ⟨ps', by rw [hide_of q.1, upd_ne ea]; exact q.2, fun t => TbOk.hide.mpr (TbOk.at (d := d) (fun c hc => upd_ne hc) (frz_nophi k.2) (TbOk.hide.mp (q2 (TbOk.hide.mpr (TbOk.at (d := d) (fun c hc => upd_ne hc) (dU_nophi hd h) (TbOk.hide.mp t))))))⟩
abbrev lockD (D : Ends) (d : Addr) (od : Obj) (u : HO) : Ends := ⟨fun σ' H' => H' d = some (.frz od u) ∧ D.nx σ' (upd H' d u), fun v H' => H' d = some (.frz od u) ∧ D.rt v (upd H' d u), fun σ' H' => H' d = some (.frz od u) ∧ D.bk σ' (upd H' d u), fun σ' H' => H' d = some (.frz od u) ∧ D.ct σ' (upd H' d u)⟩
theorem EndS.lock {H₀ H : Hp} {B O : Addr → Bool} {D : Ends} {r : Res Out} {d : Addr} {u : HO} (od : Obj) (e0 : Ext H₀ H) (h : H d = some u) (hd : dU u = true) (hO : O d = false) (q : EndS M T Ev H₀ B O H D (noExc r)) :
    EndS M T Ev (lockH H₀ d (.frz od u)) B O (upd H d (.frz od u)) (lockD D d od u) (noExc r) := by
  cases r with
  | ok o =>
    cases o with
    | nx env =>
      exact fun σ' H' O' R' e => by
        obtain ⟨h1, h2, h3⟩ := step_unlock h hd hO e
        exact ⟨h1, q σ' _ O' (R'.unlock e0 h hd h1 h2) h3⟩
    | bk env =>
      exact fun σ' H' O' R' e => by
        obtain ⟨h1, h2, h3⟩ := step_unlock h hd hO e
        exact ⟨h1, q σ' _ O' (R'.unlock e0 h hd h1 h2) h3⟩
    | ct env =>
      exact fun σ' H' O' R' e => by
        obtain ⟨h1, h2, h3⟩ := step_unlock h hd hO e
        exact ⟨h1, q σ' _ O' (R'.unlock e0 h hd h1 h2) h3⟩
    | ret x =>
      exact fun v H' O' x1 e sb rx => by
        obtain ⟨h1, h2, h3⟩ := step_unlock h hd hO e
        exact ⟨h1, q v _ O' (ext_unlock e0 h hd h1 x1) h3 sb (Rp.monoD ((extD_unlock h1 hd).hide O') x rx)⟩
  | exc n => exact q
  | bad => exact q
theorem ps_or {X : Cx} {st : PySem.Stmt} {t t' : TS} (h : PS X st t) (h' : PS X st t') : PS X st fun D σ H => t D σ H ∨ t' D σ H := ⟨fun pins s σ H D I q => q.elim (h.run pins s σ H D I) (h'.run pins s σ H D I)⟩
theorem pe_or' {X : Cx} {st : PySem.Expr} {t t' : TE} (h : PE X st t) (h' : PE X st t') : PE X st fun σ H Q => t σ H Q ∨ t' σ H Q := ⟨fun pins s σ H Q I q => q.elim (h.run pins s σ H Q I) (h'.run pins s σ H Q I)⟩
/-! ### the keys, the items of a locked dict -/
theorem yl_keysK {d : Addr} {o : Obj} {kvs : List (Key × V)} : Yl M (Itk d o kvs) (kvs.map fun p => kD p.1) (fun H _ => H d = some (.frz o (.dK kvs))) where
  go := fun i H' O' h _ hi => ⟨h, by rw [List.length_map] at hi; exact hi⟩
  yld := fun i H' O' x v H2 h _ hx hy => by
    obtain ⟨rfl, k, w, hk, rfl⟩ := hy
    rw [List.getElem?_map, hk] at hx
    cases hx
    refine ⟨Ext.refl _, ?_⟩
    cases k <;> (unfold kD kV Rp; rfl)
  stop := fun H' O' h _ => ⟨h, by rw [List.length_map]; exact Nat.le_refl _⟩
theorem rpL_keys {H : Hp} : ∀ (k : List Key), RpL M H (k.map kD) (k.map kV)
  | [] => .nil
  | k :: ks => .cons (by cases k <;> (unfold kD kV Rp; rfl)) (rpL_keys ks)
theorem yl_keysT {d : Addr} {o : Obj} {kvs : List (List Key × V)} : Yl M (Itkt d o kvs) (kvs.map fun p => .tup (p.1.map kD)) (fun H _ => H d = some (.frz o (.dT kvs))) where
  go := fun i H' O' h _ hi => ⟨h, by rw [List.length_map] at hi; exact hi⟩
  yld := fun i H' O' x v H2 h t hx hy => by
    obtain ⟨rfl, k, w, q, hk, rfl, hq⟩ := hy
    rw [List.getElem?_map, hk] at hx
    cases hx
    refine ⟨Ext.refl _, ?_⟩
    unfold Rp
    exact ⟨q, _, rfl, by rw [hide_of (t.not hq rfl)]; exact hq, rpL_keys k⟩
  stop := fun H' O' h _ => ⟨h, by rw [List.length_map]; exact Nat.le_refl _⟩
theorem yl_itemsK {d : Addr} {o : Obj} {kvs : List (Key × V)} {vs : List D} : Yl M (Iti d o kvs) (zipL (kvs.map fun p => kD p.1) vs) (fun H O => H d = some (.frz o (.dK kvs)) ∧ RpL M (hide H O) vs (kvs.map (·.2))) where
  go := fun i H' O' h _ hi => ⟨h.1, by rw [zip_len, List.length_map] at hi; omega⟩
  yld := fun i H' O' x v H2 h t hx hy => by
    obtain ⟨Tp, k, w, hk, rfl, hp, rfl⟩ := hy
    obtain ⟨x1, y1, h1, h2, rfl⟩ := zip_get hx
    rw [List.getElem?_map, hk] at h1
    cases h1
    obtain ⟨w', h3, h4⟩ := h.2.get h2
    rw [List.getElem?_map, hk] at h3
    cases h3
    exact ⟨Ext.new hp, rp_pair t hp (by cases k <;> (unfold kD kV Rp; rfl)) h4⟩
  stop := fun H' O' h _ => ⟨h.1, by
    have := h.2.length
    rw [List.length_map] at this
    rw [zip_len, List.length_map]; omega⟩
theorem yl_itemsT {d : Addr} {o : Obj} {kvs : List (List Key × V)} {vs : List D} : Yl M (Itit d o kvs) (zipL (kvs.map fun p => .tup (p.1.map kD)) vs) (fun H O => H d = some (.frz o (.dT kvs)) ∧ RpL M (hide H O) vs (kvs.map (·.2))) where
  go := fun i H' O' h _ hi => ⟨h.1, by rw [zip_len, List.length_map] at hi; omega⟩
  yld := fun i H' O' x v H2 h t hx hy => by
    obtain ⟨Tp, k, w, q, hk, rfl, hp, hq, rfl⟩ := hy
    obtain ⟨x1, y1, h1, h2, rfl⟩ := zip_get hx
    rw [List.getElem?_map, hk] at h1
    cases h1
    obtain ⟨w', h3, h4⟩ := h.2.get h2
    rw [List.getElem?_map, hk] at h3
    cases h3
    refine ⟨Ext.new hp, rp_pair t hp ?_ h4⟩
    unfold Rp
    exact ⟨q, _, rfl, by rw [hide_of (t.not hq rfl)]; exact hq, rpL_keys k⟩
  stop := fun H' O' h _ => ⟨h.1, by
    have := h.2.length
    rw [List.length_map] at this
    rw [zip_len, List.length_map]; omega⟩
end
end Dx
namespace Dx
variable [Nm]
open PySem PySem.Spec L2
section
variable {M : MatC} {T : List Addr} {Ev : Nat → Hp → Prop}
/-- a dict that stands locked -/
def LckAt (M : MatC) (H : Hp) (O : Addr → Bool) (d : Addr) (t : Bool) (ks vs : List D) : Prop := match t with
  | false => ∃ (o : Obj) (kvs : List (Key × V)), H d = some (.frz o (.dK kvs)) ∧ ks = kvs.map (fun p => kD p.1) ∧ RpL M (hide H O) vs (kvs.map (·.2))
  | true => ∃ (o : Obj) (kvs : List (List Key × V)), H d = some (.frz o (.dT kvs)) ∧ ks = kvs.map (fun p => .tup (p.1.map kD)) ∧ RpL M (hide H O) vs (kvs.map (·.2))
def iDct (items : Bool) (td : TE) : TI := if items then (fun σ H R => iItems td σ H R ∨ iItemsT td σ H R) else iKeys td
theorem dct_read {items : Bool} {t : Bool} {ks vs : List D} {i : Nat} {d : Addr} {σ : L2.St} {H : Hp} {O : Addr → Bool} {R : L2.It → Hp → Prop} (hl : LckAt M H O d t ks vs) (hO : O d = false) (hs : σ[i]? = some (some (.ref d)))
    (h : ∀ J Src, Yl M J (dctL items ks vs) Src → (∀ H' O', Ext (hide H O) (hide H' O') → Src H' O') → R J H) : iDct items (tVar i) σ H R := by
  cases t with
  | false =>
    obtain ⟨o, kvs, h1, rfl, h3⟩ := hl
    have keep : ∀ H' O', Ext (hide H O) (hide H' O') → H' d = some (.frz o (.dK kvs)) := fun H' O' e => (hide_some (e.keep d (.frz o (.dK kvs)) (by rw [hide_of hO]; exact h1) fun ps z => nomatch z)).2
    cases items with
    | false => exact ⟨.ref d, hs, d, o, rfl, .inl ⟨kvs, h1, h _ _ yl_keysK keep⟩⟩
    | true => exact .inl ⟨.ref d, hs, d, o, kvs, rfl, h1, h _ _ yl_itemsK fun H' O' e => ⟨keep H' O' e, RpL.mono e vs h3⟩⟩
  | true =>
    obtain ⟨o, kvs, h1, rfl, h3⟩ := hl
    have keep : ∀ H' O', Ext (hide H O) (hide H' O') → H' d = some (.frz o (.dT kvs)) := fun H' O' e => (hide_some (e.keep d (.frz o (.dT kvs)) (by rw [hide_of hO]; exact h1) fun ps z => nomatch z)).2
    cases items with
    | false => exact ⟨.ref d, hs, d, o, rfl, .inr ⟨kvs, h1, h _ _ yl_keysT keep⟩⟩
    | true => exact .inr ⟨.ref d, hs, d, o, kvs, rfl, h1, h _ _ yl_itemsT fun H' O' e => ⟨keep H' O' e, RpL.mono e vs h3⟩⟩
/-- a shared dict: locked already, or free -/
theorem dct_cases {H : Hp} {O : Addr → Bool} {t : Bool} {ks vs : List D} {v : V} (h : Rp M (hide H O) (.dct t ks vs) v) : ∃ d, v = .ref d ∧ O d = false ∧ (LckAt M H O d t ks vs ∨ ∃ u, H d = some u ∧ dU u = true ∧ Mut (some u) ∧ ∀ od, LckAt M (upd H d (.frz od u)) O d t ks vs) := by
  unfold Rp at h
  obtain ⟨d, ws, rfl, h2, h3⟩ := h
  cases t with
  | false =>
    obtain ⟨kvs, h4, rfl, rfl⟩ := h3
    rcases h4 with h4 | ⟨o, h4⟩
    · obtain ⟨h5, h6⟩ := hide_some h4
      exact ⟨d, rfl, h5, .inr ⟨_, h6, rfl, trivial, fun od => ⟨od, kvs, upd_same, rfl, RpL.monoD ((extD_lock h6 rfl).hide O) vs h2⟩⟩⟩
    · obtain ⟨h5, h6⟩ := hide_some h4
      exact ⟨d, rfl, h5, .inl ⟨o, kvs, h6, rfl, h2⟩⟩
  | true =>
    obtain ⟨kvs, h4, rfl, rfl⟩ := h3
    rcases h4 with h4 | ⟨o, h4⟩
    · obtain ⟨h5, h6⟩ := hide_some h4
      exact ⟨d, rfl, h5, .inr ⟨_, h6, rfl, trivial, fun od => ⟨od, kvs, upd_same, rfl, RpL.monoD ((extD_lock h6 rfl).hide O) vs h2⟩⟩⟩
    · obtain ⟨h5, h6⟩ := hide_some h4
      exact ⟨d, rfl, h5, .inl ⟨o, kvs, h6, rfl, h2⟩⟩
theorem EndS.noExc {H₀ H : Hp} {B O : Addr → Bool} {D : Ends} {r : Res Out} (h : EndS M T Ev H₀ B O H D (Dx.noExc r)) : EndS M T Ev H₀ B O H D r := by
  cases r with
  | ok o => exact h
  | exc n => exact h.elim
  | bad => exact h
theorem ds_forD {X : Cx} {items : Bool} {i : Nat} {tg iter : PySem.Expr} {body : List PySem.Stmt} {pos : Pos} {t : Tg} {b : DEnv → Res Out} (hp : PassesOwn (model X.prog X.w) X.A X.env X.xe) (hc : X.calm = true)
    (hi : PI X tg iter (iDct items (tVar i))) (hg : PG X tg (tG M T t)) (hb : PSs X body (tS M T Ev b)) (hs : ∀ x, foldedSetIterable iter X.env x = pure x) : PS X (.For tg iter body [] pos) (tS M T Ev (forDG items i t b)) := by
  refine ps_weak (ps_or (ps_for hp hc hi hg hb hs) (ps_lock (ps_for hp hc hi hg hb hs))) fun D σ H ⟨H₀, B, O, env, R, h⟩ => ?_
  have h : EndS M T Ev H₀ B O H D (forDG items i t b env) := h
  unfold forDG at h
  split at h
  · rename_i tt ks vs hi
    obtain ⟨v, h1, h2⟩ := R.sh i _ hi
    obtain ⟨d, rfl, hO, hl | ⟨u, hu, hd, hm, hl⟩⟩ := dct_cases h2
    · left
      exact dct_read hl hO h1 fun J Src Y hsrc => for_inner R Y hsrc h.noExc
    · right
      refine ⟨d, u, hu, hm, fun od => ?_⟩
      exact dct_read (hl od) hO h1 fun J Src Y hsrc => for_inner (R.lock od hu hd hO) Y hsrc (EndS.lock od R.ext hu hd hO h).noExc
  · exact h.elim
theorem pi_dct {X : Cx} {i : Nat} {tg o : PySem.Expr} (h : PE X o (tVar i)) : PI X tg o (iDct false (tVar i)) := pi_keys h
theorem pi_dctI {X : Cx} {i : Nat} {o : PySem.Expr} {elts : List PySem.Expr} {kk : Nat} {tpos apos cpos : Pos} (h : PE X o (tVar i)) (hbase : attributeBase o "items" X.env (eval o X.env) = eval o X.env) (hline : (apos.endLine == cpos.line) = true) : PI X (.Tuple elts kk tpos) (.Call (.Attribute o "items" apos) [] [] cpos) (iDct true (tVar i)) :=
  PI.or (pi_items h hbase hline) (pi_itemsT h hbase hline)
/-! ### comprehensions over a dict -/
theorem turns_ne {f : D → DEnv → Res (Option D)} {env : DEnv} (hf : ∀ d n, f d env ≠ .exc n) : ∀ (ds : List D) (n : Nat), turns f env ds ≠ .exc n
  | [], n => fun z => nomatch z
  | d :: ds, n => fun z => by
    have z : ((f d env).bind fun o => (turns f env ds).bind fun r => .ok (match o with | some x => x :: r | none => r)) = .exc n := z
    cases e : f d env with
    | ok o =>
      rw [e] at z
      cases e2 : turns f env ds with
      | ok r => rw [e2] at z; cases z
      | exc m => exact turns_ne hf ds m e2
      | bad => rw [e2] at z; cases z
    | exc m => exact hf d m e
    | bad => rw [e] at z; cases z
theorem lcD_read {items : Bool} {i : Nat} {t : Tg} {fc : DEnv → Res Bool} {fe : DEnv → Res D} {ke : DEnv → Bool} {vs : List Nat} (hv : ∀ n ∈ tgN t, n ∈ vs) {σ : L2.St} {H : Hp} {Q : VK} (h : tN M T Ev (lcG (dctI items i) t fc fe ke vs) σ H Q) :
    tLc (iDct items (tVar i)) (tG M T t) (tT M T NoEv fc) (tE M T NoEv fe ke) vs σ H Q ∨ tLockE (tLc (iDct items (tVar i)) (tG M T t) (tT M T NoEv fc) (tE M T NoEv fe ke) vs) σ H Q := by
  obtain ⟨H₀, B, O, env, R, h⟩ := h
  have h : After Ev ((dctI items i env >>= fun ds => (if fits ds.length = true then turns (lcT t fc fe ke) (wipeE env vs) ds >>= fun r => .ok (.lst r) else .bad : Res D)) >>= ownOf) H (NewP M H O Q) := h
  unfold dctI at h
  split at h
  · rename_i tt ks ws hi
    have h : After Ev ((if fits (dctL items ks ws).length = true then turns (lcT t fc fe ke) (wipeE env vs) (dctL items ks ws) >>= fun r => .ok (.lst r) else .bad : Res D) >>= ownOf) H (NewP M H O Q) := h
    obtain ⟨hfit, h⟩ := After.iteO h
    have hfit := fits_le hfit
    rw [Res.bind_assoc] at h
    have h : After Ev (turns (lcT t fc fe ke) (wipeE env vs) (dctL items ks ws) >>= fun r => ownOf (.lst r)) H (NewP M H O Q) := h
    obtain ⟨v, h1, h2⟩ := R.sh i _ hi
    obtain ⟨d, rfl, hO, hl | ⟨u, hu, hd, hm, hl⟩⟩ := dct_cases h2
    · left
      exact dct_read hl hO h1 fun J Src Y hsrc L hL => lc_inner hv R (Ext.refl H) Y (fun H' O' x _ => hsrc H' O' x) hfit h L hL
    · right
      refine ⟨d, u, hu, hm, fun od => ?_⟩
      refine dct_read (hl od) hO h1 fun J Src Y hsrc L hL => lc_inner (Q := fun v H' => H' d = some (.frz od u) ∧ Q v (upd H' d u)) (fc := fc) (fe := fe) (ke := ke) (H := upd H d (.frz od u)) (Ev := Ev) hv (R.lock od hu hd hO) (Ext.refl _) Y (fun H' O' x _ => hsrc H' O' x) hfit ?_ L hL
      cases e : turns (lcT t fc fe ke) (wipeE env vs) (dctL items ks ws) with
      | ok r =>
        rw [e] at h
        intro H1 e1 p hp ho
        have h : After Ev (.ok (.own r)) H (NewP M H O Q) := h
        have hw : H1 d = some (.frz od u) := e1.keep d _ upd_same fun ps z => nomatch z
        have hpd : p ≠ d := fun z => by rw [z, upd_same] at hp; cases hp
        have hp0 : H p = none := by rw [upd_ne hpd] at hp; exact hp
        have e2 : Ext H (upd H1 d u) := by
          have x := R.ext
          refine ⟨fun a o ha n => ?_, fun a ps ha => ?_⟩
          · by_cases ea : a = d
            · subst ea; rw [hu] at ha; cases ha; exact upd_same
            · rw [upd_ne ea]; exact e1.keep a o (by rw [upd_ne ea]; exact ha) n
          · by_cases ea : a = d
            · subst ea; rw [hu] at ha; cases ha; cases hd
            · rw [upd_ne ea]
              obtain ⟨ps', q1, q2⟩ := e1.tab a ps (by rw [upd_ne ea]; exact ha)
              exact ⟨ps', q1, fun t => TbOk.at (d := d) (fun c hc => upd_ne hc) (frz_nophi hw) (q2 (TbOk.at (d := d) (fun c hc => upd_ne hc) (dU_nophi hd hu) t))⟩
        exact ⟨hw, h (upd H1 d u) e2 p hp0 (ho.monoD (upd_ne hpd) ((extD_unlock hw hd).hide _))⟩
      | exc n => exact absurd e (turns_ne (fun d n => noExc_ne) _ n)
      | bad => rw [e] at h; exact h.elim
  · exact h.elim
theorem dn_lcD {X : Cx} {items : Bool} {i : Nat} {elt tg iter : PySem.Expr} {ifs : List PySem.Expr} {scope : Scope} {own : List (Str × Nat)} {pos : Pos} {t : Tg} {fc : DEnv → Res Bool} {fe : DEnv → Res D} {ke : DEnv → Bool}
    (hv : ∀ n ∈ tgN t, n ∈ own.map (·.2)) (hc : X.calm = true) (hN : X.N.Nodup) (hi : PI X tg iter (iDct items (tVar i))) (ok : BlkOk X.N X.env.scope scope own)
    (hg : ∀ (s : Shared) (H : Hp) (C : Addr) (cl : List (Str × Addr)) (fp : List Addr), PG (X.blk s H scope (compEnvC scope cl C X.env) fp) tg (tG M T t)) (ht : ∀ (s : Shared) (H : Hp) (C : Addr) (cl : List (Str × Addr)) (fp : List Addr), PTs (X.blk s H scope (compEnvC scope cl C X.env) fp) ifs (tT M T NoEv fc))
    (he : ∀ (s : Shared) (H : Hp) (C : Addr) (cl : List (Str × Addr)) (fp : List Addr), PE (X.blk s H scope (compEnvC scope cl C X.env) fp) elt (tE M T NoEv fe ke)) (hs : ∀ x, foldedSetIterable iter X.env x = pure x) :
    PE X (.ListComp elt [⟨tg, iter, ifs, 0⟩] scope pos) (tN M T Ev (lcG (dctI items i) t fc fe ke (own.map (·.2)))) :=
  pe_weak (pe_or' (pe_lc hc hN hi ok hg ht he hs) (pe_lock (pe_lc hc hN hi ok hg ht he hs))) fun σ H Q q => lcD_read hv q
end
end Dx
namespace Dx
variable [Nm]
open PySem PySem.Spec L2
section
variable {M : MatC} {T : List Addr} {Ev : Nat → Hp → Prop}
/-! ### a def by its plain function -/
def EvOf (cls : Nat → Addr) (E : XK) : Nat → Hp → Prop := fun n H => E (.ref (cls n)) none H
/-- a def's promise: n values, the plain function g -/
def spD (M : MatC) (T : List Addr) (cls : Nat → Addr) (n : Nat) (g : List D → Res D) : Sp := fun vs H Q E => vs.length = n ∧ ∃ ds O, RpL M (hide H O) ds vs ∧ Trk O H ∧ (∀ P ∈ T, ∃ ps, H P = some (.tbl ps) ∧ TbOk H ps) ∧
  After (EvOf cls E) (g ds) H fun d H1 => ∀ v, Rp M (hide H1 O) d v → Q v H1
theorem call_read {cls : Nat → Addr} {E : XK} {n : Nat} {G h : List D → Res D} {dd : List D} {dvs : List V} {g : DEnv → Res (List D)} {kl k' : DEnv → Bool} (hn : ∀ ds, G ds ≠ .bad → ds.length = n) (hdd : ∀ H, RpL M H dd dvs) (hh : ∀ ds, h ds = G (ds ++ dd)) {σ : L2.St} {H : Hp} {Q : VK}
    (q : tE M T (EvOf cls E) (callG kl g h) k' σ H Q) : tCall (spD M T cls n G) dvs E (tL M T (EvOf cls E) g kl) σ H Q := by
  obtain ⟨H₀, B, O, env, R, q⟩ := q
  obtain ⟨hk, q⟩ := After.ite (c := kl env = true) q
  refine ⟨H₀, B, O, env, R, After.mono (After.bind q) (Ext.refl H) fun ds H1 e1 _ q vs b kk => ?_⟩
  have r := (kk hk).append (hdd (hide H1 O))
  rw [hh] at q
  have hb : G (ds ++ dd) ≠ .bad := fun z => by rw [z] at q; exact q.elim
  refine ⟨by rw [r.length]; exact hn _ hb, ds ++ dd, O, r, Trk.mono R.trk e1, (R.mono e1).tabs, After.mono q (Ext.refl H1) fun d H2 _ _ p v rv => p v rv.br fun _ => rv⟩
theorem de_call {X : Cx} {CX : CXT} {cls : Nat → Addr} {E : XK} {n k : Nat} {f : Addr} {fd : FuncData} {ps : List Str} {G h : List D → Res D} {dd : List D} {dvs : List V} {dsv : List Value} {x : Str} {e : PySem.Expr} {es : List PySem.Expr} {p pos : Pos} {g : DEnv → Res (List D)} {kl k' : DEnv → Bool}
    (F : FnOk X.prog X.w X.K X.mg X.base CX k f fd ps (spD M T cls n G)) (hr : Room k X.A) (hg : Gl X x) (hm : X.mg x = some (.ref f)) (hkp : PySem.W.keepIn X.K (.ref f) = true) (hb : Binds X.K fd ps dsv) (hd : Vals dvs dsv) (hx : Passes CX X E)
    (hn : ∀ ds, G ds ≠ .bad → ds.length = n) (hdd : ∀ H, RpL M H dd dvs) (hh : ∀ ds, h ds = G (ds ++ dd))
    (ha : PA X (e :: es) (tL M T (EvOf cls E) g kl)) (hdb : (x == ("__debug__" : Str)) = false) (he : starEach (e :: es) X.env = (false, eval e X.env) :: starEach es X.env) (hpl : (backTo pos (starEach es X.env)).any (·.1) = false) :
    PE X (.Call (.Name x p) (e :: es) [] pos) (tE M T (EvOf cls E) (callG kl g h) k') :=
  pe_weak (pe_call F hr hg hm hkp hb hd hx ha hdb he hpl) fun σ H Q q => call_read hn hdd hh q
theorem de_call0 {X : Cx} {CX : CXT} {cls : Nat → Addr} {E : XK} {n k : Nat} {f : Addr} {fd : FuncData} {ps : List Str} {G h : List D → Res D} {dd : List D} {dvs : List V} {dsv : List Value} {x : Str} {p pos : Pos} {k' : DEnv → Bool}
    (F : FnOk X.prog X.w X.K X.mg X.base CX k f fd ps (spD M T cls n G)) (hr : Room k X.A) (hg : Gl X x) (hm : X.mg x = some (.ref f)) (hkp : PySem.W.keepIn X.K (.ref f) = true) (hb : Binds X.K fd ps dsv) (hd : Vals dvs dsv) (hx : Passes CX X E)
    (hn : ∀ ds, G ds ≠ .bad → ds.length = n) (hdd : ∀ H, RpL M H dd dvs) (hh : ∀ ds, h ds = G (ds ++ dd)) (hdb : (x == ("__debug__" : Str)) = false) :
    PE X (.Call (.Name x p) [] [] pos) (tE M T (EvOf cls E) (callG (fun _ => true) (fun _ => .ok []) h) k') := by
  refine pe_weak (pe_call0 F hr hg hm hkp hb hd hx hdb) fun σ H Q q => ?_
  obtain ⟨H₀, B, O, env, R, q⟩ := call_read (kl := fun _ => true) (g := fun _ => .ok []) hn hdd hh q
  exact q.one [] rfl fun _ => .nil
/-! ### methods of the built-in things -/
theorem de_get {X : Cx} {d e x : PySem.Expr} {apos cpos : Pos} {fd fk fx : DEnv → Res D} {kd kk kx k' : DEnv → Bool} (hu : X.A.units + 1 < cLine) (hd : PE X d (tE M T Ev fd kd)) (hk : PE X e (tE M T Ev fk kk)) (hx : PE X x (tE M T Ev fx kx)) (m : M2 X d "get" apos e x cpos) :
    PE X (.Call (.Attribute d "get" apos) [e, x] [] cpos) (tE M T Ev (getG kx fd fk fx) k') := by
  refine pe_weak (pe_dget2 hu hd hk hx m) fun σ H Q ⟨H₀, B, O, env, R, q⟩ => ?_
  obtain ⟨hkx, q⟩ := After.ite (c := kx env = true) q
  refine ⟨H₀, B, O, env, R, After.mono (After.bind q) (Ext.refl H) fun dd H1 e1 _ q v b _ => ?_⟩
  cases dd with
  | dct t ks vs =>
    have b0 := b
    obtain ⟨a, ws, rfl, hw, hb⟩ := b
    refine ⟨a, rfl, ?_, H₀, B, O, env, R.mono e1, After.mono (After.bind q) (Ext.refl H1) fun y H2 e2 _ q v2 b2 _ => ?_⟩
    · cases t with
      | false => obtain ⟨kvs, h1, _⟩ := hb; exact .inl ⟨kvs, h1⟩
      | true => obtain ⟨kvs, h1, _⟩ := hb; exact .inr ⟨kvs, h1⟩
    · refine ⟨H₀, B, O, env, R.mono (e1.trans e2), After.mono (After.bind q) (Ext.refl H2) fun z H3 e3 _ q v3 b3 kk3 => ?_⟩
      obtain ⟨hf, q⟩ := After.ite q
      obtain ⟨a', o, ea, hg, ho, hfind⟩ := dget_of (b0.mono (e2.trans e3)) (b2.mono e3) hf
      cases ea
      refine ⟨o, hg, ?_⟩
      cases hi : findK ks y with
      | none =>
        rw [hi] at q ho
        cases o with
        | none => exact q.one v3 b3 fun _ => kk3 hkx
        | some w => cases ho
      | some i =>
        rw [hi] at q
        obtain ⟨dv, w, h1, rfl, h3⟩ := hfind i hi
        have q : After Ev (optR vs[i]?) H3 _ := q
        rw [h1] at q
        exact q.one w h3.br fun _ => h3
  | _ => exact q.elim
theorem strs_of {H : Hp} : ∀ {ds : List D} {vs : List V} {ws : List Str}, RpL M H ds vs → strsD ds = some ws → vs = ws.map V.str
  | [], vs, ns, h, e => by unfold RpL at h; cases e; exact h
  | d :: ds, vs, ns, h, e => by
    unfold RpL at h
    obtain ⟨v, r, rfl, h2, h3⟩ := h
    cases d <;> first | cases e | skip
    rename_i i
    unfold strsD at e
    cases q : strsD ds with
    | none => rw [q] at e; cases e
    | some ms =>
      rw [q] at e; cases e
      have hv : v = .str i := by unfold Rp at h2; exact h2
      rw [hv, strs_of h3 q]; rfl
theorem de_join {X : Cx} {o e : PySem.Expr} {apos pos : Pos} {f g : DEnv → Res D} {k1 k2 k' : DEnv → Bool} (hK : X.K = M.K) (ho : PE X o (tE M T Ev f k1)) (he : PE X e (tE M T Ev g k2)) (hs : starEach [e] X.env = [(false, eval e X.env)]) (hbase : attributeBase o "join" X.env (eval o X.env) = eval o X.env) (hline : (apos.endLine == pos.line) = true) :
    PE X (.Call (.Attribute o "join" apos) [e] [] pos) (tE M T Ev (fun env => do let x ← f env; joinG x (g env)) k') := by
  refine pe_weak (pe_join ho he hs hbase hline) fun σ H Q ⟨H₀, B, O, env, R, q⟩ => ?_
  refine ⟨H₀, B, O, env, R, After.mono (After.bind q) (Ext.refl H) fun x H1 e1 _ q v b _ => ?_⟩
  cases x with
  | str sep =>
    refine ⟨⟨sep, br_str b⟩, H₀, B, O, env, R.mono e1, After.mono (After.bind q) (Ext.refl H1) fun y H2 e2 _ q v2 b2 _ => ?_⟩
    cases y with
    | lst ds =>
      have q : After Ev (match strsD ds with | some ws => if (ws.map (·.length)).sum + ws.length * sep.length ≤ 16777216 then (.ok (.str (Txt.join sep ws)) : Res D) else .bad | none => .bad) H2 fun d H1 => ∀ v, BRp M H1 O d v → (k' env = true → Rp M (hide H1 O) d v) → Q v H1 := q
      cases hw : strsD ds with
      | none => rw [hw] at q; exact q.elim
      | some ws =>
        rw [hw] at q
        obtain ⟨hc, q⟩ := After.ite q
        obtain ⟨a, vs, rfl, h1, h2⟩ := br_lst b2
        exact ⟨sep, a, ws, br_str b, rfl, .inl (by rw [← strs_of h2 hw]; exact SqL.of h1), hc, q.one _ (rp_str (H := hide H2 O)).br fun _ => rp_str⟩
    | _ => exact q.elim
  | _ => exact q.elim
theorem de_bitlen {X : Cx} {o : PySem.Expr} {apos pos : Pos} {f : DEnv → Res D} {k1 k' : DEnv → Bool} (ho : PE X o (tE M T Ev f k1)) (hbase : attributeBase o "bit_length" X.env (eval o X.env) = eval o X.env) (hline : (apos.endLine == pos.line) = true) :
    PE X (.Call (.Attribute o "bit_length" apos) [] [] pos) (tE M T Ev (fun env => do let x ← f env; g1I (fun i => .ok (.int (Builtin.Int.intBits i : Nat))) x) k') := by
  refine pe_weak (pe_bits ho hbase hline) fun σ H Q ⟨H₀, B, O, env, R, q⟩ => ?_
  refine ⟨H₀, B, O, env, R, After.mono (After.bind q) (Ext.refl H) fun x H1 e1 _ q v b _ => ?_⟩
  cases x with
  | int i => exact ⟨i, br_int b, q.one _ (rp_int (H := hide H1 O)).br fun _ => rp_int⟩
  | _ => exact q.elim
end
end Dx
set_option maxHeartbeats 1000000
namespace Dx
variable [Nm]
open PySem PySem.Spec PyProof.Rows L2
/-- a generator expression's own context -/
abbrev gcx (X : Cx) (A' : Around) (s : Shared) (H : Hp) (cenv : Env) (fp : List Addr) (pn : List (Addr × Obj)) : Cx := { X with A := A', s_0 := s, H_0 := H, env := cenv, outer := X.stack, stack := cenv :: X.stack, ex := fp, fn := fun _ => false, pn := pn, xe := fun _ _ => False }
structure GenOk (N : List Str) (sc scope : Scope) (own : List (Str × Nat)) : Prop where
  kind : scope.kind = .function
  uniq : ∀ y ∈ scope.names, scope.names.lookup y.1 = some y.2
  ix : ∀ p ∈ own, N[p.2]? = some p.1
  free : ∀ y ∈ scope.names, y.2 = .free → sc.names.lookup y.1 = some .cell ∨ sc.names.lookup y.1 = some .free
  nocell : ∀ y ∈ scope.names, y.2 ≠ .cell
  own : ∀ y ∈ scope.names, y.2 = .local → y.1 ∈ own.map (·.1) ∨ y.1 ∉ N
section
variable {X : Cx} {pins : List (Addr × Obj)} {σ : L2.St} {H : Hp} {s s5 : Shared}
theorem clo_get {sc scope : Scope} {cells : List (Str × Addr)} (uniq : ∀ y ∈ scope.names, scope.names.lookup y.1 = some y.2) (has : ∀ y ∈ scope.names, y.2 = .free → ∃ c, cells.lookup y.1 = some c) {y : Str} {c : Addr} (h : (cloFrom cells scope.names []).lookup y = some c) :
    scope.names.lookup y = some .free ∧ cells.lookup y = some c := by
  rcases cloFrom_mem (PySem.mem_of_lookup h) with hm | ⟨h1, h2⟩
  · cases hm
  · obtain ⟨c', hc⟩ := has _ h1 rfl
    refine ⟨uniq _ h1, ?_⟩
    have h2 : c = (cells.lookup y).getD 0 := h2
    rw [hc] at h2
    rw [h2]; exact hc
theorem clo_has {scope : Scope} {cells : List (Str × Addr)} {y : Str} (h : scope.names.lookup y = some .free) : ∃ c, (cloFrom cells scope.names []).lookup y = some c := mem_lookup (cloFrom_has (cells := cells) (acc := []) (PySem.mem_of_lookup h))
theorem inv_gen {scope : Scope} {own : List (Str × Nat)} {fp : List Addr} {A' : Around} {cenv : Env} {pn : List (Addr × Obj)} {m : Str → Option Value} (I : Inv X pins σ H s) (ok : GenOk X.N X.env.scope scope own) (hN : X.N.Nodup) (hfp : ∀ b ∈ fp, FpOk X pins H b ∧ b < s.heap.objs.size)
    (hL : cenv.locals = s.heap.objs.size) (hcl : cenv.cells = cloFrom X.env.cells scope.names []) (hsc : cenv.scope = scope) (hgl : cenv.globals = mainGlobals) (hbi : cenv.builtins = builtinsNs) (hfr : cenv.frame = some cenv.locals)
    (hA : A'.frames = some (cenv :: X.stack)) (hh : X.calm = true → A'.handled = none) (kp : ∀ b o, s.heap.get? b = some o → s5.heap.get? b = some o) (os : s5.os = s.os) (hb : AllBare s5.gens) (hn : s5.heap.Ns cenv.locals m)
    (hpn : ∀ p ∈ pn, s5.heap.get? p.1 = some p.2 ∧ s.heap.objs.size < p.1 ∧ ∀ v, p.2.data ≠ .cell v) :
    Inv (gcx X A' s H cenv fp pn) [] (wipe σ (own.map (·.2))) H s5 := by
  have hfree : ∀ y ∈ scope.names, y.2 = .free → ∃ c, X.env.cells.lookup y.1 = some c := fun y hy e => by
    rcases ok.free y hy e with k | k
    · exact I.ok.has _ (.inl k)
    · exact I.ok.has _ (.inr k)
  have cm : ∀ {y c}, cenv.cells.lookup y = some c → scope.names.lookup y = some .free ∧ X.env.cells.lookup y = some c := fun {y c} e => by
    rw [hcl] at e
    exact clo_get (sc := scope) ok.uniq hfree e
  have look : ∀ {y}, scope.names.lookup y = some .free → ∃ c, cenv.cells.lookup y = some c ∧ X.env.cells.lookup y = some c := fun {y} hl => by
    obtain ⟨c, hc⟩ := clo_has (cells := X.env.cells) hl
    rw [← hcl] at hc
    exact ⟨c, hc, (cm hc).2⟩
  have okB : (gcx X A' s H cenv fp pn).Ok := by
    refine ⟨I.ok.mod, by show cenv.scope.kind = _; rw [hsc]; exact ok.kind, hgl, hbi, by show s.heap.objs.size ≤ cenv.locals; rw [hL]; exact Nat.le_refl _,
      fun y z c e1 e2 => I.ok.inj y z c (cm e1).2 (cm e2).2, fun y hy => ?_, fun y c z e => (nomatch z), hh, hA, .inr ⟨rfl, hfr⟩, fun b hb => ⟨?_, fun y c e z => ?_⟩, I.bs, Nat.le_trans I.ok.bsz I.sz, fun b o e hb => ?_, fun b hb z => ?_, I.stack, I.stkFree⟩
    · have key : scope.names.lookup y = some .free → ∃ c, cenv.cells.lookup y = some c := fun h => let ⟨c, h1, _⟩ := look h; ⟨c, h1⟩
      rcases hy with hy | hy
      · have hy : cenv.scope.names.lookup y = some .cell := hy
        rw [hsc] at hy
        exact absurd rfl (ok.nocell _ (PySem.mem_of_lookup hy))
      · have hy : cenv.scope.names.lookup y = some .free := hy
        rw [hsc] at hy
        exact key hy
    · show b ≠ cenv.locals
      rw [hL]; exact Nat.ne_of_lt (hfp b hb).2
    · exact (hfp b hb).1.2.2.2.2.1 y c (cm e).2 z
    · rcases (hfp b hb).1.2.2.2.1 with z | z
      · exact I.ok.noex b o e z
      · exact absurd (Nat.lt_of_lt_of_le (Heap.lt_size e) (Nat.le_trans I.ok.bsz z)) (Nat.lt_irrefl _)
    · rcases List.mem_cons.mp (I.stkSub b z) with z | z
      · exact (hfp b hb).1.2.1 z
      · exact (hfp b hb).1.2.2.1 z
  refine ⟨okB, os, hb, Un.kept kp, ⟨m, hn, fun i y av e1 e2 e3 => ?_⟩, fun y c e => ?_, ?_, fun y c e => I.freeC y c (cm e).2, fun p hp => ?_, I.hok.kept kp, by rw [wipe_length]; exact I.len⟩
  · obtain ⟨e2, hne⟩ := wipe_some e2
    have hfr : scope.names.lookup y = some .free := by
      have e3 : Vis cenv.scope y := e3
      rw [hsc] at e3
      rcases e3 with e3 | e3 | e3
      · exfalso
        rcases ok.own _ (PySem.mem_of_lookup e3) rfl with e' | e'
        · obtain ⟨p, hp, hpy⟩ := List.mem_map.mp e'
          have e4 := ok.ix p hp
          have : p.1 = y := hpy
          rw [this] at e4
          exact hne (List.mem_map.mpr ⟨p, hp, nodup_ix hN e4 e1⟩)
        · exact e' (List.mem_of_getElem? e1)
      · exact absurd rfl (ok.nocell _ (PySem.mem_of_lookup e3))
      · exact e3
    obtain ⟨m', hn', hl⟩ := I.loc
    have hvis : Vis X.env.scope y := (ok.free _ (PySem.mem_of_lookup hfr) rfl).elim (fun k => .inr (.inl k)) (fun k => .inr (.inr k))
    obtain ⟨w, r, q⟩ := hl i y av e1 e2 hvis
    refine ⟨w, r, .inr ⟨.inr (by show cenv.scope.names.lookup y = _; rw [hsc]; exact hfr), ?_⟩⟩
    obtain ⟨c, h1, h2⟩ := look hfr
    rcases q with ⟨k, _⟩ | ⟨_, c', e', z⟩
    · have k : X.env.scope.names.lookup y = some .local := k
      rcases ok.free _ (PySem.mem_of_lookup hfr) rfl with k' | k' <;> rw [show X.env.scope.names.lookup y = _ from k'] at k <;> cases k
    · rw [h2] at e'; cases e'
      exact ⟨c, h1, z.keeps kp⟩
  · obtain ⟨w, z⟩ := I.cell y c (cm e).2
    exact ⟨w, z.keeps kp⟩
  · show H cenv.locals = none
    rw [hL]; exact I.hok.fresh (Nat.le_refl _)
  · have hp : p ∈ pn := by simpa using hp
    obtain ⟨h1, h2, h3⟩ := hpn p hp
    refine ⟨h1, I.hok.fresh (Nat.le_of_lt h2), by show p.1 ≠ cenv.locals; rw [hL]; exact Nat.ne_of_gt h2, fun hm => ?_, h3⟩
    rcases List.mem_cons.mp (I.stkSub p.1 hm) with z | z
    · rw [z] at h2
      exact absurd (Nat.lt_trans h2 I.lt) (Nat.lt_irrefl _)
    · exact I.nofs (Nat.le_of_lt h2) z
end
end Dx
set_option maxHeartbeats 1000000
namespace Dx
variable [Nm]
open PySem PySem.Spec PyProof.Rows L2
section
variable {M : MatC} {T : List Addr} {Ev : Nat → Hp → Prop} {Y : Cx} {Bd : Around} {σ0 : L2.St} {HC : Hp} {neg r : Bool}
/-- the generator's end, its items -/
def GRb (Y : Cx) (σ0 : L2.St) (HC : Hp) (neg r : Bool) : GenEnd := fun _ _ rr s => rr = .ok .next ∧ r = !neg ∧ ∃ H', Inv Y [] σ0 H' s ∧ Ext HC H'
def GYb (Y : Cx) (σ0 : L2.St) (HC : Hp) (neg r : Bool) : Protocol := fun _ _ v s kap => ∃ b H', v = .bool b ∧ Inv Y [] σ0 H' s ∧ Ext HC H' ∧ (b = !neg → ∀ s'' : Shared, s''.heap = s.heap → s''.os = s.os → AllBare s''.gens → kap (.send .none) s'') ∧ (b ≠ !neg → r = neg)
theorem Inv.same {pins : List (Addr × Obj)} {σ : L2.St} {H : Hp} {s s'' : Shared} (I : Inv Y pins σ H s) (h1 : s''.heap = s.heap) (h2 : s''.os = s.os) (h3 : AllBare s''.gens) : Inv Y pins σ H s'' :=
  ⟨I.ok, h2.trans I.os, h3, h1 ▸ I.base, h1 ▸ I.loc, h1 ▸ I.cell, I.free, I.freeC, h1 ▸ I.pin, h1 ▸ I.hok, I.len⟩
theorem seg_turns {elt tg iter : PySem.Expr} {ifs : List PySem.Expr} {scope : Scope} {gpos : Pos} {it : Addr} {fp : List Addr} {tn : Nat → Heap → Prop} {J : L2.It} {ds : List D} {Src : Hp → (Addr → Bool) → Prop} {t : Tg} {fc : DEnv → Res Bool} {fe : DEnv → Res D} {vs : List Nat} {σ : L2.St} {env : DEnv} {H₀ : Hp} {B0 O : Addr → Bool} {ke : DEnv → Bool}
    (hv : ∀ n ∈ tgN t, n ∈ vs) (hσ : σ0 = wipe σ vs) (hco : Y.env.scope.isCoroutine = false) (hxe : Y.xe = fun _ _ => False) (hcalm : Y.calm = true) (hfp : ∀ b ∈ fp, b ∈ Y.ex) (hpn : Y.pn = [] ∨ ∀ p ∈ Y.pn, p.1 ∉ fp)
    (hA : Bd.over (.compLoop (.GeneratorExp elt [⟨tg, iter, ifs, 0⟩] scope gpos) 0 (.ref it) .none Y.env) [] = Y.A) (Tn : Turn Y.prog Y.w Y.K tg J fp it tn) (Yd : Yl M J ds Src)
    (pg : PG Y tg (tG M T t)) (pt : PTs Y ifs (tT M T NoEv fc)) (pe : PE Y elt (tE M T NoEv fe ke)) (R0 : EnvR M T H₀ B0 O σ HC env) (hsrc : ∀ H', Ext HC H' → Src H' O) :
    ∀ (k i : Nat) (s0 s1 : Shared) (H' : Hp) (n : Nat), ds.length - i = k → i ≤ ds.length → k ≤ n → Inv Y [] σ0 H' s1 → tn i s1.heap → (∀ b ∈ fp, H' b = none) → Ext HC H' → allT neg (lcT t fc fe fun _ => true) (wipeE env vs) (ds.drop i) = .ok r →
      Seg (model Y.prog Y.w) Bd (GRb Y σ0 HC neg r) (GYb Y σ0 HC neg r) n s0 (.compLoop (.GeneratorExp elt [⟨tg, iter, ifs, 0⟩] scope gpos) 0 (.ref it) .none Y.env)
        ((model Y.prog Y.w).den (.compLoop (.GeneratorExp elt [⟨tg, iter, ifs, 0⟩] scope gpos) 0 (.ref it) .none Y.env)) [] s1 := by
  have stat : ∀ {σ' : L2.St} {H' : Hp} {s' : Shared}, Inv Y [] σ' H' s' → (∀ b ∈ fp, H' b = none) → ∀ b ∈ fp, FpOk Y [] H' b := fun {σ' H' s'} I' hn b hb =>
    ⟨hn b hb, (I'.ok.exf b (hfp b hb)).1, I'.ok.exfs b (hfp b hb), .inl (hfp b hb), fun x c e => (I'.ok.exf b (hfp b hb)).2 x c e, fun p hp => by
      rcases hpn with z | z
      · rw [z] at hp; simp at hp
      · intro e
        have hp : p ∈ Y.pn := by simpa using hp
        exact z p hp (e ▸ hb)⟩
  intro k
  induction k with
  | zero =>
    intro i s0 s1 H' n hk hi hn I st nf ex ha
    have ei : i = ds.length := by omega
    subst ei
    show Seg _ Bd _ _ _ s0 _ ((compTurn (.GeneratorExp elt [⟨tg, iter, ifs, 0⟩] scope gpos) 0 (.ref it) .none Y.env).onRaise (leaving Y.env)) [] s1
    rw [compTurn_gen, Sem.onRaise_eq_wrap]
    refine seg_bind_wrap (wpAny_standAt ?_)
    refine seg_bind_wrap ?_
    rw [hA]
    have src := hsrc H' ex
    refine wpAny_mono (Tn.done Y rfl rfl rfl hcalm ds.length [] s1 σ0 H' (fun _ _ => False) I (stat I nf) st (Yd.stop H' O src (R0.mono ex).trk)) (fun rr s2 h2 => ?_) fun _ _ z => z.elim
    obtain ⟨rfl, I2⟩ := h2
    refine seg_end (.ok .next) ⟨rfl, ?_, H', I2, ex⟩
    rw [List.drop_length] at ha
    cases ha
    rfl
  | succ k ih =>
    intro i s0 s1 H' n hk hi hn I st nf ex ha
    have hlt : i < ds.length := by omega
    obtain ⟨d, hd⟩ : ∃ d, ds[i]? = some d := ⟨_, List.getElem?_eq_getElem hlt⟩
    have ed : ds.drop i = d :: ds.drop (i + 1) := by
      rw [List.drop_eq_getElem_cons hlt, (List.getElem?_eq_some_iff.mp hd).2]
    rw [ed] at ha
    have ha : ((lcT t fc fe (fun _ => true) d (wipeE env vs)).bind fun o => match o with
      | none => allT neg (lcT t fc fe fun _ => true) (wipeE env vs) (ds.drop (i + 1))
      | some x => match x with
        | .bl b => if b = !neg then allT neg (lcT t fc fe fun _ => true) (wipeE env vs) (ds.drop (i + 1)) else .ok neg
        | _ => .bad) = .ok r := ha
    obtain ⟨o, ho, ha⟩ := Res.bind_eq_ok ha
    obtain ⟨env3, b, ht, hb, hrest⟩ := lcT_ok ho
    show Seg _ Bd _ _ _ s0 _ ((compTurn (.GeneratorExp elt [⟨tg, iter, ifs, 0⟩] scope gpos) 0 (.ref it) .none Y.env).onRaise (leaving Y.env)) [] s1
    rw [compTurn_gen, Sem.onRaise_eq_wrap]
    refine seg_bind_wrap (wpAny_standAt ?_)
    refine seg_bind_wrap ?_
    rw [hA]
    have src := hsrc H' ex
    have Ri := R0.mono ex
    refine wpAny_mono (Tn.item Y rfl rfl rfl hcalm i [] s1 σ0 H' (fun _ _ => False) I (stat I nf) st (Yd.go i H' O src Ri.trk hlt)) (fun rr s2 h2 => ?_) fun _ _ z => z.elim
    obtain ⟨u, rfl, h2⟩ := h2
    refine seg_bind_wrap ?_
    rw [hA]
    refine wpAny_mono h2 (fun _ s3 h3 => ?_) fun _ _ z => z.elim
    obtain ⟨x, H2, I3, r3, y3, st3, n3⟩ := h3
    obtain ⟨ey, ry⟩ := Yd.yld i H' O d x H2 src Ri.trk hd y3
    have I3' := I3.pinned (stat I3 n3) (Tn.obj _ _ st3)
    have R2 := (Ri.mono ey).wipe vs
    refine seg_bind_wrap ?_
    rw [hA]
    refine wpAny_mono (pg.run _ s3 σ0 H2 x u (fun σ4 H4 => H4 = H2 ∧ EnvR M T H₀ B0 O σ4 H2 env3 ∧ wipe σ4 vs = wipe σ vs) I3' r3 ?_) (fun _ s4 h4 => ?_) fun _ _ z => by rw [hxe] at z; exact z.elim
    · rw [hσ]
      exact ⟨H₀, B0, O, wipeE env vs, d, env3, R2, ry, ht, fun σ4 R4 s4 => ⟨rfl, R4, by rw [s4 vs hv, wipe_sub fun _ z => z]⟩⟩
    obtain ⟨σ4, H4, I4, rfl, R4, w4⟩ := h4
    refine seg_bind_wrap ?_
    rw [hA]
    refine wpAny_mono (pt.run _ s4 σ4 H4 (fun b' H5 => b' = b ∧ Ext H4 H5) I4 ⟨H₀, B0, O, env3, R4, by rw [hb]; exact fun H5 e5 => ⟨rfl, e5⟩⟩) (fun b' s5 h5 => ?_) fun _ _ z => by rw [hxe] at z; exact z.elim
    obtain ⟨H5, I5, rfl, e5⟩ := h5
    have ex5 : Ext HC H5 := (ex.trans ey).trans e5
    -- the turn's end
    have fin : ∀ {s' : Shared} {H6 : Hp}, Inv Y ([] ++ pinsAt fp s3.heap) σ4 H6 s' → Inv Y [] σ0 H6 s' ∧ tn (i + 1) s'.heap ∧ (∀ b ∈ fp, H6 b = none) := fun {s' H6} I' => by
      have pin' : ∀ b ∈ fp, ∀ o, s3.heap.get? b = some o → s'.heap.get? b = some o ∧ H6 b = none := fun b hb o e =>
        let z := I'.pin (b, o) (List.mem_append_right _ (List.mem_append_right _ (mem_pinsAt hb e)))
        ⟨z.1, z.2.1⟩
      refine ⟨(I'.unpinned (pins := [])).weak (by rw [hσ, ← w4, wipe_length]) (fun j v e => ?_), Tn.keep _ _ _ st3 fun b hb o e => (pin' b hb o e).1, fun b hb => ?_⟩
      · rw [hσ, ← w4] at e
        exact (wipe_some e).1
      · obtain ⟨o, e, _⟩ := Tn.obj _ _ st3 b hb
        exact (pin' b hb o e).2
    cases b' with
    | false =>
      have hrest : o = none := hrest
      subst hrest
      simp only [Bool.false_eq_true, if_false]
      obtain ⟨f1, f2, f3⟩ := fin I5
      exact seg_again rfl (ih (i + 1) s0 s5 H5 n (by omega) hlt (by omega) f1 f2 f3 ex5 ha)
    | true =>
      obtain ⟨_, y, hy, rfl⟩ := hrest
      simp only [if_true]
      have hyo : ∀ v, yieldOut Y.env v = yieldValue v := fun v => by simp only [yieldOut, hco, Bool.false_eq_true, if_false]
      simp only [hyo]
      rw [Sem.bind_eq_wrap', Sem.bind_eq_wrap', Sem.wrap_wrap, Sem.wrap_wrap]
      refine seg_wrap ?_
      rw [hA]
      refine wpAny_mono (pe.run _ s5 σ4 H5 (fun v H6 => Ext H5 H6 ∧ BRp M H6 O y v) I5 ⟨H₀, B0, O, env3, R4.mono e5, by rw [hy]; exact fun H6 e6 v bv _ => ⟨e6, bv⟩⟩) (fun v s6 h6 => ?_) fun _ _ z => by rw [hxe] at z; exact z.elim
      obtain ⟨v', H6, I6, r6, e6, bv⟩ := h6
      have ex6 := ex5.trans e6
      obtain ⟨f1, f2, f3⟩ := fin I6
      cases y with
      | bl bb =>
        have ha : (if bb = !neg then allT neg (lcT t fc fe fun _ => true) (wipeE env vs) (ds.drop (i + 1)) else .ok neg) = .ok r := ha
        have ev : v' = .bl bb := br_bl bv
        subst ev
        have ev2 : v = .bool bb := r6
        subst ev2
        obtain ⟨m, rfl⟩ : ∃ m, n = m + 1 := ⟨n - 1, by omega⟩
        refine seg_at (seg_yield rfl rfl rfl ⟨bb, H6, rfl, f1, ex6, fun hbb s'' hh ho hbr => ?_, fun hbb => ?_⟩)
        · rw [if_pos hbb] at ha
          exact seg_again rfl (ih (i + 1) s'' s'' H6 m (by omega) hlt (by omega) (Inv.same f1 hh ho hbr) (by rw [hh]; exact f2) f3 ex6 ha)
        · rw [if_neg hbb] at ha
          cases ha; rfl
      | _ => cases ha
end
end Dx
set_option maxHeartbeats 1000000
namespace Dx
variable [Nm]
open PySem PySem.Spec PyProof.Rows L2 GenW
section
variable {Y : Cx} {σ0 : L2.St} {HC : Hp} {neg r : Bool}
/-- the next item of such a generator -/
theorem gen_next {A : Around} {a : Addr} {g : Nat} {Q : Option Value → Shared → Prop} {E : Value → Shared → Prop} {m : Nat} {s : Shared} (hh : A.handled = none) (hroom : A.depth < recursionLimit) (hgen : ∀ {H' : Hp} {s' : Shared}, Inv Y [] σ0 H' s' → s'.heap.IsGen a g)
    (hI : ∃ H', Inv Y [] σ0 H' s ∧ Ext HC H') (hg : ∃ gs, s.gens[g]? = some gs ∧ gs.Goes (model Y.prog Y.w) A.in1 (GRb Y σ0 HC neg r) (GYb Y σ0 HC neg r) m (.send .none) (s.setGen g .running))
    (hend : ∀ s' H', Inv Y [] σ0 H' s' → Ext HC H' → r = !neg → Q none s')
    (hitem : ∀ b s', (∃ H', Inv Y [] σ0 H' s' ∧ Ext HC H') → (b ≠ !neg → r = neg) → (b = !neg → ∃ m', m = m' + 1 ∧ ∃ gs, s'.gens[g]? = some gs ∧ gs.Goes (model Y.prog Y.w) A.in1 (GRb Y σ0 HC neg r) (GYb Y σ0 HC neg r) m' (.send .none) (s'.setGen g .running)) → Q (some (.bool b)) s') :
    wpAny (model Y.prog Y.w) A (pyNext (.ref a)) Q E s := by
  obtain ⟨H', I, ex⟩ := hI
  obtain ⟨gs, hgs, hgo⟩ := hg
  have hgl : g < s.gens.size := (Array.getElem?_eq_some_iff.mp hgs).1
  refine wpAny_gsz (n := g + 1) hgl (wpAny_pyNext_genexpQ (P := fun _ _ s => r = !neg ∧ ∃ H', Inv Y [] σ0 H' s ∧ Ext HC H') hh I.nolimit hroom (hgen I) hgs hgo (fun v s1 gs' hbare hv => ?_) (fun s1 hp h' hk => ?_))
  · intro hsz
    obtain ⟨b, H1, rfl, I1, ex1, k1, k2⟩ := hv
    have hsz1 : g < s1.gens.size := by
      have q : (s1.setGen g gs').gens.size = s1.gens.size := setGen_size _ _ _
      have hsz' : g + 1 ≤ (s1.setGen g gs').gens.size := hsz
      omega
    refine hitem b _ ⟨H1, Inv.same I1 rfl rfl (allBare_setGen I1.bare hbare), ex1⟩ k2 fun hb => ?_
    have k := k1 hb ((s1.setGen g gs').setGen g .running) rfl rfl (allBare_setGen (s := s1.setGen g gs') (allBare_setGen I1.bare hbare) rfl)
    cases m with
    | zero => exact k.elim
    | succ m' => exact ⟨m', rfl, gs', setGen_at hsz1, k⟩
  · intro _
    obtain ⟨h1, H1, I1, ex1⟩ := hp
    have J := Inv.same (s'' := s1.setGen g .finished) I1 rfl rfl (allBare_setGen I1.bare rfl)
    exact hend _ H1 (J.kept (t' := (s1.setGen g .finished).toks) hk) ex1 h1
end
section
variable {Y : Cx} {σ0 : L2.St} {HC : Hp} {r : Bool}
theorem all_loop {A : Around} {R : Result → Shared → Prop} {a : Addr} {g : Nat} (hh : A.handled = none) (hroom : A.depth < recursionLimit) (hgen : ∀ {H' : Hp} {s' : Shared}, Inv Y [] σ0 H' s' → s'.heap.IsGen a g)
    (hR : ∀ s' H', Inv Y [] σ0 H' s' → Ext HC H' → R (.ok (.ret (.bool r))) s') :
    ∀ (m : Nat) (s : Shared), (∃ H', Inv Y [] σ0 H' s ∧ Ext HC H') → (∃ gs, s.gens[g]? = some gs ∧ gs.Goes (model Y.prog Y.w) A.in1.in1 (GRb Y σ0 HC false r) (GYb Y σ0 HC false r) m (.send .none) (s.setGen g .running)) →
      codeAny (model Y.prog Y.w) A (.builtin "all.loop" ⟨[.ref a], []⟩) R s := by
  intro m
  induction m with
  | zero =>
    intro s hI hg
    refine codeAny_builtin F.entry_all_loop ?_
    rw [Around.under_plainId F.plain_all_loop _]
    show wpAny _ A.in1 (pyNext (.ref a) >>= _) _ _ s
    refine wpAny_bind (gen_next (A := A.in1) hh hroom hgen hI hg (fun s' H' I' ex hr => ?_) fun b s' hI' k1 k2 => ?_)
    · subst hr
      exact wpAny_bind (wpAny_rule (wpAny_pure (hR s' H' I' ex)))
    · refine wpAny_bind (wpAny_holding (wpAny_truthy_bool ?_))
      refine wpAny_bind (wpAny_letGo ?_)
      cases b with
      | true => obtain ⟨m', hm, _⟩ := k2 rfl; cases hm
      | false =>
        simp only [Bool.false_eq_true, if_false]
        obtain ⟨H', I', ex⟩ := hI'
        have hr := k1 (by decide)
        subst hr
        exact wpAny_bind (wpAny_rule (wpAny_pure (hR s' H' I' ex)))
  | succ m ih =>
    intro s hI hg
    refine codeAny_builtin F.entry_all_loop ?_
    rw [Around.under_plainId F.plain_all_loop _]
    show wpAny _ A.in1 (pyNext (.ref a) >>= _) _ _ s
    refine wpAny_bind (gen_next (A := A.in1) hh hroom hgen hI hg (fun s' H' I' ex hr => ?_) fun b s' hI' k1 k2 => ?_)
    · subst hr
      exact wpAny_bind (wpAny_rule (wpAny_pure (hR s' H' I' ex)))
    · refine wpAny_bind (wpAny_holding (wpAny_truthy_bool ?_))
      refine wpAny_bind (wpAny_letGo ?_)
      cases b with
      | true =>
        obtain ⟨m', hm, gg⟩ := k2 rfl
        cases hm
        simp only [if_true]
        exact wpAny_pure ⟨plainId_quiet F.plain_all_loop _, ih s' hI' gg⟩
      | false =>
        simp only [Bool.false_eq_true, if_false]
        obtain ⟨H', I', ex⟩ := hI'
        have hr := k1 (by decide)
        subst hr
        exact wpAny_bind (wpAny_rule (wpAny_pure (hR s' H' I' ex)))
theorem any_loop {A : Around} {R : Result → Shared → Prop} {a : Addr} {g : Nat} (hh : A.handled = none) (hroom : A.depth < recursionLimit) (hgen : ∀ {H' : Hp} {s' : Shared}, Inv Y [] σ0 H' s' → s'.heap.IsGen a g)
    (hR : ∀ s' H', Inv Y [] σ0 H' s' → Ext HC H' → R (.ok (.ret (.bool r))) s') :
    ∀ (m : Nat) (s : Shared), (∃ H', Inv Y [] σ0 H' s ∧ Ext HC H') → (∃ gs, s.gens[g]? = some gs ∧ gs.Goes (model Y.prog Y.w) A.in1.in1 (GRb Y σ0 HC true r) (GYb Y σ0 HC true r) m (.send .none) (s.setGen g .running)) →
      codeAny (model Y.prog Y.w) A (.builtin "any.loop" ⟨[.ref a], []⟩) R s := by
  intro m
  induction m with
  | zero =>
    intro s hI hg
    refine codeAny_builtin F.entry_any_loop ?_
    rw [Around.under_plainId F.plain_any_loop _]
    show wpAny _ A.in1 (pyNext (.ref a) >>= _) _ _ s
    refine wpAny_bind (gen_next (A := A.in1) hh hroom hgen hI hg (fun s' H' I' ex hr => ?_) fun b s' hI' k1 k2 => ?_)
    · subst hr
      exact wpAny_bind (wpAny_rule (wpAny_pure (hR s' H' I' ex)))
    · refine wpAny_bind (wpAny_holding (wpAny_truthy_bool ?_))
      refine wpAny_bind (wpAny_letGo ?_)
      cases b with
      | false => obtain ⟨m', hm, _⟩ := k2 rfl; cases hm
      | true =>
        simp only [if_true]
        obtain ⟨H', I', ex⟩ := hI'
        have hr := k1 (by decide)
        subst hr
        exact wpAny_bind (wpAny_rule (wpAny_pure (hR s' H' I' ex)))
  | succ m ih =>
    intro s hI hg
    refine codeAny_builtin F.entry_any_loop ?_
    rw [Around.under_plainId F.plain_any_loop _]
    show wpAny _ A.in1 (pyNext (.ref a) >>= _) _ _ s
    refine wpAny_bind (gen_next (A := A.in1) hh hroom hgen hI hg (fun s' H' I' ex hr => ?_) fun b s' hI' k1 k2 => ?_)
    · subst hr
      exact wpAny_bind (wpAny_rule (wpAny_pure (hR s' H' I' ex)))
    · refine wpAny_bind (wpAny_holding (wpAny_truthy_bool ?_))
      refine wpAny_bind (wpAny_letGo ?_)
      cases b with
      | false =>
        obtain ⟨m', hm, gg⟩ := k2 rfl
        cases hm
        simp only [Bool.false_eq_true, if_false]
        exact wpAny_pure ⟨plainId_quiet F.plain_any_loop _, ih s' hI' gg⟩
      | true =>
        simp only [if_true]
        obtain ⟨H', I', ex⟩ := hI'
        have hr := k1 (by decide)
        subst hr
        exact wpAny_bind (wpAny_rule (wpAny_pure (hR s' H' I' ex)))
end
end Dx
set_option maxHeartbeats 1000000
namespace Dx
variable [Nm]
open PySem PySem.Spec PyProof.Rows L2 GenW
section
theorem seg_start {prog : Program} {w : World} {Bd : Around} {R : GenEnd} {Yp : Protocol} {elt tg iter : PySem.Expr} {ifs : List PySem.Expr} {scope : Scope} {gpos : Pos} {it : Addr} {cenv : Env} {n : Nat} {s0 s : Shared}
    (self : ∀ (A : Around) (Q : Value → Shared → Prop) (E : Value → Shared → Prop), Q (.ref it) s → wpAny (model prog w) A (pyIter (.ref it)) Q E s)
    (loop : Seg (model prog w) Bd R Yp n s0 (.compLoop (.GeneratorExp elt [⟨tg, iter, ifs, 0⟩] scope gpos) 0 (.ref it) .none cenv) ((model prog w).den (.compLoop (.GeneratorExp elt [⟨tg, iter, ifs, 0⟩] scope gpos) 0 (.ref it) .none cenv)) [] s) :
    Seg (model prog w) Bd R Yp n s0 (.compStart (.GeneratorExp elt [⟨tg, iter, ifs, 0⟩] scope gpos) 0 (.ref it) .none cenv) ((model prog w).den (.compStart (.GeneratorExp elt [⟨tg, iter, ifs, 0⟩] scope gpos) 0 (.ref it) .none cenv)) [] s := by
  show Seg _ Bd _ _ _ s0 _ ((compStart (.GeneratorExp elt [⟨tg, iter, ifs, 0⟩] scope gpos) 0 (.ref it) .none cenv).onRaise (leaving cenv)) [] s
  unfold compStart
  rw [Sem.onRaise_eq_wrap]
  show Seg _ Bd _ _ _ s0 _ ((ask >>= _).wrap _ _ _ _) [] s
  refine seg_bind_wrap (wpAny_askSetting ?_)
  split
  · exact seg_again rfl loop
  · refine seg_bind_wrap (wpAny_rule ?_)
    show Seg _ Bd _ _ _ s0 _ ((standAt iter.pos >>= _).wrap _ _ _ _) [] s
    exact seg_bind_wrap (wpAny_standAt (seg_bind_wrap (self _ _ _ (seg_again rfl loop))))
end
/-- a generator made, ready to be walked -/
def GenReady (X : Cx) (pins : List (Addr × Obj)) (σ : L2.St) (Q : VK) (neg : Bool) (a : Addr) (s6 : Shared) : Prop :=
  ∃ (Y : Cx) (σ0 : L2.St) (HC : Hp) (g : Nat) (r : Bool) (m : Nat), Y.prog = X.prog ∧ Y.w = X.w ∧ (∀ {H' : Hp} {s' : Shared}, Inv Y [] σ0 H' s' → s'.heap.IsGen a g) ∧ Inv Y [] σ0 HC s6 ∧
    (∃ gs, s6.gens[g]? = some gs ∧ gs.Goes (model Y.prog Y.w) X.A.in1.in1 (GRb Y σ0 HC neg r) (GYb Y σ0 HC neg r) m (.send .none) (s6.setGen g .running)) ∧
    ∀ s' H', Inv Y [] σ0 H' s' → Ext HC H' → EP X pins σ Q (.bool r) s'
theorem among_app2 {pos p' : Pos} {c cv : Value} (l : List Value) (h : TriplesOk l) (hc : codeAmong p' (l ++ [rawInt pos.line, rawInt pos.col, c]) = some cv) : codeAmong p' l = some cv ∨ (cv = c ∧ p'.line = pos.line ∧ p'.col = pos.col) := by
  fun_induction TriplesOk l with
  | case1 =>
    right
    simp only [List.nil_append, rawInt, codeAmong] at hc
    split at hc
    · rename_i q
      rw [Bool.and_eq_true] at q
      have q1 := eq_of_beq q.1
      have q2 := eq_of_beq q.2
      exact ⟨(Option.some.inj hc).symm, by omega, by omega⟩
    · cases hc
  | case2 a t b u x rest ih =>
    simp only [List.cons_append, codeAmong] at hc ⊢
    split at hc
    · rename_i q
      simp only [q, if_true]
      exact .inl hc
    · rename_i q
      simp only [q, if_false]
      exact ih h hc
  | case3 l h1 h2 => exact h.elim
/-- a table with one code object more -/
theorem ext_code {H : Hp} {P c' : Addr} {ps : Array Value} {pos : Pos} (h : H P = some (.tbl ps)) (nC : H c' = none) :
    Ext H (upd (upd H P (.tbl (ps ++ #[rawInt pos.line, rawInt pos.col, .ref c']))) c' (LamX.CodeO c' (Nm.nm pos.line pos.col))) ∧
    (TbOk H ps → TbOk (upd (upd H P (.tbl (ps ++ #[rawInt pos.line, rawInt pos.col, .ref c']))) c' (LamX.CodeO c' (Nm.nm pos.line pos.col))) (ps ++ #[rawInt pos.line, rawInt pos.col, .ref c'])) := by
  have nPc : P ≠ c' := ne_of_none h nC
  have keep : ∀ c phi, H c = some (.ext phi) → upd (upd H P (.tbl (ps ++ #[rawInt pos.line, rawInt pos.col, .ref c']))) c' (LamX.CodeO c' (Nm.nm pos.line pos.col)) c = some (.ext phi) := fun c phi e => by
    rw [upd_ne (ne_of_none e nC), upd_ne (show c ≠ P from fun z => by rw [z, h] at e; cases e)]; exact e
  have main : TbOk H ps → TbOk (upd (upd H P (.tbl (ps ++ #[rawInt pos.line, rawInt pos.col, .ref c']))) c' (LamX.CodeO c' (Nm.nm pos.line pos.col))) (ps ++ #[rawInt pos.line, rawInt pos.col, .ref c']) := fun t => by
    have eL : (ps ++ #[rawInt pos.line, rawInt pos.col, .ref c']).toList = ps.toList ++ [rawInt pos.line, rawInt pos.col, .ref c'] := by simp
    refine ⟨by rw [eL]; exact TriplesOk_snoc _ _ _ _ t.1, fun p' cv hc => ?_⟩
    rw [eL] at hc
    rcases among_app2 _ t.1 hc with z | ⟨z, z1, z2⟩
    · obtain ⟨c0, e1, e2⟩ := t.2 p' cv z
      exact ⟨c0, e1, keep _ _ e2⟩
    · exact ⟨c', z, by rw [z1, z2]; exact upd_same⟩
  refine ⟨⟨fun a o e n => ?_, fun a qs e => ?_⟩, main⟩
  · rw [upd_ne (ne_of_none e nC), upd_ne (show a ≠ P from fun z => by rw [z, h] at e; cases e; exact n _ rfl)]; exact e
  · by_cases ha : a = P
    · subst ha; rw [h] at e; cases e
      exact ⟨_, by rw [upd_ne nPc]; exact upd_same, main⟩
    · exact ⟨qs, by rw [upd_ne (ne_of_none e nC), upd_ne ha]; exact e, fun t => t.keep keep⟩
theorem frames_gen {elt : PySem.Expr} {gs : List PySem.Comprehension} {scope : Scope} {gpos : Pos} {x : Value} {cenv : Env} : (Code.compLoop (.GeneratorExp elt gs scope gpos) 0 x .none cenv).frames = 1 := by rfl
theorem room_gen {lv : Nat} {A : Around} {elt : PySem.Expr} {gs : List PySem.Comprehension} {scope : Scope} {gpos : Pos} {x : Value} {cenv : Env} (r : Room (lv + 1) A) : Room lv (A.in1.in1.over (.compLoop (.GeneratorExp elt gs scope gpos) 0 x .none cenv) []) :=
  ⟨r.hd, by
    have := r.dp
    have e : (A.in1.in1.over (.compLoop (.GeneratorExp elt gs scope gpos) 0 x .none cenv) []).depth ≤ A.depth + 3 := by
      show A.depth + 0 + _ ≤ _
      simp [Code.weight, Code.isFrame, Code.isCreation, Code.isGuard, Code.isCaller, frameCount, frames_gen]
    omega, by
    have := r.un
    have e : (A.in1.in1.over (.compLoop (.GeneratorExp elt gs scope gpos) 0 x .none cenv) []).units ≤ A.units + 16 := by
      show A.units + 1 + 1 + 0 + _ ≤ _
      simp [Code.cUnits, Code.isFrame, frames_gen]
    omega⟩
theorem frames_over {A : Around} {elt : PySem.Expr} {gs : List PySem.Comprehension} {scope : Scope} {gpos : Pos} {x : Value} {cenv : Env} {st : List Env} (h : A.frames = some st) : (A.in1.in1.over (.compLoop (.GeneratorExp elt gs scope gpos) 0 x .none cenv) []).frames = some (cenv :: st) := by
  have e : A.in1.in1.frames = some st := h
  simp [Around.over, Code.envs, Code.isFrame, Code.env?, pushEnvs, envsOf, e]
  exact h
end Dx
set_option maxHeartbeats 1000000
namespace Dx
variable [Nm]
open PySem PySem.Spec PyProof.Rows L2 GenW
section
variable {M : MatC} {T : List Addr} {Ev : Nat → Hp → Prop} {X : Cx} {neg : Bool}
theorem allT_ne {neg : Bool} {t : Tg} {fc : DEnv → Res Bool} {fe : DEnv → Res D} {ke : DEnv → Bool} {env : DEnv} {n : Nat} : ∀ {ds : List D}, allT neg (lcT t fc fe ke) env ds ≠ .exc n
  | [], h => nomatch h
  | d :: ds, h => by
    have h : ((lcT t fc fe ke d env).bind fun o => match o with
      | none => allT neg (lcT t fc fe ke) env ds
      | some x => match x with
        | .bl b => if b = !neg then allT neg (lcT t fc fe ke) env ds else .ok neg
        | _ => .bad) = .exc n := h
    cases e : lcT t fc fe ke d env with
    | ok o =>
      rw [e] at h
      cases o with
      | none => exact allT_ne (ds := ds) h
      | some x =>
        have h : (match x with
          | .bl b => if b = !neg then allT neg (lcT t fc fe ke) env ds else .ok neg
          | _ => .bad) = Res.exc n := h
        cases x with
        | bl b =>
          have h : (if b = (!neg) then allT neg (lcT t fc fe ke) env ds else .ok neg) = Res.exc n := h
          by_cases hb : b = (!neg)
          · rw [if_pos hb] at h; exact allT_ne (ds := ds) h
          · rw [if_neg hb] at h; cases h
        | _ => cases h
    | exc m => exact noExc_ne e
    | bad => rw [e] at h; cases h
theorem gen_make {pins : List (Addr × Obj)} {s : Shared} {σ : L2.St} {H : Hp} {Q : VK} {lv : Nat} {elt tg iter : PySem.Expr} {ifs : List PySem.Expr} {scope : Scope} {own : List (Str × Nat)} {gpos : Pos} {c P : Addr} {fi : DEnv → Res (List D)} {k k' : DEnv → Bool} {t : Tg} {fc : DEnv → Res Bool} {fe : DEnv → Res D} {Q' : Value → Shared → Prop} {ke : DEnv → Bool}
    (hv : ∀ n ∈ tgN t, n ∈ own.map (·.2)) (hr : Room (lv + 1) X.A) (hc : X.calm = true) (hN : X.N.Nodup) (TB : GxR.TabB X.base X.mg c P) (hP : P ∈ T) (hcode : X.env.code = .ref c) (hq' : Nm.nm gpos.line gpos.col = X.env.qual ++ "<genexpr>") (ok : GenOk X.N X.env.scope scope own) (hco : scope.isCoroutine = false) (hdot : scope.names.lookup (".0" : Str) = some .local)
    (hi : PI X tg iter (tI M T Ev fi k)) (hs : ∀ v, genFold iter X.env v = pure v)
    (hg : ∀ (s : Shared) (H : Hp) (cenv : Env) (A' : Around) (fp : List Addr) (pn : List (Addr × Obj)), cenv.scope = scope → Room lv A' → PG (gcx X A' s H cenv fp pn) tg (tG M T t))
    (ht : ∀ (s : Shared) (H : Hp) (cenv : Env) (A' : Around) (fp : List Addr) (pn : List (Addr × Obj)), cenv.scope = scope → Room lv A' → PTs (gcx X A' s H cenv fp pn) ifs (tT M T NoEv fc))
    (he : ∀ (s : Shared) (H : Hp) (cenv : Env) (A' : Around) (fp : List Addr) (pn : List (Addr × Obj)), cenv.scope = scope → Room lv A' → PE (gcx X A' s H cenv fp pn) elt (tE M T NoEv fe ke))
    (I : Inv X pins σ H s) (h : tE M T Ev (allG neg fi t fc fe (own.map (·.2))) k' σ H Q) (hQ : ∀ a s6, GenReady X pins σ Q neg a s6 → Q' (.ref a) s6) :
    wpAny (model X.prog X.w) X.A (eval (.GeneratorExp elt [⟨tg, iter, ifs, 0⟩] scope gpos) X.env) Q' X.xe s := by
  have hfree : ∀ y ∈ scope.names, y.2 = .free → ∃ c, X.env.cells.lookup y.1 = some c := fun y hy e => by
    rcases ok.free y hy e with k | k
    · exact I.ok.has _ (.inl k)
    · exact I.ok.has _ (.inr k)
  obtain ⟨H₀, B, O, env, R, h⟩ := h
  have hI : tI M T Ev fi k σ H (fun J H1 => ∃ ds Src r, Ext H H1 ∧ Yl M J ds Src ∧ (∀ H', Ext H1 H' → Src H' O) ∧ allT neg (lcT t fc fe fun _ => true) (wipeE env (own.map (·.2))) ds = .ok r ∧ ∀ H', Ext H1 H' → Q (.bl r) H') := by
    refine ⟨H₀, B, O, env, R, After.mono (After.bind h) (Ext.refl H) fun ds H1 e1 _ q J Src Y hsrc => ?_⟩
    have q : After Ev ((allT neg (lcT t fc fe fun _ => true) (wipeE env (own.map (·.2))) ds).bind fun r => (.ok (.bl r) : Res D)) H1 _ := q
    cases ea : allT neg (lcT t fc fe fun _ => true) (wipeE env (own.map (·.2))) ds with
    | ok r =>
      rw [ea] at q
      exact ⟨ds, Src, r, e1, Y, fun H' e => hsrc H' O (e.hide O) (.inr e), ea, fun H' e => q H' e _ rp_bl.br fun _ => rp_bl⟩
    | exc n => exact absurd ea allT_ne
    | bad => rw [ea] at q; exact q.elim
  refine wpAny_GeneratorExp_make hco (closure_ok hfree) ok.nocell hdot ok.kind (by have := hr.dp; omega) (thn (hi.run pins s σ H _ I hI) fun xv s1 hx => thn hx fun itv s2 h2 => ?_) hs
  obtain ⟨it, fp, tn, J, H2, e, I2, Tn, st2, f2, ds, Src, r, e2, Yd, hsrc, ha, hq⟩ := h2
  subst e
  refine ⟨I2.nolimit, ?_⟩
  obtain ⟨ps, hPt, hTr⟩ := (R.mono e2).tabs P hP
  have hPs : s2.heap.get? P = some { cls := .none, data := .fields ps } := I2.hok P _ hPt
  have cd : PySem.W.CodeHd s2.heap c P := TB.code.keeps fun b u e => I2.bk b u e
  have szf : ∀ b ∈ fp, b < s2.heap.objs.size := fun b hb => by
    obtain ⟨o, e, _⟩ := Tn.obj _ _ st2 b hb
    exact Heap.lt_size e
  have cont : ∀ (code : Value) (h3 : Heap) (tk : Nat) (HC : Hp), (∀ b u, b ≠ P → s2.heap.get? b = some u → h3.get? b = some u) → s2.heap.objs.size ≤ h3.objs.size → Inv X pins σ HC { s2 with heap := h3, toks := tk } → Ext H2 HC → (∀ b ∈ fp, HC b = none) →
      wpAny (model X.prog X.w) X.A (builtinsFor X.env.globals X.env.builtins) (fun bi s₄ =>
        ∀ h', h'.Ns s₄.heap.objs.size (fun y => if y = ".0" then some (.ref it) else none) → Heap.SameBut s₄.heap.objs.size (s₄.heap.push { cls := .type "frame", data := .dict #[] }) h' →
          Q' (.ref h'.objs.size) { s₄ with
            gens := s₄.gens.push (.fresh (.compStart (.GeneratorExp elt [⟨tg, iter, ifs, 0⟩] scope gpos) 0 (.ref it) .none (genEnv scope (cloFrom X.env.cells scope.names []) s₄.heap.objs.size code bi X.env))),
            toks := s₄.toks + 1 + 1 + 1,
            heap := h'.push { cls := .type "generator", data := .fields #[.int s₄.gens.size 0, .str "<genexpr>" (s₄.toks + 1), .str (X.env.qual ++ "<genexpr>") (s₄.toks + 1 + 1)] } }) X.xe { s2 with heap := h3, toks := tk } := by
    intro code h3 tk HC keep3 hsz I4 e24 hfp
    obtain ⟨bm, ob, e1, e2', e3, e4, e5, e6, e7, e8⟩ := TB.bm
    refine wpAny_builtinsFor (m := X.mg) (by rw [I2.ok.glob]; exact I4.mod.glob.keeps I4.bk) e1 e2' (I4.bk _ _ e5) e6 e7 e8 ?_
    generalize hs4 : ({ s2 with heap := h3, toks := tk } : Shared) = s4 at I4
    have h4 : s4.heap = h3 := by rw [← hs4]
    have neP : ∀ b ∈ fp, b ≠ P := fun b hb e => by
      have := (f2 b hb).1
      rw [e, hPt] at this; cases this
    have st4 : tn 0 s4.heap := Tn.keep _ _ _ st2 fun b hb o e => by rw [h4]; exact keep3 b o (neP b hb) e
    have f4 : ∀ b ∈ fp, FpOk X pins HC b ∧ b < s4.heap.objs.size := fun b hb => by
      exact ⟨⟨hfp b hb, (f2 b hb).2⟩, by rw [h4]; exact Nat.lt_of_lt_of_le (szf b hb) hsz⟩
    intro h' hn' hs'
    have hsz' : h'.objs.size = s4.heap.objs.size + 1 := by rw [hs'.1, Heap.size_push]
    have keep' : ∀ b o, s4.heap.get? b = some o → h'.get? b = some o := fun b o e => hs'.extBut b o (Nat.ne_of_lt (Heap.lt_size e)) (Heap.get?_push_of_some _ e)
    generalize hgo : ({ cls := .type "generator", data := .fields #[.int s4.gens.size 0, .str "<genexpr>" (s4.toks + 1), .str (X.env.qual ++ "<genexpr>") (s4.toks + 1 + 1)] } : Obj) = go
    have keep5 : ∀ b o, s4.heap.get? b = some o → (h'.push go).get? b = some o := fun b o e => Heap.get?_push_of_some _ (keep' b o e)
    generalize hce : genEnv scope (cloFrom X.env.cells scope.names []) s4.heap.objs.size code builtinsNs X.env = ce
    have cL : ce.locals = s4.heap.objs.size := by rw [← hce]; rfl
    have cS : ce.scope = scope := by rw [← hce]; rfl
    generalize hs6 : ({ s4 with gens := s4.gens.push (.fresh (.compStart (.GeneratorExp elt [⟨tg, iter, ifs, 0⟩] scope gpos) 0 (.ref it) .none ce)), toks := s4.toks + 1 + 1 + 1, heap := h'.push go } : Shared) = s6
    have h6 : s6.heap = h'.push go := by rw [← hs6]
    have g6 : s6.gens = s4.gens.push (.fresh (.compStart (.GeneratorExp elt [⟨tg, iter, ifs, 0⟩] scope gpos) 0 (.ref it) .none ce)) := by rw [← hs6]
    have ge6 : s6.gens[s4.gens.size]? = some (.fresh (.compStart (.GeneratorExp elt [⟨tg, iter, ifs, 0⟩] scope gpos) 0 (.ref it) .none ce)) := by rw [g6]; exact Array.getElem?_push_size ..
    generalize hA' : X.A.in1.in1.over (.compLoop (.GeneratorExp elt [⟨tg, iter, ifs, 0⟩] scope gpos) 0 (.ref it) .none ce) [] = A'
    have rA : Room lv A' := by rw [← hA']; exact room_gen hr
    have goa : s6.heap.get? h'.objs.size = some go := by rw [h6]; exact Heap.get?_push_size _ (by rw [← hgo]; rfl)
    have IY : Inv (gcx X A' s4 HC ce fp [(h'.objs.size, go)]) [] (wipe σ (own.map (·.2))) HC s6 := by
      refine inv_gen (m := fun y => if y = ".0" then some (.ref it) else none) I4 ok hN f4 cL (by rw [← hce]; rfl) cS (by rw [← hce]; exact I2.ok.glob) (by rw [← hce]; rfl) (by rw [← hce]; rfl) (by rw [← hA']; exact frames_over I2.ok.frames) (fun _ => rA.hd)
        (fun b o e => by rw [h6]; exact keep5 b o e) (by rw [← hs6]) (by rw [g6]; exact I4.bare.push rfl) (by rw [h6, cL]; exact hn'.push _) fun p hp => ?_
      have e : p = (h'.objs.size, go) := by simpa using hp
      subst e
      exact ⟨goa, by show s4.heap.objs.size < h'.objs.size; omega, fun v z => by rw [← hgo] at z; cases z⟩
    have isg : ∀ {H' : Hp} {s' : Shared}, Inv (gcx X A' s4 HC ce fp [(h'.objs.size, go)]) [] (wipe σ (own.map (·.2))) H' s' → s'.heap.IsGen h'.objs.size s4.gens.size := fun {H' s'} I' => by
      have z := (I'.pin (h'.objs.size, go) (by simp)).1
      exact ⟨go, _, _, z, by rw [← hgo], by rw [← hgo], by rw [← hgo]⟩
    refine hQ _ _ ⟨gcx X A' s4 HC ce fp [(h'.objs.size, go)], wipe σ (own.map (·.2)), HC, s4.gens.size, r, ds.length, rfl, rfl, isg, IY, ⟨_, ge6, rfl, ?_⟩, fun s' H' I' ex => ?_⟩
    · have IZ : Inv (gcx X A' s4 HC ce fp [(h'.objs.size, go)]) [] (wipe σ (own.map (·.2))) HC (s6.setGen s4.gens.size .running) := Inv.same IY rfl rfl (allBare_setGen IY.bare rfl)
      have st6 : tn 0 (s6.setGen s4.gens.size .running).heap := Tn.keep _ _ _ st4 fun b _ o e => by
        show s6.heap.get? b = some o
        rw [h6]; exact keep5 b o e
      refine seg_start (fun A Q E q => Tn.self A 0 _ Q E st6 q) ?_
      exact seg_turns (Y := gcx X A' s4 HC ce fp [(h'.objs.size, go)]) (HC := HC) hv rfl (by show ce.scope.isCoroutine = false; rw [cS]; exact hco) rfl hc (fun b hb => hb) (.inr fun p hp hm => by
          have e : p = (h'.objs.size, go) := by simpa using hp
          subst e
          have := (f4 _ hm).2
          have this : h'.objs.size < s4.heap.objs.size := this
          omega) hA' Tn Yd
        (hg s4 HC ce A' fp _ cS rA) (ht s4 HC ce A' fp _ cS rA) (he s4 HC ce A' fp _ cS rA) ((R.mono e2).mono e24) (fun H' e => hsrc H' (e24.trans e)) ds.length 0 _ _ HC ds.length (Nat.sub_zero _) (Nat.zero_le _) (Nat.le_refl _) IZ st6 (fun b hb => (f4 b hb).1.1) (Ext.refl HC) ha
    · have I7 : Inv X pins σ H' s' := I4.call' (ch := fp) I'.os I'.base I'.hok I'.bare fun b hb => ⟨(f4 b hb).1.2.2.2.1, (f4 b hb).1.2.1, (f4 b hb).1.2.2.2.2.1, (f4 b hb).1.2.2.2.2.2⟩
      exact ⟨.bl r, H', I7, rfl, hq H' (e24.trans ex)⟩
  cases hf : codeAmong gpos ps.toList with
  | none =>
    refine wpAny_genexprCodeX hcode (cd.code hPs hTr.1) (cd.tab hPs) hf fun c' h' tk hx hge hlt _ hrec htab' _ => ?_
    obtain ⟨c2, oc, vs, t, ec, hoc, hd, hvq⟩ := hrec
    cases ec
    have nC : H2 c' = none := I2.hok.fresh hge
    obtain ⟨x1, x2⟩ := ext_code (pos := gpos) hPt nC
    rw [hq'] at x1
    refine cont _ h' tk _ (fun b u hb e => hx b u hb e) (Nat.le_trans hge (Nat.le_of_lt hlt)) (LamX.inv_table (more := #[rawInt gpos.line, rawInt gpos.col, .ref c']) I2 hPt (fun b u hb e => hx b u hb e) htab'.2 hge ⟨oc, vs, t, hoc, hd, hvq⟩) x1 fun b hb => ?_
    rw [upd_ne (Nat.ne_of_lt (Nat.lt_of_lt_of_le (szf b hb) hge)), upd_ne (fun e => by have := (f2 b hb).1; rw [e, hPt] at this; cases this)]
    exact (f2 b hb).1
  | some cv =>
    refine wpAny_genexprCode_hit hcode (cd.code hPs hTr.1) hf ?_
    exact cont cv s2.heap s2.toks H2 (fun _ _ _ e => e) (Nat.le_refl _) I2 (Ext.refl _) fun b hb => (f2 b hb).1
end
end Dx
set_option maxHeartbeats 1000000
namespace Dx
variable [Nm]
open PySem PySem.Spec PyProof.Rows L2 GenW
section
variable {M : MatC} {T : List Addr} {Ev : Nat → Hp → Prop} {X : Cx}
theorem call_all_gen {pins : List (Addr × Obj)} {σ : L2.St} {Q : VK} {lv : Nat} {a : Addr} {s6 : Shared} {E : Value → Shared → Prop} (hr : Room lv X.A) (h : GenReady X pins σ Q false a s6) :
    wpAny (model X.prog X.w) X.A (call (.builtin "all") [.ref a]) (EP X pins σ Q) E s6 := by
  obtain ⟨Y, σ0, HC, g, r, m, ep, ew, hgen, IY, ⟨gs, hgs, hgo⟩, hfin⟩ := h
  rw [← ep, ← ew]
  refine call_function_tree F.kind_all F.plain_all F.entry_all (F.args_all1 _) ?_
  unfold Builtin.«all»
  refine wpAny_bind (m := oneArg "all" _) (wpAny_pure ?_)
  refine wpAny_bind (wpAny_pyIter_gen (hgen IY) ?_)
  refine wpAny_pure ⟨plainId_quiet F.plain_all_loop _, ?_⟩
  exact all_loop hr.hd (by have := hr.dp; omega) hgen (fun s' H' I' ex => hfin s' H' I' ex) m s6 ⟨HC, IY, Ext.refl HC⟩ ⟨gs, hgs, hgo⟩
theorem call_any_gen {pins : List (Addr × Obj)} {σ : L2.St} {Q : VK} {lv : Nat} {a : Addr} {s6 : Shared} {E : Value → Shared → Prop} (hr : Room lv X.A) (h : GenReady X pins σ Q true a s6) :
    wpAny (model X.prog X.w) X.A (call (.builtin "any") [.ref a]) (EP X pins σ Q) E s6 := by
  obtain ⟨Y, σ0, HC, g, r, m, ep, ew, hgen, IY, ⟨gs, hgs, hgo⟩, hfin⟩ := h
  rw [← ep, ← ew]
  refine call_function_tree F.kind_any F.plain_any F.entry_any (F.args_any1 _) ?_
  unfold Builtin.«any»
  refine wpAny_bind (m := oneArg "any" _) (wpAny_pure ?_)
  refine wpAny_bind (wpAny_pyIter_gen (hgen IY) ?_)
  refine wpAny_pure ⟨plainId_quiet F.plain_any_loop _, ?_⟩
  exact any_loop hr.hd (by have := hr.dp; omega) hgen (fun s' H' I' ex => hfin s' H' I' ex) m s6 ⟨HC, IY, Ext.refl HC⟩ ⟨gs, hgs, hgo⟩
def allN (neg : Bool) : Str := if neg then "any" else "all"
theorem de_all {lv : Nat} {neg : Bool} {elt tg iter : PySem.Expr} {ifs : List PySem.Expr} {scope : Scope} {own : List (Str × Nat)} {p pos gpos : Pos} {x : Str} {c P : Addr} {fi : DEnv → Res (List D)} {k k' : DEnv → Bool} {t : Tg} {fc : DEnv → Res Bool} {fe : DEnv → Res D} {ke : DEnv → Bool}
    (hx : x = allN neg) (hgl : Gl X x) (hm : X.mg x = none)
    (hv : ∀ n ∈ tgN t, n ∈ own.map (·.2)) (hr : Room (lv + 1) X.A) (hc : X.calm = true) (hN : X.N.Nodup) (TB : GxR.TabB X.base X.mg c P) (hP : P ∈ T) (hcode : X.env.code = .ref c) (hq' : Nm.nm gpos.line gpos.col = X.env.qual ++ "<genexpr>") (ok : GenOk X.N X.env.scope scope own) (hco : scope.isCoroutine = false) (hdot : scope.names.lookup (".0" : Str) = some .local)
    (hi : PI X tg iter (tI M T Ev fi k)) (hs : ∀ v, genFold iter X.env v = pure v)
    (hg : ∀ (s : Shared) (H : Hp) (cenv : Env) (A' : Around) (fp : List Addr) (pn : List (Addr × Obj)), cenv.scope = scope → Room lv A' → PG (gcx X A' s H cenv fp pn) tg (tG M T t))
    (ht : ∀ (s : Shared) (H : Hp) (cenv : Env) (A' : Around) (fp : List Addr) (pn : List (Addr × Obj)), cenv.scope = scope → Room lv A' → PTs (gcx X A' s H cenv fp pn) ifs (tT M T NoEv fc))
    (he : ∀ (s : Shared) (H : Hp) (cenv : Env) (A' : Around) (fp : List Addr) (pn : List (Addr × Obj)), cenv.scope = scope → Room lv A' → PE (gcx X A' s H cenv fp pn) elt (tE M T NoEv fe ke)) :
    PE X (.Call (.Name x p) [.GeneratorExp elt [⟨tg, iter, ifs, 0⟩] scope gpos] [] pos) (tE M T Ev (allG neg fi t fc fe (own.map (·.2))) k') := by
  refine ⟨fun pins s σ H Q I h => ?_⟩
  have hst : starEach [.GeneratorExp elt [⟨tg, iter, ifs, 0⟩] scope gpos] X.env = (false, eval (.GeneratorExp elt [⟨tg, iter, ifs, 0⟩] scope gpos) X.env) :: starEach [] X.env := rfl
  cases neg with
  | false =>
    subst hx
    refine wpAny_Call_Name_kw (ld_blt (u := .builtin "all") I hgl hm (by decide +kernel) ?_)
    refine PyProof.Rows.callWith_builtin1 ?_ hst (by rfl)
    rw [hst]
    show wpAny _ _ (spliced ((false, eval (.GeneratorExp elt [⟨tg, iter, ifs, 0⟩] scope gpos) X.env) :: backTo pos (starEach [] X.env))) _ _ s
    exact Calls.spliced_cons (gen_make hv hr hc hN TB hP hcode hq' ok hco hdot hi hs hg ht he I h fun a s6 G => Calls.spliced_nil (call_all_gen hr G))
  | true =>
    subst hx
    refine wpAny_Call_Name_kw (ld_blt (u := .builtin "any") I hgl hm (by decide +kernel) ?_)
    refine PyProof.Rows.callWith_builtin1 ?_ hst (by rfl)
    rw [hst]
    show wpAny _ _ (spliced ((false, eval (.GeneratorExp elt [⟨tg, iter, ifs, 0⟩] scope gpos) X.env) :: backTo pos (starEach [] X.env))) _ _ s
    exact Calls.spliced_cons (gen_make hv hr hc hN TB hP hcode hq' ok hco hdot hi hs hg ht he I h fun a s6 G => Calls.spliced_nil (call_any_gen hr G))
end
end Dx
set_option maxHeartbeats 1000000
namespace Dx
variable [Nm]
open PySem PySem.Spec PyProof.Rows L2 GenW
section
variable {X : Cx} {pins : List (Addr × Obj)} {σ : L2.St} {H : Hp} {s : Shared}
/-- the object of a lambda -/
abbrev lamO (X : Cx) (params : Arguments) (body : PySem.Expr) (scope : Scope) (pm : Value) (c' : Addr) (ctv : Value) : Obj :=
  PySem.W.kla_obj "<lambda>" (X.env.qual ++ "<lambda>") params body scope (cloFrom X.env.cells scope.names []) pm c' ctv
/-- a lambda is made -/
theorem lam_mk {c P : Addr} {ps : Array Value} {params : Arguments} {body : PySem.Expr} {scope : Scope} {pos : Pos} {E : Value → Shared → Prop} {Q : Value → Shared → Prop} (I : Inv X pins σ H s) (TB : GxR.TabB X.base X.mg c P) (hcode : X.env.code = .ref c)
    (hq : Nm.nm pos.line pos.col = X.env.qual ++ "<lambda>") (hP : H P = some (.tbl ps)) (ht : TbOk H ps) (hdef : defaultsOf params X.env = ([], [])) (hfree : ∀ y ∈ scope.names, y.2 = .free → ∃ c, X.env.cells.lookup y.1 = some c)
    (h : ∀ (f c' : Addr) (pm ctv : Value) (H1 : Hp) (s1 : Shared), Inv X pins σ H1 s1 → Ext H H1 → s1.heap.get? f = some (lamO X params body scope pm c' ctv) → H1 f = none → s.heap.objs.size ≤ f → H1 c' = some (LamX.CodeO c' (X.env.qual ++ "<lambda>")) → Q (.ref f) s1) :
    wpAny (model X.prog X.w) X.A (eval (.Lambda params body scope pos) X.env) Q E s := by
  refine PySem.W.kla_eval hdef ?_
  have tb : s.heap.get? P = some { cls := .none, data := .fields ps } := I.hok P _ hP
  have bi := TB.bm.keeps I.bk
  have cd := TB.code.keeps I.bk
  have gl := I.mod.glob.keeps I.bk
  have cl := closure_ok hfree
  cases hc : codeAmong pos ps.toList with
  | some cv =>
    obtain ⟨c', e, hco⟩ := ht.2 pos cv hc
    subst e
    rw [hq] at hco
    refine PySem.W.kla_makeFunctionHit (mg := X.mg) (c := c) (P := P) (ps := ps) cl I.ok.glob gl hcode cd tb ht.1 hc bi fun ctv g tk hx hsz => ?_
    exact h g.objs.size c' _ ctv H _ (I.kept fun b o e => Heap.get?_push_of_some _ (hx b o e)) (Ext.refl H) (Heap.get?_push_size _ rfl) (I.hok.fresh hsz) hsz hco
  | none =>
    refine PySem.W.kla_makeFunction (mg := X.mg) (c := c) (P := P) (ps := ps) cl I.ok.glob gl hcode cd tb ht.1 hc TB.gP bi fun c' ctv g tk hx hge hlt hrec htb => ?_
    obtain ⟨c2, oc, vs, t, ec, hoc, hd, hv⟩ := hrec
    cases ec
    have hsz : s.heap.objs.size ≤ g.objs.size := Nat.le_trans hge (Nat.le_of_lt hlt)
    have nC : H c' = none := I.hok.fresh hge
    obtain ⟨x1, _⟩ := ext_code (pos := pos) hP nC
    rw [hq] at x1
    refine h g.objs.size c' _ ctv _ _ (LamX.inv_table (t' := tk) (more := #[rawInt pos.line, rawInt pos.col, .ref c']) I hP (fun b o hb e => Heap.get?_push_of_some _ (hx b o hb e)) (Heap.get?_push_of_some _ htb) hge ⟨oc, vs, t, Heap.get?_push_of_some _ hoc, hd, hv⟩) x1 (Heap.get?_push_size _ rfl) ?_ hsz upd_same
    have n1 : g.objs.size ≠ c' := Nat.ne_of_gt hlt
    have n2 : g.objs.size ≠ P := Nat.ne_of_gt (Nat.lt_of_lt_of_le (Heap.lt_size tb) hsz)
    rw [upd_ne n1, upd_ne n2]
    exact I.hok.fresh hsz
/-- the lambda's own context -/
abbrev lcx (X : Cx) (A' : Around) (s : Shared) (H : Hp) (cenv : Env) : Cx := { X with A := A', s_0 := s, H_0 := H, env := cenv, outer := X.stack, stack := cenv :: X.stack, ex := [], fn := fun _ => false, pn := [], xe := fun _ _ => False }
abbrev lenv (X : Cx) (scope : Scope) (L f c' : Addr) : Env := PySem.W.envX (X.env.qual ++ "<lambda>") scope L f (.ref c') (cloFrom X.env.cells scope.names [])
theorem inv_lam {scope : Scope} {p : Str} {i : Nat} {A' : Around} {f c' : Addr} {v : V} {u : Value} {h1 : Heap} {tk : Nat} (I : Inv X pins σ H s) (ok : GenOk X.N X.env.scope scope [(p, i)]) (hN : X.N.Nodup) (hpl : scope.names.lookup p = some .local)
    (hA : A'.frames = some (lenv X scope s.heap.objs.size f c' :: X.stack)) (hh : X.calm = true → A'.handled = none) (kp : ∀ b o, s.heap.get? b = some o → h1.get? b = some o) (hn : h1.Ns s.heap.objs.size fun y => if y = p then some u else none) (rv : RelV v u) :
    Inv (lcx X A' s H (lenv X scope s.heap.objs.size f c')) [] ((wipe σ [i]).set i (some v)) H { s with heap := h1, toks := tk } := by
  have hip : X.N[i]? = some p := ok.ix (p, i) (by simp)
  have I0 : Inv (gcx X A' s H (lenv X scope s.heap.objs.size f c') [] []) [] (wipe σ [i]) H { s with heap := h1, toks := tk } :=
    inv_gen (own := [(p, i)]) (m := fun y => if y = p then some u else none) I ok hN (fun b hb => absurd hb (by simp)) rfl rfl rfl rfl rfl rfl hA hh kp rfl I.bare hn (fun q hq => absurd hq (by simp))
  have hil : i < σ.length := by
    rw [I.len]
    exact (List.getElem?_eq_some_iff.mp hip).1
  obtain ⟨m, hm, hl⟩ := I0.loc
  refine ⟨I0.ok, I0.os, I0.bare, I0.base, ⟨_, hn, fun j y w e1 e2 e3 => ?_⟩, I0.cell, I0.free, I0.freeC, I0.pin, I0.hok, by rw [List.length_set]; exact I0.len⟩
  by_cases hj : j = i
  · subst hj
    have e1 : X.N[j]? = some y := e1
    rw [hip] at e1; cases e1
    rw [List.getElem?_set_self (by rw [wipe_length]; exact hil)] at e2
    cases e2
    exact ⟨u, rv, .inl ⟨hpl, by simp⟩⟩
  · rw [List.getElem?_set_ne (fun z => hj z.symm)] at e2
    obtain ⟨u', r', q⟩ := hl j y w e1 e2 e3
    refine ⟨u', r', ?_⟩
    rcases q with ⟨q1, q2⟩ | q
    · exfalso
      have q1 : scope.names.lookup y = some .local := q1
      rcases ok.own _ (PySem.mem_of_lookup q1) rfl with z | z
      · have z : y = p := by simpa using z
        subst z
        exact hj (nodup_ix hN e1 hip)
      · exact z (List.mem_of_getElem? e1)
    · exact .inr q
end
end Dx
set_option maxHeartbeats 1000000
namespace Dx
variable [Nm]
open PySem PySem.Spec PyProof.Rows L2 GenW
open PySem.W (EachIs AllAlike Sortable KeyedOut)
section
variable {X : Cx} {pins : List (Addr × Obj)} {σ : L2.St} {H : Hp} {s : Shared}
/-- a record of ours is tracked from now on -/
theorem Inv.adopt {a : Addr} {ob : HO} (I : Inv X pins σ H s) (hf : FpOk X pins H a) (new : ObjOk X.prog X.w (upd H a ob) s.heap a ob) : Inv X pins σ (upd H a ob) s := by
  have hn : H a = none := hf.1
  have ne : ∀ b u, H b = some u → b ≠ a := fun b u e => ne_of_none e hn
  have I2 : Inv X pins σ (upd H a ob) { s with heap := s.heap, gens := s.gens, drawn := s.drawn, toks := s.toks } := by
    refine I.step (ch := [a]) (fun b hb => ?_) (fun b o _ _ _ e _ => e) (fun b o _ _ _ e _ => ⟨o.slots, e⟩) (fun b o hb e n => ?_) (fun b o _ e => ⟨o, e⟩) (fun b xs e => ?_) (fun b o u e => ?_) (fun b ps e => ⟨#[], ?_⟩) (fun m hm => hm) (fun b u e => ?_) I.bare
    · have hb : b = a := by simpa using hb
      subst hb
      exact ⟨hf.2.2.2.1, hf.2.1, hf.2.2.2.2.1, hf.2.2.2.2.2⟩
    · rw [upd_ne (show b ≠ a from fun z => hb (by simp [z]))]; exact n
    · rw [upd_ne (ne b _ e)]; exact e
    · rw [upd_ne (ne b _ e)]; exact e
    · rw [upd_ne (ne b _ e), e]; simp
    · by_cases hb : b = a
      · subst hb
        rw [upd_same] at e; cases e
        exact new
      · rw [upd_ne hb] at e
        exact (I.hok b u e).stay (fun _ _ _ q => q) (fun c q => by rw [upd_ne (ne c _ q)]; exact q) fun c xs q => by rw [upd_ne (ne c _ q)]; exact q
  exact I2
/-- what a key is -/
def KeyR (M : MatC) (H : Hp) (O : Addr → Bool) (u : Value) (k : PyData) : Prop := ∃ d w, Rp M (hide H O) d w ∧ pyD d = some k ∧ RelV w u
theorem KeyR.mono {M : MatC} {H H' : Hp} {O : Addr → Bool} {u : Value} {k : PyData} (e : Ext H H') (h : KeyR M H O u k) : KeyR M H' O u k :=
  let ⟨d, w, h1, h2, h3⟩ := h; ⟨d, w, Rp.mono (e.hide O) d h1, h2, h3⟩
theorem KeyR.reads {M : MatC} {O : Addr → Bool} {u : Value} {k : PyData} (hK : X.K = M.K) (I : Inv X pins σ H s) (h : KeyR M H O u k) : ∃ as, Reads s.heap u k as := by
  obtain ⟨d, w, h1, h2, h3⟩ := h
  exact Dp.reads I k _ _ (hK ▸ dpMono Ext.ofHide (h1.dp h2)) h3
/-- the keys are made, the list is sorted by them -/
theorem keys_sort {M : MatC} {O : Addr → Bool} {A : Around} {E : Value → Shared → Prop} {f : Value} {a kS : Addr} {e1 : Nat} {vs : List Value} {kz : List PyData} {P : PySem.Fin → Shared → Prop} (hK : X.K = M.K) (I : Inv X pins σ H s)
    (fa : FpOk X pins H a) (fk : FpOk X pins H kS) (hne : kS ≠ a) (nk : s.heap.get? kS = some (seqObj "list" #[] 0)) (na : s.heap.get? a = some (seqObj "list" #[] e1))
    (hlen : kz.length = vs.length) (hZ : vs.length ≤ sizeLine) (hal : AllAlike kz) (hsk : Sortable kz) (hu : ∀ d, d ∈ kz → A.units + d.depth < cLine)
    (turn : ∀ (i : Nat) (v : Value) (k : PyData), vs[i]? = some v → kz[i]? = some k → ∀ (pl : List (Addr × Obj)) (s1 : Shared) (H1 : Hp), Inv X (pins ++ pl) σ H1 s1 → Ext H H1 →
      wpAny (model X.prog X.w) A (call f [v]) (fun u s2 => ∃ H2, Inv X (pins ++ pl) σ H2 s2 ∧ Ext H1 H2 ∧ KeyR M H2 O u k) (fun _ _ => False) s1)
    (fin : ∀ s2 H2 out c, Inv X pins σ H2 s2 → Ext H H2 → H2 a = none → s2.heap.get? a = some (seqObj "list" (List.toArray out) c) → KeyedOut false kz vs out → P (.done (.ret .none)) s2) :
    wpAny (model X.prog X.w) A (ksk_rest a f false vs.toArray e1 (.ref kS)) P E s := by
  have stat : ∀ {H' : Hp}, H' a = none → H' kS = none → ∀ b ∈ [a, kS], FpOk X pins H' b := fun h1 h2 b hb => by
    rcases List.mem_cons.mp hb with z | hb
    · rw [z]; exact ⟨h1, fa.2⟩
    · have z : b = kS := by simpa using hb
      rw [z]; exact ⟨h2, fk.2⟩
  unfold ksk_rest
  refine wpAny_bind (wpAny_rule ?_)
  first
    | rw [List.forIn_toArray]
    | (rw [← Array.forIn_toList]; simp only [List.toList_toArray])
  refine wpAny_bind (ksk_fold (fun i s' => ∃ H' ka e, Inv X pins σ H' s' ∧ Ext H H' ∧ H' a = none ∧ H' kS = none ∧ s'.heap.get? kS = some (seqObj "list" ka e) ∧ s'.heap.get? a = some (seqObj "list" #[] e1) ∧ EachIs (KeyR M H' O) ka.toList (kz.take i)) vs 0 s
    ⟨H, #[], 0, I, Ext.refl H, fa.1, fk.1, nk, na, by rw [List.take_zero]; exact .nil⟩ (fun j x s' hx hJ => ?_) fun s' hJ => ?_)
  · obtain ⟨H', ka, e, I', ex, n1, n2, g1, g2, hk⟩ := hJ
    simp only [Nat.zero_add] at hk ⊢
    have hj : j < vs.length := (List.getElem?_eq_some_iff.mp hx).1
    obtain ⟨k, hkj⟩ : ∃ k, kz[j]? = some k := ⟨_, List.getElem?_eq_getElem (by omega)⟩
    have hz : ka.size ≤ vs.length := by
      have q := hk.length
      rw [Array.length_toList, List.length_take] at q
      omega
    have Ip := I'.pinned (fp := [a, kS]) (stat n1 n2) fun b hb => by
      rcases List.mem_cons.mp hb with z | hb
      · rw [z]; exact ⟨_, g2, fun v z => by cases z⟩
      · have z : b = kS := by simpa using hb
        rw [z]; exact ⟨_, g1, fun v z => by cases z⟩
    refine wpAny_bind (wpAny_attempt (wpAny_mono (turn j x k hx hkj _ s' H' Ip ex) (fun v s2 he => ?_) fun _ _ z => z.elim))
    obtain ⟨H2, I2, e2, hkey⟩ := he
    have pa := I2.pin (a, seqObj "list" #[] e1) (List.mem_append_right _ (List.mem_append_right _ (mem_pinsAt (by simp) g2)))
    have pk := I2.pin (kS, seqObj "list" ka e) (List.mem_append_right _ (List.mem_append_right _ (mem_pinsAt (by simp) g1)))
    have I3 := I2.unpinned (pins := pins)
    have sb := Heap.SameBut.update s2.heap kS (Obj.mapSeq (·.push v))
    obtain ⟨c2, hc2⟩ : ∃ c2, (s2.heap.update kS (Obj.mapSeq (·.push v))).get? kS = some (seqObj "list" (ka.push v) c2) := ⟨_, get?_update_seq pk.1 (·.push v)⟩
    have I4 : Inv X pins σ H2 { s2 with heap := s2.heap.update kS (Obj.mapSeq (·.push v)), toks := s2.toks } := I3.turnedL (ch := [kS]) (fun b o hb q => (sb.2 b (fun z => hb (by simp [z]))).trans q) fun b hb => stat pa.2.1 pk.2.1 b (List.mem_cons_of_mem _ hb)
    try dsimp only
    refine wpAny_bind (listUpdate_at pk.1 rfl ?_ (Nat.le_trans hz hZ) (Nat.le_trans (Nat.le_of_eq (Array.size_push ..)) (Nat.succ_le_succ (Nat.le_trans hz hZ))))
    refine wpAny_pure ⟨rfl, H2, ka.push v, c2, I4, ex.trans e2, pa.2.1, pk.2.1, hc2, (sb.2 a (fun z => hne z.symm)).trans pa.1, ?_⟩
    have e3 : kz.take (j + 1) = kz.take j ++ [k] := by rw [List.take_add_one, hkj]; rfl
    rw [e3, Array.toList_push]
    exact PySem.W.each_snoc hkey (hk.mono fun _ _ z => z.mono e2)
  · obtain ⟨H', ka, e, I', ex, n1, n2, g1, g2, hk⟩ := hJ
    have e3 : kz.take (0 + vs.length) = kz := List.take_of_length_le (by omega)
    rw [e3] at hk
    have hr : EachIs (fun v k => ∃ as, Reads s'.heap v k as) ka.toList kz := hk.mono fun v k z => z.reads hK I'
    have hsz : ka.size = vs.length := by
      have q := hk.length
      rw [Array.length_toList] at q
      omega
    try dsimp only
    refine wpAny_bind (listItems_at g1 rfl ?_)
    have hh : ∀ b o, b ≠ kS → s'.heap.get? b = some o → (PySem.W.hideAll s'.heap [kS]).get? b = some o := fun b o hb q => PySem.W.hideAll_get _ q (by simpa using hb)
    refine PySem.W.keyH_end (κ := PySem.W.dataKind s'.heap kz) (h₁ := PySem.W.hideAll s'.heap [kS]) (fun b o _ q => PySem.W.of_hideAll _ q) (PySem.W.hideAll_none _ (by simp)) g1 g2 hne (PySem.W.SortsAt.data hr hal hsk hu) hsz hZ fun h3 tk3 c k3 n3 => ?_
    have I5 : Inv X pins σ H' { s' with heap := h3, toks := tk3 } := I'.turnedL (ch := [a, kS]) (fun b o hb q => k3 b o (fun z => hb (by simp [z])) (hh b o (fun z => hb (by simp [z])) q)) (stat n1 n2)
    exact fin _ H' _ c I5 ex n1 n3 ⟨s'.heap, ka.toList, hal, rfl, hr⟩
end
end Dx
set_option maxHeartbeats 1000000
namespace Dx
variable [Nm]
open PySem PySem.Spec PyProof.Rows L2 GenW
open PySem.W (EachIs AllAlike Sortable KeyedOut)
section
variable {prog : Program} {w : World} {A : Around} {E : Value → Shared → Prop} {s : Shared}
/-- the heap in which a sequence has been collected -/
abbrev colH (h : Heap) (vs : List Value) : Heap := (h.push (seqObj "list" #[] 0)).update h.objs.size (Obj.mapSeq (· ++ vs.toArray))
theorem collect_tup {l : Addr} {vs : List Value} {Q : List Value → Shared → Prop} (hl : IsTup s.heap l vs.toArray) (hsz : vs.length ≤ sizeLine) (h : Q vs { s with heap := colH s.heap vs }) : wpAny (model prog w) A (collect (.ref l)) Q E s := by
  obtain ⟨o, ho, hc, n, hd⟩ := hl
  have hn : (s.heap.push (seqObj "list" #[] 0)).get? s.heap.objs.size = some (seqObj "list" #[] 0) := Heap.get?_push_size _ rfl
  have ho' : (s.heap.push (seqObj "list" #[] 0)).get? l = some o := Heap.get?_push_of_some _ ho
  have e0 : (#[] : Array Value) ++ vs.toArray = vs.toArray := by simp
  unfold collect
  refine wpAny_bind (wpAny_runValue (codeAny_builtin entry_proto_collect' ?_))
  show wpAny _ _ (newList [] >>= _) _ _ s
  refine wpAny_bind (wpAny_newList ?_ (Nat.zero_le _))
  refine wpAny_pure ⟨Code.quiet_builtin _ (by decide +kernel), codeAny_builtin entry_list_iadd' ?_⟩
  show wpAny _ _ (Builtin.List.listExtendWith (.ref s.heap.objs.size) (.ref l) (.ref s.heap.objs.size)) _ _ { s with heap := s.heap.push (seqObj "list" #[] 0) }
  unfold Builtin.List.listExtendWith
  refine wpAny_bind (wpAny_typeOf (T := "tuple") ⟨o, ho', hc⟩ ?_)
  rw [if_pos (by rw [show (Value.type "tuple" == Value.type "tuple") = true from rfl]; simp)]
  refine wpAny_bind (listItems_at ho' hd ?_)
  refine wpAny_bind (listItems_at hn rfl ?_)
  rw [if_neg (by simp)]
  refine wpAny_bind (listUpdate_at hn rfl ?_ (Nat.zero_le _) (by rw [e0, List.size_toArray]; omega))
  refine wpAny_pure ?_
  refine wpAny_bind (wpAny_load (get?_update_seq hn _) ?_)
  show wpAny _ _ (pure ((#[] : Array Value) ++ vs.toArray).toList) Q E _
  rw [e0]
  exact wpAny_pure h
/-- what sorted takes -/
def SeqAny (h : Heap) (l : Addr) (vs : List Value) : Prop := h.IsList l vs.toArray ∨ IsTup h l vs.toArray
theorem sorted_by_sort {l : Addr} {vs : List Value} {kw : List (Str × Value)} {Q : Value → Shared → Prop} (hl : SeqAny s.heap l vs) (hL : vs.length ≤ sizeLine) (ha1 : argsOk "sorted" ⟨[.ref l], kw⟩) (ha2 : ∀ x, argsOk "list.sort" ⟨[.ref x], kw⟩)
    (body : ∀ E' : Value → Shared → Prop, wpAny (model prog w) A.in1.in1 (Builtin.«list.sort» ⟨[.ref (s.heap.objs.size + 1)], kw⟩) (fun f s' => f = .done (.ret .none) ∧ Q (.ref (s.heap.objs.size + 1)) s') E' { s with heap := PySem.W.copyHeap s.heap vs }) :
    wpAny (model prog w) A (call (.builtin "sorted") [.ref l] kw) Q E s := by
  rcases hl with hl | hl
  · exact PySem.W.sorted_of_sort hl hL ha1 ha2 body
  have hsz : (colH s.heap vs).objs.size = s.heap.objs.size + 1 := by rw [Heap.size_update, size_push']
  refine call_function_entry_kw kind_sorted plain_sorted entry_sorted ha1 ?_
  unfold Builtin.«sorted»
  refine wpAny_bind (m := checkCount "sorted" 1 1 _) (wpAny_pure ?_)
  refine wpAny_bind (collect_tup hl hL ?_)
  refine wpAny_bind (wpAny_newList ?_ hL)
  show wpAny _ _ _ _ _ { s with heap := PySem.W.copyHeap s.heap vs }
  rw [hsz]
  refine wpAny_bind (wpAny_holding (wpAny_call_entry_kw slot_list_sort ⟨_, PySem.W.copyHeap_at s.heap vs, rfl⟩ entry_list_sort ?_ (ha2 _)))
  refine wpAny_mono (body _) (fun f s' hf => ?_) fun _ _ e => e
  obtain ⟨rfl, hq⟩ := hf
  exact ⟨_, rfl, wpAny_pure ⟨_, rfl, hq⟩⟩
end
section
variable {M : MatC} {T : List Addr} {Ev : Nat → Hp → Prop} {X : Cx} {pins : List (Addr × Obj)} {σ : L2.St} {H : Hp} {s : Shared}
theorem room_in2 {lv : Nat} {A : Around} (r : Room (lv + 1) A) (env : Env) : Room lv (A.in1.in1.deeper env) :=
  ⟨r.hd, by have := r.dp; show A.depth + 1 + 3 * lv + 5 < _; omega, by have := r.un; show A.units + 1 + 1 + 3 + 16 * lv + 200 < _; omega⟩
/-- the lambda called with one thing -/
theorem lam_call {lv : Nat} {scope : Scope} {p : Str} {i : Nat} {params : Arguments} {body : PySem.Expr} {pm ctv : Value} {f c' : Addr} {u : Value} {d kd : D} {v : V} {fk : DEnv → Res D} {kk : DEnv → Bool} {H₀ : Hp} {B O : Addr → Bool} {env : DEnv}
    (I : Inv X pins σ H s) (R : EnvR M T H₀ B O σ H env) (hr : Room (lv + 1) X.A) (hc : X.calm = true) (hN : X.N.Nodup) (ok : GenOk X.N X.env.scope scope [(p, i)]) (hco : scope.isCoroutine = false) (hge : scope.isGenerator = false) (hpl : scope.names.lookup p = some .local)
    (hf : s.heap.get? f = some (lamO X params body scope pm c' ctv)) (hcd : H c' = some (LamX.CodeO c' (X.env.qual ++ "<lambda>")))
    (hb : bindArgs (PySem.W.kla_fn "<lambda>" (X.env.qual ++ "<lambda>") params body scope (cloFrom X.env.cells scope.names []) pm (.ref c') ctv) ⟨[u], []⟩ = pure [(p, u)])
    (he : ∀ (s : Shared) (H : Hp) (cenv : Env) (A' : Around), cenv.scope = scope → Room lv A' → PE (lcx X A' s H cenv) body (tE M T NoEv fk kk))
    (rd : Rp M (hide H O) d v) (rv : RelV v u) (hk : fk ((wipeE env [i]).set i (.sh d)) = .ok kd) :
    wpAny (model X.prog X.w) X.A.in1.in1 (call (.ref f) [u]) (fun r s2 => ∃ H2 w, Inv X pins σ H2 s2 ∧ Ext H H2 ∧ RelV w r ∧ BRp M H2 O kd w ∧ (kk ((wipeE env [i]).set i (.sh d)) = true → Rp M (hide H2 O) kd w)) (fun _ _ => False) s := by
  obtain ⟨⟨oc, vs, t, hoc, hdc, hvc⟩, _, _⟩ := I.hok c' _ hcd
  have hil : i < env.length := by
    rw [← R.len, I.len]
    exact (List.getElem?_eq_some_iff.mp (ok.ix (p, i) (by simp))).1
  refine wpAny_call (PySem.W.kla_callFunE (by have := hr.dp; show X.A.depth < _; omega) hf rfl hco hge rfl ⟨c', oc, vs, t, rfl, hoc, hdc, hvc⟩ ?_)
  rw [hb]
  refine wpAny_pure (wpAny_newFunctionEnv ok.nocell (fun y hy => by rw [List.mem_singleton.mp hy]; exact hpl) (fun h1 hns hsb => ⟨I.nolimit.fresh _ hsb, ?_⟩) ok.kind)
  have kp : ∀ b o, s.heap.get? b = some o → h1.get? b = some o := fun b o e => hsb.extBut b o (Nat.ne_of_lt (Heap.lt_size e)) (Heap.get?_push_of_some _ e)
  have hns' : h1.Ns s.heap.objs.size fun y => if y = p then some u else none := by
    have e : (fun y : Str => ([(p, u)] : List (Str × Value)).reverse.lookup y) = fun y => if y = p then some u else none := by
      funext y
      by_cases hy : y = p
      · subst hy; simp
      · have : (y == p) = false := by simpa using hy
        simp [List.lookup, this, hy]
    rw [← e]; exact hns
  have rA : Room lv (X.A.in1.in1.deeper (lenv X scope s.heap.objs.size f c')) := room_in2 hr _
  have fr : X.A.in1.in1.frames = some X.stack := I.ok.frames
  have J := inv_lam (v := v) (tk := s.toks + 1) I ok hN hpl (Around.frames_deeper fr) (fun _ => rA.hd) kp hns' rv
  have R1 : EnvR M T H₀ B O ((wipe σ [i]).set i (some v)) H ((wipeE env [i]).set i (.sh d)) := (R.wipe [i]).setSh rd i
  refine PySem.W.kla_codeExpr (wpAny_mono ((he s H _ _ rfl rA).run [] _ _ H (fun w H2 => Ext H H2 ∧ BRp M H2 O kd w ∧ (kk ((wipeE env [i]).set i (.sh d)) = true → Rp M (hide H2 O) kd w)) J ⟨H₀, B, O, _, R1, by rw [hk]; exact fun H2 e w b k => ⟨e, b, k⟩⟩) (fun r s2 hq => ?_) fun _ _ z => z.elim)
  obtain ⟨w, H2, J2, r2, e2, b2, k2⟩ := hq
  exact ⟨H2, w, I.call' (ch := []) J2.os J2.base J2.hok J2.bare (fun b hb => absurd hb (by simp)), e2, r2, b2, k2⟩
end
end Dx
set_option maxHeartbeats 1000000
namespace Dx
variable [Nm]
open PySem PySem.Spec PyProof.Rows L2 GenW
open PySem.W (EachIs AllAlike Sortable KeyedOut)
section
variable {M : MatC} {T : List Addr} {Ev : Nat → Hp → Prop} {X : Cx}
theorem keysD_len {f : D → Res D} : ∀ {ds ks : List D}, keysD f ds = .ok ks → ks.length = ds.length ∧ ∀ (i : Nat) (d k : D), ds[i]? = some d → ks[i]? = some k → f d = .ok k
  | [], ks, h => by cases h; exact ⟨rfl, fun i d k e => by simp at e⟩
  | d :: ds, ks, h => by
    obtain ⟨x, h1, h⟩ := Res.bind_eq_ok (show (f d >>= fun x => keysD f ds >>= fun r => .ok (x :: r)) = .ok ks from h)
    obtain ⟨r, h2, h⟩ := Res.bind_eq_ok h
    cases h
    obtain ⟨q1, q2⟩ := keysD_len h2
    refine ⟨by rw [List.length_cons, List.length_cons, q1], fun i d' k e1 e2 => ?_⟩
    cases i with
    | zero =>
      simp at e1 e2
      subst e1; subst e2; exact h1
    | succ i => exact q2 i d' k (by simpa using e1) (by simpa using e2)
theorem each_pairs {H : Hp} : ∀ {ks ds : List D} {ws : List V} {us : List Value}, ks.length = ds.length → RpL M H ds ws → Vals ws us → EachIs (fun u (p : D × D) => ∃ w, Rp M H p.2 w ∧ RelV w u) us (ks.zip ds) := by
  intro ks ds ws us hl hr hv
  induction hv generalizing ks ds with
  | nil => cases ds with
    | nil => rw [List.zip_nil_right]; exact .nil
    | cons d ds => unfold RpL at hr; obtain ⟨_, _, z, _⟩ := hr; cases z
  | cons r t ih => cases ds with
    | nil => unfold RpL at hr; cases hr
    | cons d ds => cases ks with
      | nil => simp at hl
      | cons k ks =>
        unfold RpL at hr
        obtain ⟨v, rr, z, h2, h3⟩ := hr
        cases z
        exact .cons ⟨_, h2, r⟩ (ih (by simpa using hl) h3)
theorem pairs_vals {H : Hp} : ∀ {l : List (D × D)} {us : List Value}, EachIs (fun u (p : D × D) => ∃ w, Rp M H p.2 w ∧ RelV w u) us l → ∃ ws, RpL M H (l.map (·.2)) ws ∧ Vals ws us := by
  intro l us h
  induction h with
  | nil => exact ⟨[], .nil, .nil⟩
  | cons h t ih =>
    obtain ⟨w, h1, h2⟩ := h
    obtain ⟨ws, h3, h4⟩ := ih
    exact ⟨w :: ws, .cons h1 h3, .cons h2 h4⟩
theorem zip_key {ks ds : List D} (h : ks.length = ds.length) : (ks.zip ds).map (fun p => pyE p.1) = ks.map pyE := by
  rw [show (fun p : D × D => pyE p.1) = pyE ∘ (·.1) from rfl, ← List.map_map]
  congr 1
  induction ks generalizing ds with
  | nil => rfl
  | cons k ks ih => cases ds with
    | nil => simp at h
    | cons d ds => rw [List.zip_cons_cons, List.map_cons, ih (by simpa using h)]
theorem dn_sortK {lv : Nat} {e : PySem.Expr} {scope : Scope} {p : Str} {i : Nat} {params : Arguments} {body : PySem.Expr} {x : Str} {p0 pos lpos kpos : Pos} {c P : Addr} {f : DEnv → Res D} {k : DEnv → Bool} {fk : DEnv → Res D} {kk : DEnv → Bool}
    (hK : X.K = M.K) (hu : X.A.units + 65 < cLine) (hx : x = "sorted") (hgl : Gl X x) (hm : X.mg x = none) (hr : Room (lv + 1) X.A) (hc : X.calm = true) (hN : X.N.Nodup) (TB : GxR.TabB X.base X.mg c P) (hP : P ∈ T) (hcode : X.env.code = .ref c) (hq : Nm.nm lpos.line lpos.col = X.env.qual ++ "<lambda>")
    (ok : GenOk X.N X.env.scope scope [(p, i)]) (hco : scope.isCoroutine = false) (hge : scope.isGenerator = false) (hpl : scope.names.lookup p = some .local) (st1 : starEach [e] X.env = (false, eval e X.env) :: starEach [] X.env)
    (hdef : defaultsOf params X.env = ([], [])) (hb : ∀ (q : Str) (cl : List (Str × Addr)) (pm : Value) (c' : Value) (ctv u : Value), bindArgs (PySem.W.kla_fn "<lambda>" q params body scope cl pm c' ctv) ⟨[u], []⟩ = pure [(p, u)])
    (ha : PE X e (tE M T Ev f k)) (he : ∀ (s : Shared) (H : Hp) (cenv : Env) (A' : Around), cenv.scope = scope → Room lv A' → PE (lcx X A' s H cenv) body (tE M T NoEv fk kk)) :
    PE X (.Call (.Name x p0) [e] [⟨some "key", .Lambda params body scope lpos, kpos⟩] pos) (tN M T Ev fun env => f env >>= sortKG i fk kk (wipeE env [i])) := by
  subst hx
  refine ⟨fun pins s σ H Q I h => ?_⟩
  obtain ⟨H₀, B, O, env, R, h⟩ := h
  rw [Res.bind_assoc] at h
  have hfree : ∀ y ∈ scope.names, y.2 = .free → ∃ c, X.env.cells.lookup y.1 = some c := fun y hy e => by
    rcases ok.free y hy e with z | z
    · exact I.ok.has _ (.inl z)
    · exact I.ok.has _ (.inr z)
  refine wpAny_Call_Name_kw (ld_blt (u := .builtin "sorted") I hgl hm (by decide +kernel) ?_)
  refine PyProof.Rows.callWith_kw ?_ (by rw [st1]; rfl) (by rw [st1]; rfl) rfl rfl
  rw [st1]
  show wpAny _ _ (spliced ((false, eval e X.env) :: backTo pos (starEach [] X.env))) _ _ s
  refine Calls.spliced_cons (wpAny_mono (ha.run pins s σ H (fun v H1 => ∃ d, f env = .ok d ∧ Ext H H1 ∧ BRp M H1 O d v) I ⟨H₀, B, O, env, R, ?_⟩) (fun u s1 h1 => ?_) fun _ _ z => z)
  · cases hf : f env with
    | ok d => exact fun H1 e1 v b _ => ⟨d, rfl, e1, b⟩
    | exc n => rw [hf] at h; exact h
    | bad => rw [hf] at h; exact h.elim
  obtain ⟨v, H1, I1, r1, d, hf, e1, b1⟩ := h1
  rw [hf] at h
  have h : After Ev (sortKG i fk kk (wipeE env [i]) d >>= ownOf) H fun s H1 => ∀ p, H p = none → OwnAt M H1 (hide H1 (plus O p)) p s → Q (.ref p) H1 := h
  -- the data of the result
  have hs : ∃ ds ks, items? d = some ds ∧ keysD (fun d => if kk ((wipeE env [i]).set i (.sh d)) = true then noExc (fk ((wipeE env [i]).set i (.sh d))) else .bad) ds = .ok ks ∧ sortOk ks = true ∧ fits ks.length = true ∧
      ∀ H1, Ext H H1 → ∀ p, H p = none → OwnAt M H1 (hide H1 (plus O p)) p (.own (((ks.zip ds).mergeSort fun p q => leD p.1 q.1).map (·.2))) → Q (.ref p) H1 := by
    unfold sortKG at h
    cases hi : items? d with
    | none => rw [hi] at h; exact h.elim
    | some ds =>
      rw [hi] at h
      have h : After Ev ((keysD (fun d => if kk ((wipeE env [i]).set i (.sh d)) = true then noExc (fk ((wipeE env [i]).set i (.sh d))) else .bad) ds >>= fun ks => if (sortOk ks && fits ks.length) = true then (.ok (.lst (((ks.zip ds).mergeSort fun p q => leD p.1 q.1).map (·.2))) : Res D) else .bad) >>= ownOf) H _ := h
      rw [Res.bind_assoc] at h
      cases hk : keysD (fun d => if kk ((wipeE env [i]).set i (.sh d)) = true then noExc (fk ((wipeE env [i]).set i (.sh d))) else .bad) ds with
      | ok ks =>
        rw [hk] at h
        have h : After Ev ((if (sortOk ks && fits ks.length) = true then (.ok (.lst (((ks.zip ds).mergeSort fun p q => leD p.1 q.1).map (·.2))) : Res D) else .bad) >>= ownOf) H _ := h
        by_cases hc : (sortOk ks && fits ks.length) = true
        · rw [if_pos hc] at h
          rw [Bool.and_eq_true] at hc
          exact ⟨ds, ks, rfl, hk, hc.1, hc.2, h⟩
        · rw [if_neg hc] at h; exact h.elim
      | exc n =>
        exfalso
        have : ∀ (l : List D) n, keysD (fun d => if kk ((wipeE env [i]).set i (.sh d)) = true then noExc (fk ((wipeE env [i]).set i (.sh d))) else .bad) l ≠ .exc n := by
          intro l
          induction l with
          | nil => intro n z; cases z
          | cons d l ih =>
            intro n z
            have z : ((if kk ((wipeE env [i]).set i (.sh d)) = true then noExc (fk ((wipeE env [i]).set i (.sh d))) else .bad) >>= fun x => keysD (fun d => if kk ((wipeE env [i]).set i (.sh d)) = true then noExc (fk ((wipeE env [i]).set i (.sh d))) else .bad) l >>= fun r => (.ok (x :: r) : Res (List D))) = .exc n := z
            by_cases hc : kk ((wipeE env [i]).set i (.sh d)) = true
            · rw [if_pos hc] at z
              cases q : noExc (fk ((wipeE env [i]).set i (.sh d))) with
              | ok y =>
                rw [q] at z
                have z : (keysD (fun d => if kk ((wipeE env [i]).set i (.sh d)) = true then noExc (fk ((wipeE env [i]).set i (.sh d))) else .bad) l >>= fun r => (.ok (y :: r) : Res (List D))) = .exc n := z
                cases q2 : keysD (fun d => if kk ((wipeE env [i]).set i (.sh d)) = true then noExc (fk ((wipeE env [i]).set i (.sh d))) else .bad) l with
                | ok r => rw [q2] at z; cases z
                | exc m => exact ih m q2
                | bad => rw [q2] at z; cases z
              | exc m => exact noExc_ne q
              | bad => rw [q] at z; cases z
            · rw [if_neg hc] at z; cases z
        exact this ds n hk
      | bad => rw [hk] at h; exact h.elim
  obtain ⟨ds, ks, hi, hk, hso, hfi, hQ⟩ := hs
  obtain ⟨hlen, hkeys⟩ := keysD_len hk
  obtain ⟨k1, k2, k3⟩ := sortOk_of hso
  have hZ : ds.length ≤ sizeLine := by rw [← hlen]; exact fits_le hfi
  refine Calls.spliced_nil ?_
  obtain ⟨ps, hPt, hTb⟩ := (R.mono e1).tabs P hP
  show wpAny _ _ (evalAll [do let v ← eval (.Lambda params body scope lpos) X.env; standAt pos; pure v]) _ _ s1
  refine wpAny_evalAll_cons (wpAny_bind (lam_mk I1 TB hcode hq hPt hTb hdef hfree fun f c' pm ctv H2 s2 I2 e2 hfo hfn hfs hco2 => wpAny_bind (wpAny_standAt (wpAny_pure (wpAny_evalAll_nil ?_)))))
  -- the thing that is sorted
  obtain ⟨l, ws, us, rfl, rv, hl, hr0⟩ : ∃ l ws us, v = .ref l ∧ Vals ws us ∧ SeqAny s2.heap l us ∧ RpL M (hide H1 O) ds ws := by
    cases d <;> first | cases hi | skip
    · obtain ⟨a, ws, rfl, h1, h2⟩ := br_tup b1
      obtain ⟨us, r, pl, _⟩ := I2.tuple (SqT.of ((e2.keep a _ (hide_some h1).2 fun ps z => nomatch z)))
      exact ⟨a, ws, us, rfl, r, .inr pl, h2⟩
    · obtain ⟨a, ws, rfl, h1, h2⟩ := br_lst b1
      obtain ⟨us, r, pl, _⟩ := I2.list (SqL.of (e2.keep a _ h1 fun ps z => nomatch z))
      exact ⟨a, ws, us, rfl, r, .inl pl.isList, h2⟩
    · obtain ⟨a, ws, o, rfl, _, _, h1, h2⟩ := br_ftup b1
      obtain ⟨us, r, pl, _⟩ := I2.tuple (sqT_frz (e2.keep a _ h1 fun ps z => nomatch z))
      exact ⟨a, ws, us, rfl, r, .inr pl, h2⟩
  have hr2 : RpL M (hide H2 O) ds ws := RpL.mono (e2.hide O) ds hr0
  have ul : us.length = ds.length := by rw [← rv.length, hr2.length]
  cases r1
  show wpAny _ _ (call (.builtin "sorted") [.ref l] [(Str.ofString "key", .ref f)]) _ _ s2
  refine sorted_by_sort hl (by rw [ul]; exact hZ) (PyProof.Rows.ksk_s1 _ _) (fun _ => PyProof.Rows.ksk_l1 _ _) fun E' => ?_
  rw [ksk_t1]
  generalize ha0 : s2.heap.objs.size + 1 = a
  have ho : (PySem.W.copyHeap s2.heap us).get? a = some (seqObj "list" us.toArray 0) := by rw [← ha0]; exact PySem.W.copyHeap_at _ _
  have has : s2.heap.objs.size ≤ a := by rw [← ha0]; exact Nat.le_succ _
  have olda : ∀ b o, s2.heap.get? b = some o → b ≠ a := fun b o q => Nat.ne_of_lt (Nat.lt_of_lt_of_le (Heap.lt_size q) has)
  obtain ⟨ep, ho1⟩ : ∃ ep, ((PySem.W.copyHeap s2.heap us).update a (Obj.mapSeq fun _ => (#[] : Array Value))).get? a = some (seqObj "list" #[] ep) := ⟨_, get?_update_seq ho fun _ => #[]⟩
  unfold ksk_tree
  refine wpAny_bind (listItems_at ho rfl ?_)
  refine wpAny_bind (listUpdate_at ho rfl ?_ (by rw [List.size_toArray, ul]; exact hZ) (Nat.zero_le _))
  refine wpAny_bind (seqEpoch_at ho1 rfl ?_)
  refine wpAny_bind (wpAny_newTuple ?_ (by show us.length ≤ _; rw [ul]; exact hZ))
  refine wpAny_bind (wpAny_newList ?_ (Nat.zero_le _))
  refine wpAny_holding ?_
  generalize hkS : (((PySem.W.copyHeap s2.heap us).update a (Obj.mapSeq fun _ => (#[] : Array Value))).push (seqObj "tuple" us.toArray 0)).objs.size = kS
  generalize hg : (((PySem.W.copyHeap s2.heap us).update a (Obj.mapSeq fun _ => (#[] : Array Value))).push (seqObj "tuple" us.toArray 0)).push (seqObj "list" #[] 0) = g
  have ca : a < (PySem.W.copyHeap s2.heap us).objs.size := Heap.lt_size ho
  have kSz : kS = (PySem.W.copyHeap s2.heap us).objs.size + 1 := by rw [← hkS, size_push', Heap.size_update]
  have hne : kS ≠ a := by rw [kSz]; exact Nat.ne_of_gt (Nat.lt_succ_of_lt ca)
  have hkSs : s2.heap.objs.size ≤ kS := by rw [kSz]; exact Nat.le_trans has (Nat.le_succ_of_le (Nat.le_of_lt ca))
  have keepg : ∀ b o, s2.heap.get? b = some o → g.get? b = some o := fun b o q => by
    rw [← hg]
    exact PySem.W.sortingHeap_old (vs := us) (olda b o q) (PySem.W.copyHeap_old q)
  have gk : g.get? kS = some (seqObj "list" #[] 0) := by rw [← hg, ← hkS]; exact Heap.get?_push_size _ rfl
  have ga : g.get? a = some (seqObj "list" #[] ep) := by rw [← hg]; exact Heap.get?_push_of_some _ (Heap.get?_push_of_some _ ho1)
  have fpf : FpOk X pins H2 f := I1.fpOk hfs hfn
  have Ip : Inv X (pins ++ pinsAt [f] s2.heap) σ H2 s2 := I2.pinned (fun b hb => by rw [show b = f by simpa using hb]; exact fpf) fun b hb => by rw [show b = f by simpa using hb]; exact ⟨_, hfo, fun v z => nomatch z⟩
  have hpf : (f, lamO X params body scope pm c' ctv) ∈ pinsAt [f] s2.heap := mem_pinsAt (by simp) hfo
  have Ig : Inv X (pins ++ pinsAt [f] s2.heap) σ H2 { s2 with heap := g, toks := s2.toks } := Ip.kept keepg
  have e02 : Ext H H2 := e1.trans e2
  refine keys_sort (M := M) (O := O) (kz := ks.map pyE) hK Ig (Ip.fpOk has (I2.hok.fresh has)) (Ip.fpOk hkSs (I2.hok.fresh hkSs)) hne gk ga (by rw [List.length_map, ul]; exact hlen) (by rw [ul]; exact hZ) k2 k3 (fun q hq => ?_) (fun j v k hv hk2 pl s3 H3 I3 e3 => ?_) fun s3 H3 out cc I3 e3 na3 g3 ko => ⟨rfl, ?_⟩
  · obtain ⟨dd, hd, rfl⟩ := List.mem_map.mp hq
    obtain ⟨pp, _, q2, q3⟩ := k1 dd hd
    rw [q2]
    show X.A.units + 1 + 1 + _ < _
    omega
  · obtain ⟨w, hw, rw0⟩ : ∃ w, ws[j]? = some w ∧ RelV w v := by
      have hjl : j < ws.length := by
        rw [rv.length]; exact (List.getElem?_eq_some_iff.mp hv).1
      obtain ⟨u2, q1, q2⟩ := rv.get (List.getElem?_eq_getElem hjl)
      rw [hv] at q1; cases q1
      exact ⟨_, List.getElem?_eq_getElem hjl, q2⟩
    obtain ⟨dd, hd, rd⟩ := hr2.getV hw
    obtain ⟨kd, hkd, rfl⟩ : ∃ kd, ks[j]? = some kd ∧ pyE kd = k := by
      rw [List.getElem?_map] at hk2
      cases q : ks[j]? with
      | none => rw [q] at hk2; cases hk2
      | some kd => rw [q] at hk2; cases hk2; exact ⟨kd, rfl, rfl⟩
    have hval := hkeys j dd kd hd hkd
    obtain ⟨hkk, hval⟩ : kk ((wipeE env [i]).set i (.sh dd)) = true ∧ fk ((wipeE env [i]).set i (.sh dd)) = .ok kd := by
      by_cases hc : kk ((wipeE env [i]).set i (.sh dd)) = true
      · rw [if_pos hc] at hval; exact ⟨hc, noExc_of hval⟩
      · rw [if_neg hc] at hval; cases hval
    have e03 : Ext H H3 := e02.trans e3
    refine wpAny_mono (lam_call (M := M) (T := T) (lv := lv) (kk := kk) I3 (R.mono e03) hr hc hN ok hco hge hpl (I3.pin (f, _) (List.mem_append_right _ (List.mem_append_left _ (List.mem_append_right _ hpf)))).1 (e3.code _ _ hco2) (hb _ _ _ _ _ _) he (Rp.mono (e3.hide O) dd rd) rw0 hval) (fun r s4 hq => ?_) fun _ _ z => z
    obtain ⟨H4, w4, I4, e4, r4, _, rk⟩ := hq
    obtain ⟨pp, q1, q2, _⟩ := k1 kd (List.mem_of_getElem? hkd)
    exact ⟨H4, I4, e4, kd, w4, rk hkk, by rw [q2]; exact q1, r4⟩
  · have hr3 : RpL M (hide H3 O) ds ws := RpL.mono (e3.hide O) ds hr2
    have ep3 : EachIs (fun u (p : D × D) => ∃ w, Rp M (hide H3 O) p.2 w ∧ RelV w u) us (ks.zip ds) := each_pairs hlen hr3 rv
    have zk := zip_key hlen
    rw [← zk] at ko
    have eo := PySem.W.keyedOut_each (fun p : D × D => pyE p.1) ko ep3
    obtain ⟨ws', hw1, hw2⟩ := pairs_vals eo
    have ol : ws'.length = ds.length := by
      rw [hw1.length, List.length_map, List.length_mergeSort, List.length_zip, hlen, Nat.min_self]
    have I5 : Inv X pins σ (upd H3 a (.lst ws')) s3 := Dx.Inv.adopt I3.unpinned ⟨na3, (I2.fpOk (H' := H3) has na3).2⟩ ⟨by rw [ol]; exact hZ, out, cc, hw2, g3⟩
    refine ⟨.ref a, _, I5, rfl, hQ _ ((e02.trans e3).trans (Ext.new na3)) a ((e02.trans e3).free na3) ⟨ws', upd_same, ?_⟩⟩
    exact RpL.mono (hide_new na3) _ hw1
end
end Dx
namespace Dx
open PySem PySem.Spec L2
/-! ### what is checked -/
structure Ck where
  N : List Str
  names : List (Str × NameKind)
  fnb : Bool
  fns : List Str
  okA : Nat → Nat → Bool
  /-- may generators and lambdas be made here -/
  gd : Bool
  qual : Str
  nm : Nat → Nat → Str
  consts : List (Str × Int)
def visK : Option NameKind → Bool
  | some .local => true
  | some .cell => true
  | some .free => true
  | _ => false
def eqS (x y : Str) : Bool := decide (x = y)
def Ck.vis (c : Ck) (i : Nat) (x : Str) : Bool := (match c.N[i]? with | some y => eqS y x | none => false) && visK (c.names.lookup x) && !eqS x "__debug__" && !eqS x "__classdict__"
def Ck.glob (c : Ck) (x : Str) : Bool := match c.names.lookup x with
  | some .globalImplicit => true
  | _ => false
def Ck.isB (c : Ck) (b x : Str) : Bool := eqS x b && c.glob x
def bltNames : List Str := ["len", "abs", "sum", "min", "max", "tuple", "list", "int", "str", "sorted", "isinstance", "bool", "range", "reversed", "enumerate", "zip", "all", "any", "dict", "set"]
def litOk : Lit → Const → Bool
  | .non, .none => true
  | .bl b, .bool d => b == d
  | .int i, .int j => decide (i = j)
  | .str s, .str t => decide (s = t)
  | _, _ => false
def opOk : Op → Operator → Bool
  | .add, .Add => true
  | .sub, .Sub => true
  | .mul, .Mult => true
  | .fdiv, .FloorDiv => true
  | .mod, .Mod => true
  | .pow, .Pow => true
  | .shl, .LShift => true
  | .shr, .RShift => true
  | .band, .BitAnd => true
  | .bor, .BitOr => true
  | .bxor, .BitXor => true
  | _, _ => false
def cmOk (o : Cm) (op : CmpOp) : Bool := decide (op = cmOp o)
def notStar : PySem.Expr → Bool
  | .Starred _ _ => false
  | _ => true
def notSup : PySem.Expr → Bool
  | .Call (.Name _ _) [] [] _ => false
  | _ => true
def notSet : PySem.Expr → Bool
  | .Set _ _ _ => false
  | _ => true
def plainT : PySem.Expr → Bool
  | .UnaryOp _ _ _ => false
  | .BoolOp _ _ _ => false
  | .IfExp _ _ _ _ => false
  | .Compare _ _ _ _ => false
  | _ => true
def Ck.blk (c : Ck) (scope : Scope) : Ck := { c with names := scope.names.map (fun (n, k) => if (k == .free && true && c.names.lookup n == some .cell) then (n, .cell) else (n, k)), fnb := false }
def Ck.own (c : Ck) (own : List Nat) : List (Str × Nat) := own.map fun i => ((c.N[i]?).getD "", i)
mutual
def chkTg (c : Ck) : Tg → PySem.Expr → Bool
  | .name i, e => match e with
    | .Name x _ => (match c.N[i]? with | some y => eqS y x | none => false) && (match c.names.lookup x with | some .local => true | some .cell => c.fnb | _ => false)
    | _ => false
  | .tup l, e => match e with
    | .Tuple es _ _ => chkTgs c l es
    | _ => false
def chkTgs (c : Ck) : List Tg → List PySem.Expr → Bool
  | [], es => es.isEmpty
  | t :: l, es => match es with
    | e :: r => notStar e && chkTg c t e && chkTgs c l r
    | [] => false
end
/-- a generator's own text, a lambda's -/
def Ck.sub (c : Ck) (scope : Scope) : Ck := { c with names := scope.names, fnb := false, gd := false }
def genC (N : List Str) (names : List (Str × NameKind)) (scope : Scope) (own : List (Str × Nat)) : Bool :=
  (match scope.kind with | .function => true | _ => false) && (scope.names.all fun y => decide (scope.names.lookup y.1 = some y.2)) && (own.all fun p => decide (N[p.2]? = some p.1)) &&
    (scope.names.all fun y => match y.2 with
      | .free => (match names.lookup y.1 with | some .cell => true | some .free => true | _ => false)
      | .local => decide (y.1 ∈ own.map (·.1)) || decide (y.1 ∉ N)
      | .cell => false
      | _ => true) && !scope.isCoroutine
def isLoc (o : Option NameKind) : Bool := match o with
  | some .local => true
  | _ => false
def notListE : PySem.Expr → Bool
  | .List _ _ => false
  | _ => true
def plainIt : It → Bool
  | .keys _ => false
  | .items _ => false
  | _ => true
/-- the parameters of a lambda: just p -/
def oneP (a : Arguments) : Option Str := match a with
  | ⟨[], [⟨p, none, _⟩], none, [], [], none, []⟩ => some p
  | _ => none
def biStX : Bi → Option Str
  | .dict => some "dict"
  | .tupleF => some "tuple"
  | _ => none
def chkBlk (c : Ck) (scope : Scope) (own : List Nat) (t : Tg) : Bool := blkC c.N ⟨.function, c.names, false, false, []⟩ scope (c.own own) && (tgN t).all fun n => own.contains n
mutual
def chkE (c : Ck) : E → PySem.Expr → Bool
  | .var i, e => match e with
    | .Name x _ => c.vis i x
    | _ => false
  | .lit l, e => match e with
    | .Constant k _ _ => litOk l k
    | .Name x _ => c.glob x && !eqS x "__debug__" && (match l with | .int i => (match c.consts.lookup x with | some j => decide (j = i) | none => false) | _ => false)
    | _ => false
  | .bin o a b, e => match e with
    | .BinOp x op y _ => opOk o op && chkE c a x && chkE c b y
    | _ => false
  | .neg a, e => match e with
    | .UnaryOp .USub x _ => chkE c a x
    | _ => false
  | .inv a, e => match e with
    | .UnaryOp .Invert x _ => chkE c a x
    | _ => false
  | .not a, e => match e with
    | .UnaryOp .Not x _ => chkE c a x
    | _ => false
  | .andE a b, e => match e with
    | .BoolOp .And (x :: y :: r) pos => chkE c a x && (match r with | [] => chkE c b y | _ => chkE c b (.BoolOp .And (y :: r) pos))
    | _ => false
  | .orE a b, e => match e with
    | .BoolOp .Or (x :: y :: r) pos => chkE c a x && (match r with | [] => chkE c b y | _ => chkE c b (.BoolOp .Or (y :: r) pos))
    | _ => false
  | .cmp o a b, e => match e with
    | .Compare x [op] [y] _ => cmOk o op && !behindInMarks (cmOp o) y && chkE c a x && chkE c b y
    | _ => false
  | .chain o o' a b d, e => match e with
    | .Compare x [op, op'] [y, z] _ => cmOk o op && cmOk o' op' && !lastMarks [cmOp o, cmOp o'] [y, z] && chkE c a x && chkE c b y && chkE c d z
    | _ => false
  | .ife t a b, e => match e with
    | .IfExp k x y _ => chkT c t k && chkE c a x && chkE c b y
    | _ => false
  | .tup l, e => match e with
    | .Tuple es _ _ => chkL c l es
    | _ => false
  | .tupF l, e => match e with
    | .Tuple es _ _ => chkL c l es
    | _ => false
  | .lst l, e => match e with
    | .List es _ => chkL c l es
    | _ => false
  | .newK, e => match e with
    | .Dict [] [] _ => true
    | _ => false
  | .newT, e => match e with
    | .Dict [] [] _ => true
    | _ => false
  | .idx a b, e => match e with
    | .Subscript x y _ => notSlice y && chkE c a x && chkE c b y
    | _ => false
  | .slc a lo hi, e => match e with
    | .Subscript x (.Slice l h none _) _ => chkE c a x && chkO c lo l && chkO c hi h
    | _ => false
  | .call f l, e => match e with
    | .Call (.Name x _) es [] _ => (match c.fns[f]? with | some y => eqS y x | none => false) && c.glob x && !eqS x "__debug__" && c.okA f es.length && chkL c l es
    | _ => false
  | .bi f l, e => match e with
    | .Call (.Name x _) es [] _ => match tySt f with
      | some y => c.isB "isinstance" x && (match l, es with
        | [a], [x1, .Name z _] => c.isB y z && notStar x1 && chkE c a x1
        | _, _ => false)
      | none => (match biSt f with | some (y, _) => c.isB y x | none => (match biStX f with | some y => c.isB y x | none => false)) && !es.isEmpty && chkL c l es
    | _ => false
  | .bitlen a, e => match e with
    | .Call (.Attribute x m ap) [] [] cp => eqS m "bit_length" && (ap.endLine == cp.line) && notSup x && chkE c a x
    | _ => false
  | .get d k v, e => match e with
    | .Call (.Attribute x m ap) [y, z] [] cp => eqS m "get" && (ap.endLine == cp.line) && notSup x && notStar y && notStar z && chkE c d x && chkE c k y && chkE c v z
    | _ => false
  | .join s a, e => match e with
    | .Call (.Attribute x m ap) [y] [] cp => eqS m "join" && (ap.endLine == cp.line) && notSup x && notStar y && chkE c s x && chkE c a y
    | _ => false
  | .fld a k, e => false
  | .lc elt t it cs own, e => match e with
    | .ListComp x [⟨tg, iter, ifs, k⟩] scope _ => (k == 0) && chkBlk c scope own t && notSet iter && chkIt c it tg iter && chkTg (c.blk scope) t tg && chkCs (c.blk scope) cs ifs && chkE (c.blk scope) elt x
    | _ => false
  | .allG neg elt t it cs own, e => match e with
    | .Call (.Name x _) [.GeneratorExp a [⟨tg, iter, ifs, k⟩] scope gpos] [] _ => c.gd && c.isB (allN neg) x && (k == 0) && genC c.N c.names scope (c.own own) && ((tgN t).all fun n => own.contains n) && isLoc (scope.names.lookup (".0" : Str)) &&
        notSet iter && notListE iter && eqS (c.nm gpos.line gpos.col) (c.qual ++ "<genexpr>") && plainIt it && chkIt c it tg iter && chkTg (c.sub scope) t tg && chkCs (c.sub scope) cs ifs && chkE (c.sub scope) elt a
    | _ => false
  | .sortK a own t key, e => match e with
    | .Call (.Name x _) [y] [⟨some kw, .Lambda params body scope lpos, _⟩] _ => (match oneP params, own with
      | some p, [i] => c.gd && c.isB "sorted" x && eqS kw "key" && notStar y && (i == t) && genC c.N c.names scope [(p, t)] && !scope.isGenerator && isLoc (scope.names.lookup p) && eqS (c.nm lpos.line lpos.col) (c.qual ++ "<lambda>") && chkE c a y && chkE (c.sub scope) key body
      | _, _ => false)
    | _ => false
def chkL (c : Ck) : List E → List PySem.Expr → Bool
  | [], es => es.isEmpty
  | a :: l, es => match es with
    | x :: r => notStar x && chkE c a x && chkL c l r
    | [] => false
def chkO (c : Ck) : Option E → Option PySem.Expr → Bool
  | none, o => o.isNone
  | some a, o => match o with
    | some x => chkE c a x
    | none => false
def chkIt (c : Ck) : It → PySem.Expr → PySem.Expr → Bool
  | .seq a, _, e => chkE c a e
  | .rng l, _, e => match e with
    | .Call (.Name x _) es [] _ => c.isB "range" x && !es.isEmpty && decide (es.length ≤ 3) && chkL c l es
    | _ => false
  | .rev a, _, e => match e with
    | .Call (.Name x _) [y] [] _ => c.isB "reversed" x && notStar y && chkE c a y
    | _ => false
  | .revR l, _, e => match e with
    | .Call (.Name x _) [.Call (.Name y _) es [] _] [] _ => c.isB "reversed" x && c.isB "range" y && !es.isEmpty && decide (es.length ≤ 2) && chkL c l es
    | _ => false
  | .enum a, tg, e => match tg, e with
    | .Tuple _ _ _, .Call (.Name x _) [y] [] _ => c.isB "enumerate" x && notStar y && chkE c a y
    | _, _ => false
  | .zip a b, tg, e => match tg, e with
    | .Tuple _ _ _, .Call (.Name x _) [y, z] [] _ => c.isB "zip" x && notStar y && notStar z && chkE c a y && chkE c b z
    | _, _ => false
  | .keys i, _, e => match e with
    | .Name x _ => c.vis i x
    | _ => false
  | .items i, tg, e => match tg, e with
    | .Tuple _ _ _, .Call (.Attribute (.Name x _) m ap) [] [] cp => eqS m "items" && (ap.endLine == cp.line) && c.vis i x
    | _, _ => false
def chkT (c : Ck) : Tst → PySem.Expr → Bool
  | .e a, e => match a, e with
    | .cmp o a b, .Compare x [op] [y] _ => cmOk o op && !behindInMarks (cmOp o) y && chkE c a x && chkE c b y
    | .chain o o' a b d, .Compare x [op, op'] [y, z] _ => cmOk o op && cmOk o' op' && !lastMarks [cmOp o, cmOp o'] [y, z] && chkE c a x && chkE c b y && chkE c d z
    | a, e => plainT e && chkE c a e
  | .not t, e => match e with
    | .UnaryOp .Not x _ => chkT c t x
    | _ => false
  | .and t u, e => match e with
    | .BoolOp .And (x :: y :: r) pos => chkT c t x && (match r with | [] => chkT c u y | _ => chkT c u (.BoolOp .And (y :: r) pos))
    | _ => false
  | .or t u, e => match e with
    | .BoolOp .Or (x :: y :: r) pos => chkT c t x && (match r with | [] => chkT c u y | _ => chkT c u (.BoolOp .Or (y :: r) pos))
    | _ => false
def chkCs (c : Ck) : List Tst → List PySem.Expr → Bool
  | [], es => es.isEmpty
  | [t], es => match es with
    | [x] => chkT c t x
    | _ => false
  | _ :: _ :: _, _ => false
end
end Dx
namespace Dx
variable [Nm]
open PySem PySem.Spec L2
theorem eqS_eq {x y : Str} (h : eqS x y = true) : x = y := of_decide_eq_true h
theorem eqS_ne {x y : Str} (h : (!eqS x y) = true) : x ≠ y := by
  intro e
  rw [e] at h
  unfold eqS at h
  simp at h
theorem ne_beq {x y : Str} (h : x ≠ y) : (x == y) = false := by
  cases e : x == y with
  | false => rfl
  | true => exact absurd (eq_of_beq e) h
theorem and_t {a b : Bool} (h : (a && b) = true) : a = true ∧ b = true := Bool.and_eq_true_iff.mp h
theorem not_t {a : Bool} (h : (!a) = true) : a = false := by cases a <;> simp_all
/-- what a def's context is known to be -/
def FnAt (P : Program) (w : World) (K : PySem.W.Frag) (mg : Str → Option Value) (base : Heap) (CX : CXT) (M : MatC) (T : List Addr) (cls : Nat → Addr) (lv : Nat) (x : Str) (m : Nat) (h : List D → Res D) : Prop :=
  ∃ (f : Addr) (fd : FuncData) (ps : List Str) (k n : Nat) (G : List D → Res D) (dd : List D) (dvs : List V) (dsv : List Value), FnOk P w K mg base CX k f fd ps (spD M T cls n G) ∧ k ≤ lv ∧ mg x = some (.ref f) ∧ PySem.W.keepIn K (.ref f) = true ∧ Binds K fd ps dsv ∧ Vals dvs dsv ∧
    (∀ ds, G ds ≠ .bad → ds.length = n) ∧ (∀ H, RpL M H dd dvs) ∧ ∀ ds, ds.length = m → h ds = G (ds ++ dd)
structure Gd (c : Ck) (M : MatC) (T : List Addr) (cls : Nat → Addr) (CX : CXT) (lv : Nat) (F : Fns) (E : XK) (X : Cx) : Prop where
  K : X.K = M.K
  w : X.w = M.w
  u : X.A.units + 65 < cLine
  calm : X.calm = true
  N : X.N = c.N
  nd : X.N.Nodup
  names : X.env.scope.names = c.names
  kind : X.env.scope.kind = .function
  fn : c.fnb = true → ∀ x, X.fn x = true
  blt : ∀ x ∈ bltNames, X.mg x = none
  pass : Passes CX X E
  no : ∀ outer H s e s', CX outer H s (fun _ _ _ => False) e s' → False
  room : Room lv X.A
  nm : ∀ l k, c.nm l k = Nm.nm l k
  qual : c.gd = true → X.env.qual = c.qual
  gen : c.gd = true → Room (lv + 1) X.A ∧ ∃ cc P, GxR.TabB X.base X.mg cc P ∧ P ∈ T ∧ X.env.code = .ref cc
  consts : ∀ (x : Str) (i : Int), c.consts.lookup x = some i → ∃ t, X.mg x = some (.int i t)
  fns : ∀ (i : Nat) (x : Str) (m : Nat), c.fns[i]? = some x → c.okA i m = true → FnAt X.prog X.w X.K X.mg X.base CX M T cls lv x m (F i)
section
variable {c : Ck} {M : MatC} {T : List Addr} {cls : Nat → Addr} {CX : CXT} {lv : Nat} {F : Fns} {E : XK} {X : Cx}
theorem Gd.vis (g : Gd c M T cls CX lv F E X) {i : Nat} {x : Str} {pos : Pos} (h : c.vis i x = true) : PE X (.Name x pos) (tVar i) := by
  unfold Ck.vis at h
  obtain ⟨h, h4⟩ := and_t h
  obtain ⟨h, h3⟩ := and_t h
  obtain ⟨h1, h2⟩ := and_t h
  refine pe_var (i := i) ?_ ?_ (ne_beq (eqS_ne h3)) (ne_beq (eqS_ne h4))
  · rw [g.N]
    cases e : c.N[i]? with
    | none => rw [e] at h1; cases h1
    | some y => rw [e] at h1; rw [eqS_eq h1]
  · unfold Vis
    rw [g.names]
    cases e : c.names.lookup x with
    | none => rw [e] at h2; cases h2
    | some k =>
      rw [e] at h2
      cases k <;> first | exact .inl rfl | exact .inr (.inl rfl) | exact .inr (.inr rfl) | cases h2
theorem Gd.gl (g : Gd c M T cls CX lv F E X) {x : Str} (h : c.glob x = true) : Gl X x := by
  unfold Gl Env.kindOf
  rw [g.names]
  unfold Ck.glob at h
  split at h
  · assumption
  · cases h
theorem Gd.isB (g : Gd c M T cls CX lv F E X) {b x : Str} (h : c.isB b x = true) (hb : b ∈ bltNames) : x = b ∧ Gl X b ∧ X.mg b = none := by
  obtain ⟨h1, h2⟩ := and_t h
  have e := eqS_eq h1
  subst e
  exact ⟨rfl, g.gl h2, g.blt _ hb⟩
theorem star_cons {e : PySem.Expr} {es : List PySem.Expr} {env : Env} (h : notStar e = true) : starEach (e :: es) env = (false, eval e env) :: starEach es env := by
  cases e <;> first | rfl | cases h
theorem star_any {env : Env} {pos : Pos} : ∀ {es : List PySem.Expr}, (es.all notStar) = true → (backTo pos (starEach es env)).any (·.1) = false
  | [], _ => rfl
  | e :: es, h => by
    rw [List.all_cons] at h
    obtain ⟨h1, h2⟩ := and_t h
    rw [star_cons h1]
    show ((false, _) :: backTo pos (starEach es env)).any (·.1) = false
    rw [List.any_cons, star_any h2]
    rfl
theorem base_of {o : PySem.Expr} {m : Str} {env : Env} {wh : Sem Value} (h : notSup o = true) : attributeBase o m env wh = wh := by
  unfold notSup at h
  unfold attributeBase
  split
  · rename_i id p pos
    simp at h
  · rfl
theorem set_of {e : PySem.Expr} {env : Env} (h : notSet e = true) : ∀ x, foldedSetIterable e env x = pure x := by
  intro x
  cases e <;> first | rfl | cases h
theorem lit_pe {l : Lit} {k : Const} {j : Nat} {pos : Pos} (h : litOk l k = true) : ∃ v, PE X (.Constant k j pos) (tC v) ∧ ∀ H, Rp M H (litD l) v := by
  cases l <;> cases k <;> first | cases h | skip
  · exact ⟨_, pe_non, fun H => rp_non⟩
  · have e := eq_of_beq h
    subst e
    exact ⟨_, pe_bl, fun H => rp_bl⟩
  · have e := of_decide_eq_true (p := _ = _) h
    subst e
    exact ⟨_, pe_int, fun H => rp_int⟩
  · have e := of_decide_eq_true (p := _ = _) h
    subst e
    exact ⟨_, pe_str, fun H => rp_str⟩
theorem op_mem {o : Op} {op : Operator} (h : opOk o op = true) : (o, op) ∈ [(Op.add, Operator.Add), (.sub, .Sub), (.mul, .Mult), (.fdiv, .FloorDiv), (.mod, .Mod), (.pow, .Pow), (.shl, .LShift), (.shr, .RShift), (.band, .BitAnd), (.bor, .BitOr), (.bxor, .BitXor)] := by
  cases o <;> cases op <;> first | (simp; done) | cases h
theorem one_bool {op : BoolOp} {b : PySem.Expr} {pos : Pos} {f : DEnv → Res D} {k : DEnv → Bool} {Ev : Nat → Hp → Prop} (h : PE X b (tE M T Ev f k)) : PE X (.BoolOp op [b] pos) (tE M T Ev f k) := pe_one h
theorem PW.of {op : BoolOp} {es : List PySem.Expr} {pos : Pos} {t : TT} (h : PT X (.BoolOp op es pos) t) : PW X (.BoolOp op es pos) t := ⟨fun wh pins s σ H Q I q => h.run pins s σ H Q I q⟩
theorem evL_len : ∀ (l : List Dx.E) (env : DEnv) (ds : List D), evL F l env = .ok ds → ds.length = l.length
  | [], env, ds, h => by cases h; rfl
  | e :: l, env, ds, h => by
    obtain ⟨x, h1, h⟩ := Res.bind_eq_ok (show (evE F e env >>= fun x => evL F l env >>= fun r => .ok (x :: r)) = .ok ds from h)
    obtain ⟨r, h2, h⟩ := Res.bind_eq_ok h
    cases h
    rw [List.length_cons, List.length_cons, evL_len l env r h2]
theorem own_map (c : Ck) (own : List Nat) : (c.own own).map (·.2) = own := by
  unfold Ck.own
  rw [List.map_map]
  exact List.map_id own
theorem Gd.blkOk (g : Gd c M T cls CX lv F E X) {scope : Scope} {own : List Nat} (h : blkC c.N ⟨.function, c.names, false, false, []⟩ scope (c.own own) = true) : BlkOk X.N X.env.scope scope (c.own own) := by
  have ok := blkOk_by h
  exact ⟨ok.kind, ok.uniq, by rw [g.N]; exact ok.ix, fun y hy e => by rw [g.names]; exact ok.free y hy e, by rw [g.N]; exact ok.own⟩
/-- a comprehension's block -/
theorem Gd.inBlk (g : Gd c M T cls CX lv F E X) {scope : Scope} (hk : scope.kind = .function) (s : Shared) (H : Hp) (C : Addr) (cl : List (Str × Addr)) (fp : List Addr) : Gd (c.blk scope) M T cls CX lv F (fun _ _ _ => False) (X.blk s H scope (compEnvC scope cl C X.env) fp) where
  K := g.K
  w := g.w
  u := g.u
  calm := g.calm
  N := g.N
  nd := g.nd
  names := by
    show (relS scope X.env.scope).names = _
    unfold relS Ck.blk
    rw [g.names, g.kind]
    rfl
  kind := hk
  fn := fun h => nomatch h
  blt := g.blt
  pass := fun _ _ _ _ _ _ _ h => g.no _ _ _ _ _ h
  no := g.no
  room := g.room
  nm := g.nm
  qual := g.qual
  gen := g.gen
  consts := g.consts
  fns := g.fns
/-- within a generator expression, a lambda -/
theorem Gd.inSub (g : Gd c M T cls CX lv F E X) {scope : Scope} (hk : scope.kind = .function) {A' : Around} {s : Shared} {H : Hp} {cenv : Env} {fp : List Addr} {pn : List (Addr × Obj)} (hs : cenv.scope = scope) (hr : Room lv A') : Gd (c.sub scope) M T cls CX lv F (fun _ _ _ => False) (gcx X A' s H cenv fp pn) where
  K := g.K
  w := g.w
  u := by have := hr.un; show A'.units + 65 < cLine; omega
  calm := g.calm
  N := g.N
  nd := g.nd
  names := by show cenv.scope.names = _; rw [hs]; rfl
  kind := by show cenv.scope.kind = _; rw [hs]; exact hk
  fn := fun h => nomatch h
  blt := g.blt
  pass := fun _ _ _ _ _ _ _ h => g.no _ _ _ _ _ h
  no := g.no
  room := hr
  nm := g.nm
  qual := fun h => nomatch h
  gen := fun h => nomatch h
  consts := g.consts
  fns := g.fns
theorem genOk_by {N : List Str} {sc scope : Scope} {own : List (Str × Nat)} (h : genC N sc.names scope own = true) : GenOk N sc scope own ∧ scope.isCoroutine = false := by
  unfold genC at h
  simp only [Bool.and_eq_true, List.all_eq_true, decide_eq_true_eq] at h
  obtain ⟨⟨⟨⟨h1, h2⟩, h3⟩, h4⟩, h5⟩ := h
  refine ⟨⟨?_, h2, h3, fun y hy e => ?_, fun y hy e => ?_, fun y hy e => ?_⟩, not_t h5⟩
  · split at h1
    · assumption
    · cases h1
  · have := h4 y hy
    rw [e] at this
    have this : (match sc.names.lookup y.1 with | some .cell => true | some .free => true | _ => false) = true := this
    split at this
    · rename_i q; exact .inl q
    · rename_i q; exact .inr q
    · cases this
  · have := h4 y hy
    rw [e] at this; cases this
  · have := h4 y hy
    rw [e] at this
    have this : (decide (y.1 ∈ own.map (·.1)) || decide (y.1 ∉ N)) = true := this
    rw [Bool.or_eq_true] at this
    rcases this with q | q
    · exact .inl (of_decide_eq_true q)
    · exact .inr (of_decide_eq_true q)
theorem Gd.genOk (g : Gd c M T cls CX lv F E X) {scope : Scope} {own : List (Str × Nat)} (h : genC c.N c.names scope own = true) : GenOk X.N X.env.scope scope own ∧ scope.isCoroutine = false := by
  rw [← g.N, ← g.names] at h
  exact genOk_by h
theorem isLoc_of {o : Option NameKind} (h : isLoc o = true) : o = some .local := by
  unfold isLoc at h
  split at h
  · rfl
  · cases h
theorem genFold_of {e : PySem.Expr} {env : Env} (h1 : notSet e = true) (h2 : notListE e = true) : ∀ v, genFold e env v = pure v := by
  intro v
  cases e <;> first | rfl | (cases h2; done) | (cases h1; done)
theorem oneP_of {a : Arguments} {p : Str} (h : oneP a = some p) : ∃ pos, a = ⟨[], [⟨p, none, pos⟩], none, [], [], none, []⟩ := by
  unfold oneP at h
  split at h
  · cases h; exact ⟨_, rfl⟩
  · cases h
theorem bind_one {p : Str} {pos : Pos} {q : Str} {body : PySem.Expr} {scope : Scope} {cl : List (Str × Addr)} {pm c' ctv u : Value} : bindArgs (PySem.W.kla_fn "<lambda>" q ⟨[], [⟨p, none, pos⟩], none, [], [], none, []⟩ body scope cl pm c' ctv) ⟨[u], []⟩ = pure [(p, u)] := by
  unfold bindArgs
  have e : seqItems? Value.none = pure none := rfl
  simp [e]
end
end Dx
namespace Dx
variable [Nm]
open PySem PySem.Spec L2
section
variable {M : MatC} {T : List Addr} {cls : Nat → Addr} {CX : CXT} {lv : Nat} {F : Fns}
mutual
theorem tg_ok : ∀ (t : Tg) {c : Ck} {E : XK} {X : Cx} {e : PySem.Expr}, Gd c M T cls CX lv F E X → chkTg c t e = true → PG X e (tG M T t)
  | .name i, c, E, X, e, g, h => by
    unfold chkTg at h
    split at h
    · rename_i x pos
      obtain ⟨h1, h2⟩ := and_t h
      refine dg_name (pg_name (i := i) g.nd ?_ ?_ ?_)
      · rw [g.N]
        cases q : c.N[i]? with
        | none => rw [q] at h1; cases h1
        | some y => rw [q] at h1; rw [eqS_eq h1]
      · unfold L2.Loc
        rw [g.names]
        cases q : c.names.lookup x with
        | none => rw [q] at h2; cases h2
        | some k => rw [q] at h2; cases k <;> first | exact .inl rfl | exact .inr rfl | cases h2
      · rw [g.names]
        cases q : c.names.lookup x with
        | none => rw [q] at h2; cases h2
        | some k =>
          rw [q] at h2
          cases k <;> first | exact .inr rfl | exact .inl (g.fn h2 x) | cases h2
    · cases h
  | .tup l, c, E, X, e, g, h => by
    unfold chkTg at h
    split at h
    · rename_i es k pos
      obtain ⟨h1, h2, h3⟩ := tgs_ok l g h
      exact dg_tup g.K g.calm h2 h1 h3
    · cases h
theorem tgs_ok : ∀ (l : List Tg) {c : Ck} {E : XK} {X : Cx} {es : List PySem.Expr}, Gd c M T cls CX lv F E X → chkTgs c l es = true → PGs X es (tGs M T l) ∧ es.length = l.length ∧ (assignEach es X.env).findIdx? (·.1) = none
  | [], c, E, X, es, g, h => by
    unfold chkTgs at h
    cases es with
    | nil => exact ⟨dg_nil, rfl, rfl⟩
    | cons e r => cases h
  | t :: l, c, E, X, es, g, h => by
    unfold chkTgs at h
    split at h
    · rename_i e r
      obtain ⟨h, h3⟩ := and_t h
      obtain ⟨h1, h2⟩ := and_t h
      obtain ⟨q1, q2, q3⟩ := tgs_ok l g h3
      have ea : assignEach (e :: r) X.env = (false, assign e X.env) :: assignEach r X.env := by cases e <;> first | rfl | cases h1
      refine ⟨dg_cons (tg_ok t g h2) q1 (by rw [ea]; rfl), by rw [List.length_cons, List.length_cons, q2], ?_⟩
      rw [ea, List.findIdx?_cons]
      simp only [q3]
      rfl
    · cases h
end
def ItOk (M : MatC) (T : List Addr) (Ev : Nat → Hp → Prop) (F : Fns) (X : Cx) (tg iter : PySem.Expr) : It → Prop
  | .keys i => PI X tg iter (iDct false (tVar i))
  | .items i => PI X tg iter (iDct true (tVar i))
  | it => PI X tg iter (tI M T Ev (evIt F it) (kpIt it))
theorem chkL_star {c : Ck} : ∀ {l : List Dx.E} {es : List PySem.Expr}, chkL c l es = true → es.all notStar = true ∧ es.length = l.length
  | [], es, h => by
    unfold chkL at h
    cases es with
    | nil => exact ⟨rfl, rfl⟩
    | cons e r => cases h
  | a :: l, es, h => by
    unfold chkL at h
    split at h
    · rename_i x r
      obtain ⟨h, h3⟩ := and_t h
      obtain ⟨h1, h2⟩ := and_t h
      obtain ⟨q1, q2⟩ := chkL_star h3
      exact ⟨by rw [List.all_cons, h1, q1]; rfl, by rw [List.length_cons, List.length_cons, q2]⟩
    · cases h
theorem dt_chain {Ev : Nat → Hp → Prop} {X : Cx} {o o' : Cm} {a b c : PySem.Expr} {pos : Pos} {f g h : DEnv → Res D} {k1 k2 k3 : DEnv → Bool} (hK : X.K = M.K) (hw : X.w = M.w) (hu : X.A.units + 65 < cLine) (hm : lastMarks [cmOp o, cmOp o'] [b, c] = false)
    (ha : PE X a (tE M T Ev f k1)) (hb : PE X b (tE M T Ev g k2)) (hc : PE X c (tE M T Ev h k3)) : PT X (.Compare a [cmOp o, cmOp o'] [b, c] pos)
      (tT M T Ev (fun env => do let x ← (do let x ← f env; let y ← g env; let r ← cmD o x y; if r then do let z ← h env; cmG o' y z else .ok (.bl false)); optR (truD x))) := by
  refine pt_weak (pt_chain (op_cm hu o) (op_cm hu o') ha hb hc hm) fun σ H Q ⟨H₀, B, O, env, R, q⟩ => ?_
  refine chain_read (k := fun _ => true) hK hw ⟨H₀, B, O, env, R, After.mono (After.bind q) (Ext.refl H) fun d H1 e1 ed q v b _ => ?_⟩
  have hb : ∃ k, d = .bl k := by
    obtain ⟨x, _, ed⟩ := Res.bind_eq_ok ed
    obtain ⟨y, _, ed⟩ := Res.bind_eq_ok ed
    obtain ⟨r, _, ed⟩ := Res.bind_eq_ok ed
    cases r with
    | false => cases ed; exact ⟨_, rfl⟩
    | true =>
      obtain ⟨z, _, ed⟩ := Res.bind_eq_ok ed
      obtain ⟨r', _, ed⟩ := Res.bind_eq_ok ed
      cases ed; exact ⟨_, rfl⟩
  obtain ⟨k, rfl⟩ := hb
  exact ⟨k, br_bl b, q.one⟩
theorem plainT_of {e : PySem.Expr} {env : Env} (h : plainT e = true) : ∀ whole, isTrue e env whole = (do let v ← whole; standAt e.pos; holding [v] (truthy v)) := by
  intro wh
  cases e <;> first | rfl | cases h
/-- a comprehension without its walk -/
theorem lc_ok {c : Ck} {E : XK} {X : Cx} (g : Gd c M T cls CX lv F E X) {it : It} {t : Tg} {cs : List Tst} {elt : Dx.E} {own : List Nat} {x tg iter : PySem.Expr} {ifs : List PySem.Expr} {scope : Scope} {pos : Pos}
    (hb : chkBlk c scope own t = true) (hs : notSet iter = true) (hi : ItOk M T (EvOf cls E) F X tg iter it) (hg : chkTg (c.blk scope) t tg = true)
    (hcs : ∀ {E' : XK} {X' : Cx}, Gd (c.blk scope) M T cls CX lv F E' X' → PTs X' ifs (tT M T (EvOf cls E') (evCs F cs))) (he : ∀ {E' : XK} {X' : Cx}, Gd (c.blk scope) M T cls CX lv F E' X' → PE X' x (tE M T (EvOf cls E') (evE F elt) (kp elt))) :
    PE X (.ListComp x [⟨tg, iter, ifs, 0⟩] scope pos) (tN M T (EvOf cls E) (lcG (evIt F it) t (evCs F cs) (evE F elt) (kp elt) own)) := by
  obtain ⟨h1, h2⟩ := and_t hb
  have ok := g.blkOk h1
  have hk : scope.kind = .function := ok.kind
  have hv : ∀ n ∈ tgN t, n ∈ (c.own own).map (·.2) := fun n hn => by
    rw [own_map]
    have := List.all_eq_true.mp h2 n hn
    exact List.contains_iff_mem.mp this
  have eo := own_map c own
  have gen : ∀ (h : PI X tg iter (tI M T (EvOf cls E) (evIt F it) (kpIt it))), PE X (.ListComp x [⟨tg, iter, ifs, 0⟩] scope pos) (tN M T (EvOf cls E) (lcG (evIt F it) t (evCs F cs) (evE F elt) (kp elt) own)) := fun h => by
    have := dn_lc (pos := pos) (Ev := EvOf cls E) (own := c.own own) hv g.calm g.nd h ok (fun s H C cl fp => tg_ok t (g.inBlk hk s H C cl fp) hg) (fun s H C cl fp => hcs (g.inBlk hk s H C cl fp)) (fun s H C cl fp => he (g.inBlk hk s H C cl fp)) (set_of hs)
    rw [eo] at this
    exact this
  have genD : ∀ (b : Bool) (i : Nat) (h : PI X tg iter (iDct b (tVar i))), PE X (.ListComp x [⟨tg, iter, ifs, 0⟩] scope pos) (tN M T (EvOf cls E) (lcG (dctI b i) t (evCs F cs) (evE F elt) (kp elt) own)) := fun b i h => by
    have := dn_lcD (pos := pos) (Ev := EvOf cls E) (own := c.own own) hv g.calm g.nd h ok (fun s H C cl fp => tg_ok t (g.inBlk hk s H C cl fp) hg) (fun s H C cl fp => hcs (g.inBlk hk s H C cl fp)) (fun s H C cl fp => he (g.inBlk hk s H C cl fp)) (set_of hs)
    rw [eo] at this
    exact this
  cases it with
  | keys i => exact genD false i hi
  | items i => exact genD true i hi
  | seq a => exact gen hi
  | rng l => exact gen hi
  | rev a => exact gen hi
  | revR l => exact gen hi
  | enum a => exact gen hi
  | zip a b => exact gen hi
end
end Dx
set_option maxHeartbeats 4000000
namespace Dx
variable [Nm]
open PySem PySem.Spec L2
section
variable {M : MatC} {T : List Addr} {cls : Nat → Addr} {CX : CXT} {lv : Nat} {F : Fns}
theorem evL2 {a b : Dx.E} {env : DEnv} : evL F [a, b] env = (evE F a env >>= fun x => evE F b env >>= fun y => .ok [x, y]) := by
  show (evE F a env >>= fun x => (evE F b env >>= fun y => .ok [y]) >>= fun r => .ok (x :: r)) = _
  congr 1
  funext x
  rw [Res.bind_assoc]
  rfl
theorem evL3 {a b d : Dx.E} {env : DEnv} : evL F [a, b, d] env = (evE F a env >>= fun x => evE F b env >>= fun y => evE F d env >>= fun z => .ok [x, y, z]) := by
  show (evE F a env >>= fun x => evL F [b, d] env >>= fun r => .ok (x :: r)) = _
  congr 1
  funext x
  rw [evL2, Res.bind_assoc]
  congr 1
  funext y
  rw [Res.bind_assoc]
  rfl
theorem rng_len {α : Type} : ∀ {es : List α}, es.isEmpty = false → es.length ≤ 3 → (∃ a, es = [a]) ∨ (∃ a b, es = [a, b]) ∨ ∃ a b c, es = [a, b, c]
  | [], h, _ => by cases h
  | [a], _, _ => .inl ⟨a, rfl⟩
  | [a, b], _, _ => .inr (.inl ⟨a, b, rfl⟩)
  | [a, b, c], _, _ => .inr (.inr ⟨a, b, c, rfl⟩)
  | _ :: _ :: _ :: _ :: _, _, h => by simp at h
theorem tE_ok {a : Dx.E} (hsub : ∀ b : Dx.E, sizeOf b ≤ sizeOf a → ∀ {c : Ck} {E : XK} {X : Cx} {e : PySem.Expr}, Gd c M T cls CX lv F E X → chkE c b e = true → PE X e (tE M T (EvOf cls E) (evE F b) (kp b)))
    {c : Ck} {E : XK} {X : Cx} {e : PySem.Expr} (g : Gd c M T cls CX lv F E X) (h : chkT c (.e a) e = true) : PT X e (tT M T (EvOf cls E) (evT F (.e a))) := by
  cases a with
  | cmp o a b =>
    unfold chkT at h
    split at h
    · rename_i o' a' b' x op y pos heq
      cases heq
      obtain ⟨h, h4⟩ := and_t h
      obtain ⟨h, h3⟩ := and_t h
      obtain ⟨h1, h2⟩ := and_t h
      have eo := of_decide_eq_true (p := _ = _) h1
      subst eo
      exact dt_cmp g.K g.w g.u (not_t h2) (hsub a (by simp; try omega) g h3) (hsub b (by simp; try omega) g h4)
    · rename_i heq; cases heq
    · obtain ⟨h1, h2⟩ := and_t h
      exact dt_val g.K (hsub (.cmp o a b) (by simp; try omega) g h2) (plainT_of h1)
  | chain o o' a b d =>
    unfold chkT at h
    split at h
    · rename_i heq; cases heq
    · rename_i o1 o2 a' b' d' x op op' y z pos heq
      cases heq
      obtain ⟨h, h6⟩ := and_t h
      obtain ⟨h, h5⟩ := and_t h
      obtain ⟨h, h4⟩ := and_t h
      obtain ⟨h, h3⟩ := and_t h
      obtain ⟨h1, h2⟩ := and_t h
      have eo := of_decide_eq_true (p := _ = _) h1
      have eo' := of_decide_eq_true (p := _ = _) h2
      subst eo; subst eo'
      exact dt_chain g.K g.w g.u (not_t h3) (hsub a (by simp; try omega) g h4) (hsub b (by simp; try omega) g h5) (hsub d (by simp; try omega) g h6)
    · obtain ⟨h1, h2⟩ := and_t h
      exact dt_val g.K (hsub (.chain o o' a b d) (by simp; try omega) g h2) (plainT_of h1)
  | var i =>
    obtain ⟨h1, h2⟩ := and_t (show (plainT e && chkE c (.var i) e) = true from h)
    exact dt_val g.K (hsub (.var i) (by simp; try omega) g h2) (plainT_of h1)
  | lit l =>
    obtain ⟨h1, h2⟩ := and_t (show (plainT e && chkE c (.lit l) e) = true from h)
    exact dt_val g.K (hsub (.lit l) (by simp; try omega) g h2) (plainT_of h1)
  | bin o a b =>
    obtain ⟨h1, h2⟩ := and_t (show (plainT e && chkE c (.bin o a b) e) = true from h)
    exact dt_val g.K (hsub (.bin o a b) (by simp; try omega) g h2) (plainT_of h1)
  | neg a =>
    obtain ⟨h1, h2⟩ := and_t (show (plainT e && chkE c (.neg a) e) = true from h)
    exact dt_val g.K (hsub (.neg a) (by simp; try omega) g h2) (plainT_of h1)
  | inv a =>
    obtain ⟨h1, h2⟩ := and_t (show (plainT e && chkE c (.inv a) e) = true from h)
    exact dt_val g.K (hsub (.inv a) (by simp; try omega) g h2) (plainT_of h1)
  | not a =>
    obtain ⟨h1, h2⟩ := and_t (show (plainT e && chkE c (.not a) e) = true from h)
    exact dt_val g.K (hsub (.not a) (by simp; try omega) g h2) (plainT_of h1)
  | andE a b =>
    obtain ⟨h1, h2⟩ := and_t (show (plainT e && chkE c (.andE a b) e) = true from h)
    exact dt_val g.K (hsub (.andE a b) (by simp; try omega) g h2) (plainT_of h1)
  | orE a b =>
    obtain ⟨h1, h2⟩ := and_t (show (plainT e && chkE c (.orE a b) e) = true from h)
    exact dt_val g.K (hsub (.orE a b) (by simp; try omega) g h2) (plainT_of h1)
  | ife t a b =>
    obtain ⟨h1, h2⟩ := and_t (show (plainT e && chkE c (.ife t a b) e) = true from h)
    exact dt_val g.K (hsub (.ife t a b) (by simp; try omega) g h2) (plainT_of h1)
  | tup l =>
    obtain ⟨h1, h2⟩ := and_t (show (plainT e && chkE c (.tup l) e) = true from h)
    exact dt_val g.K (hsub (.tup l) (by simp; try omega) g h2) (plainT_of h1)
  | tupF l =>
    obtain ⟨h1, h2⟩ := and_t (show (plainT e && chkE c (.tupF l) e) = true from h)
    exact dt_val g.K (hsub (.tupF l) (by simp; try omega) g h2) (plainT_of h1)
  | lst l =>
    obtain ⟨h1, h2⟩ := and_t (show (plainT e && chkE c (.lst l) e) = true from h)
    exact dt_val g.K (hsub (.lst l) (by simp; try omega) g h2) (plainT_of h1)
  | newK =>
    obtain ⟨h1, h2⟩ := and_t (show (plainT e && chkE c (.newK) e) = true from h)
    exact dt_val g.K (hsub (.newK) (by simp; try omega) g h2) (plainT_of h1)
  | newT =>
    obtain ⟨h1, h2⟩ := and_t (show (plainT e && chkE c (.newT) e) = true from h)
    exact dt_val g.K (hsub (.newT) (by simp; try omega) g h2) (plainT_of h1)
  | idx a b =>
    obtain ⟨h1, h2⟩ := and_t (show (plainT e && chkE c (.idx a b) e) = true from h)
    exact dt_val g.K (hsub (.idx a b) (by simp; try omega) g h2) (plainT_of h1)
  | slc a lo hi =>
    obtain ⟨h1, h2⟩ := and_t (show (plainT e && chkE c (.slc a lo hi) e) = true from h)
    exact dt_val g.K (hsub (.slc a lo hi) (by simp; try omega) g h2) (plainT_of h1)
  | call f l =>
    obtain ⟨h1, h2⟩ := and_t (show (plainT e && chkE c (.call f l) e) = true from h)
    exact dt_val g.K (hsub (.call f l) (by simp; try omega) g h2) (plainT_of h1)
  | bi f l =>
    obtain ⟨h1, h2⟩ := and_t (show (plainT e && chkE c (.bi f l) e) = true from h)
    exact dt_val g.K (hsub (.bi f l) (by simp; try omega) g h2) (plainT_of h1)
  | bitlen a =>
    obtain ⟨h1, h2⟩ := and_t (show (plainT e && chkE c (.bitlen a) e) = true from h)
    exact dt_val g.K (hsub (.bitlen a) (by simp; try omega) g h2) (plainT_of h1)
  | get d k v =>
    obtain ⟨h1, h2⟩ := and_t (show (plainT e && chkE c (.get d k v) e) = true from h)
    exact dt_val g.K (hsub (.get d k v) (by simp; try omega) g h2) (plainT_of h1)
  | join s a =>
    obtain ⟨h1, h2⟩ := and_t (show (plainT e && chkE c (.join s a) e) = true from h)
    exact dt_val g.K (hsub (.join s a) (by simp; try omega) g h2) (plainT_of h1)
  | fld a k =>
    obtain ⟨h1, h2⟩ := and_t (show (plainT e && chkE c (.fld a k) e) = true from h)
    exact dt_val g.K (hsub (.fld a k) (by simp; try omega) g h2) (plainT_of h1)
  | lc elt t it cs own =>
    obtain ⟨h1, h2⟩ := and_t (show (plainT e && chkE c (.lc elt t it cs own) e) = true from h)
    exact dt_val g.K (hsub (.lc elt t it cs own) (by simp; try omega) g h2) (plainT_of h1)
  | allG neg elt t it cs own =>
    obtain ⟨h1, h2⟩ := and_t (show (plainT e && chkE c (.allG neg elt t it cs own) e) = true from h)
    exact dt_val g.K (hsub (.allG neg elt t it cs own) (by simp; try omega) g h2) (plainT_of h1)
  | sortK a own t key =>
    obtain ⟨h1, h2⟩ := and_t (show (plainT e && chkE c (.sortK a own t key) e) = true from h)
    exact dt_val g.K (hsub (.sortK a own t key) (by simp; try omega) g h2) (plainT_of h1)

theorem rng_ok {l : List Dx.E} (hsub : ∀ b ∈ l, ∀ {c : Ck} {E : XK} {X : Cx} {e : PySem.Expr}, Gd c M T cls CX lv F E X → chkE c b e = true → PE X e (tE M T (EvOf cls E) (evE F b) (kp b))) {c : Ck} {E : XK} {X : Cx} {tg e : PySem.Expr} (g : Gd c M T cls CX lv F E X) (h : chkIt c (.rng l) tg e = true) : ItOk M T (EvOf cls E) F X tg e (.rng l) := by
  unfold chkIt at h
  split at h
  · rename_i x p es pos
    obtain ⟨h, h4⟩ := and_t h
    obtain ⟨h, h3⟩ := and_t h
    obtain ⟨h1, h2⟩ := and_t h
    obtain ⟨e1, g1, m1⟩ := g.isB h1 (by decide)
    subst e1
    have st := chkL_star h4
    rcases rng_len (not_t h2) (of_decide_eq_true h3) with ⟨a, rfl⟩ | ⟨a, b, rfl⟩ | ⟨a, b, d, rfl⟩
    · rcases l with _ | ⟨a', _ | ⟨b', r⟩⟩
      · simp at st
      · unfold chkL chkL at h4
        obtain ⟨h4, _⟩ := and_t h4
        obtain ⟨s1, h4⟩ := and_t h4
        exact it_rng1 g1 m1 (by rw [star_cons s1]; rfl) (hsub a' (by simp) g h4)
      · simp at st
    · rcases l with _ | ⟨a', _ | ⟨b', _ | ⟨d', r⟩⟩⟩
      · simp at st
      · simp at st
      · unfold chkL chkL chkL at h4
        obtain ⟨h4, h5⟩ := and_t h4
        obtain ⟨s1, h4⟩ := and_t h4
        obtain ⟨h5, _⟩ := and_t h5
        obtain ⟨s2, h5⟩ := and_t h5
        have ee : evIt F (.rng [a', b']) = fun env => (evE F a' env >>= fun x => evE F b' env >>= fun y => .ok [x, y]) >>= rngG := by
          funext env
          show evL F [a', b'] env >>= rngG = _
          rw [evL2]
        show PI X tg _ (tI M T (EvOf cls E) (evIt F (.rng [a', b'])) _)
        rw [ee]
        exact it_rng2 g1 m1 (by rw [star_cons s1, star_cons s2]; rfl) (by rw [star_cons s2]; rfl) (hsub a' (by simp) g h4) (hsub b' (by simp) g h5)
      · simp at st
    · rcases l with _ | ⟨a', _ | ⟨b', _ | ⟨d', _ | ⟨f', r⟩⟩⟩⟩
      · simp at st
      · simp at st
      · simp at st
      · unfold chkL chkL chkL chkL at h4
        obtain ⟨h4, h5⟩ := and_t h4
        obtain ⟨s1, h4⟩ := and_t h4
        obtain ⟨h5, h6⟩ := and_t h5
        obtain ⟨s2, h5⟩ := and_t h5
        obtain ⟨h6, _⟩ := and_t h6
        obtain ⟨s3, h6⟩ := and_t h6
        have ee : evIt F (.rng [a', b', d']) = fun env => (evE F a' env >>= fun x => evE F b' env >>= fun y => evE F d' env >>= fun z => .ok [x, y, z]) >>= rngG := by
          funext env
          show evL F [a', b', d'] env >>= rngG = _
          rw [evL3]
        show PI X tg _ (tI M T (EvOf cls E) (evIt F (.rng [a', b', d'])) _)
        rw [ee]
        exact it_rng3 g1 m1 (star_cons s1) (star_cons s2) (star_cons s3) (star_any (by rw [List.all_cons, List.all_cons, s2, s3]; rfl)) (hsub a' (by simp) g h4) (hsub b' (by simp) g h5) (hsub d' (by simp) g h6)
      · simp at st
  · cases h

theorem revR_ok {l : List Dx.E} (hsub : ∀ b ∈ l, ∀ {c : Ck} {E : XK} {X : Cx} {e : PySem.Expr}, Gd c M T cls CX lv F E X → chkE c b e = true → PE X e (tE M T (EvOf cls E) (evE F b) (kp b))) {c : Ck} {E : XK} {X : Cx} {tg e : PySem.Expr} (g : Gd c M T cls CX lv F E X) (h : chkIt c (.revR l) tg e = true) : ItOk M T (EvOf cls E) F X tg e (.revR l) := by
  unfold chkIt at h
  split at h
  · rename_i x p y p2 es pos pos2
    obtain ⟨h, h5⟩ := and_t h
    obtain ⟨h, h4⟩ := and_t h
    obtain ⟨h, h3⟩ := and_t h
    obtain ⟨h1, h2⟩ := and_t h
    obtain ⟨e1, g1, m1⟩ := g.isB h1 (by decide)
    obtain ⟨e2, g2, m2⟩ := g.isB h2 (by decide)
    subst e1; subst e2
    have st := chkL_star h5
    have hle : es.length ≤ 2 := of_decide_eq_true h4
    rcases rng_len (not_t h3) (by omega) with ⟨a, rfl⟩ | ⟨a, b, rfl⟩ | ⟨a, b, d, rfl⟩
    · rcases l with _ | ⟨a', _ | ⟨b', r⟩⟩
      · simp at st
      · unfold chkL chkL at h5
        obtain ⟨h4, _⟩ := and_t h5
        obtain ⟨s1, h4⟩ := and_t h4
        exact it_revR1 g2 m2 g1 m1 (star_cons s1) (hsub a' (by simp) g h4)
      · simp at st
    · rcases l with _ | ⟨a', _ | ⟨b', _ | ⟨d', r⟩⟩⟩
      · simp at st
      · simp at st
      · unfold chkL chkL chkL at h5
        obtain ⟨h4, h5⟩ := and_t h5
        obtain ⟨s1, h4⟩ := and_t h4
        obtain ⟨h5, _⟩ := and_t h5
        obtain ⟨s2, h5⟩ := and_t h5
        have ee : evIt F (.revR [a', b']) = fun env => (evE F a' env >>= fun x => evE F b' env >>= fun y => .ok [x, y]) >>= revRG := by
          funext env
          show evL F [a', b'] env >>= revRG = _
          rw [evL2]
        show PI X tg _ (tI M T (EvOf cls E) (evIt F (.revR [a', b'])) _)
        rw [ee]
        exact it_revR2 g2 m2 g1 m1 (star_cons s1) (star_cons s2) (star_any (by rw [List.all_cons, s2]; rfl)) (hsub a' (by simp) g h4) (hsub b' (by simp) g h5)
      · simp at st
    · simp at hle
  · cases h

theorem bi_ok {f : Bi} {l : List Dx.E} (hsub : ∀ b ∈ l, ∀ {c : Ck} {E : XK} {X : Cx} {e : PySem.Expr}, Gd c M T cls CX lv F E X → chkE c b e = true → PE X e (tE M T (EvOf cls E) (evE F b) (kp b))) (hl : ∀ {c : Ck} {E : XK} {X : Cx} {es : List PySem.Expr}, Gd c M T cls CX lv F E X → chkL c l es = true → PA X es (tL M T (EvOf cls E) (evL F l) (kpAll l))) {c : Ck} {E : XK} {X : Cx} {e : PySem.Expr} (g : Gd c M T cls CX lv F E X) (h : chkE c (.bi f l) e = true) : PE X e (tE M T (EvOf cls E) (evE F (.bi f l)) (kp (.bi f l))) := by
  unfold chkE at h
  split at h
  · rename_i x p es pos
    split at h
    · rename_i y hy
      obtain ⟨h1, h2⟩ := and_t h
      split at h2
      · rename_i a x1 z p2
        obtain ⟨h2, h5⟩ := and_t h2
        obtain ⟨h3, h4⟩ := and_t h2
        obtain ⟨e1, g1, m1⟩ := g.isB h1 (by decide)
        have hyb : y ∈ bltNames := by
          cases f <;> first | (cases hy; decide) | cases hy
        obtain ⟨e2, g2, m2⟩ := g.isB h3 hyb
        subst e1; subst e2
        have := de_isi (p := p) (pos := pos) (k' := kp (.bi f [a])) g.K hy g1 m1 g2 m2 (star_cons (es := [.Name z p2]) h4) (hsub a (by simp) g h5)
        refine pe_weak this fun σ H Q q => ?_
        have eq : evE F (.bi f [a]) = (fun env => evE F a env >>= fun x => biD f [x]) := by
          funext env
          show ((evE F a env >>= fun x => .ok [x]) >>= fun ds => biD f ds) = _
          rw [Res.bind_assoc]; rfl
        rw [eq] at q
        exact q
      · cases h2
    · obtain ⟨h, h3⟩ := and_t h
      obtain ⟨h1, h2⟩ := and_t h
      split at h1
      · rename_i y q hb
        obtain ⟨id, b⟩ := q
        have hyb : y ∈ bltNames := by
          cases f <;> first | (cases hb; decide) | cases hb
        obtain ⟨e1, g1, m1⟩ := g.isB h1 hyb
        subst e1
        obtain ⟨hst, hlen⟩ := chkL_star h3
        cases es with
        | nil => cases h2
        | cons e1 es1 =>
          rw [List.all_cons] at hst
          obtain ⟨s1, s2⟩ := and_t hst
          exact de_bi g.K g.u g.calm hb g1 m1 (star_cons s1) (star_any s2) (hl g h3)
      · split at h1
        · rename_i y hb
          have hyb : y ∈ bltNames := by
            cases f <;> first | (cases hb; decide) | cases hb
          obtain ⟨e1, g1, m1⟩ := g.isB h1 hyb
          subst e1
          obtain ⟨hst, hlen⟩ := chkL_star h3
          cases es with
          | nil => cases h2
          | cons e1 es1 =>
            rw [List.all_cons] at hst
            obtain ⟨s1, s2⟩ := and_t hst
            cases f <;> first | cases hb | skip
            · exact de_tupleF g.K g1 m1 (star_cons s1) (star_any s2) (hl g h3)
            · exact de_new (fun env d z => by
                obtain ⟨ds, z1, z2⟩ := Res.bind_eq_ok (show (evL F l env >>= fun ds => biD .dict ds) = .ok d from z)
                exact dict_own z2) (dn_dict g.w g.calm g.u g1 m1 (star_cons s1) (star_any s2) (hl g h3))
        · cases h1
  · cases h

theorem plainIt_of {Ev : Nat → Hp → Prop} {X : Cx} {tg iter : PySem.Expr} {it : Dx.It} (h : ItOk M T Ev F X tg iter it) (hp : plainIt it = true) : PI X tg iter (tI M T Ev (evIt F it) (kpIt it)) := by
  cases it <;> first | exact h | cases hp
theorem sortK_own {a : Dx.E} (t : Nat) (key : Dx.E) : ∀ env d, (evE F a env >>= sortKG t (evE F key) (kp key) (wipeE env [t])) = .ok d → ∃ s, ownOf d = .ok s := fun env d z => by
  obtain ⟨x, _, z⟩ := Res.bind_eq_ok z
  obtain ⟨ds, _, z⟩ := Res.bind_eq_ok z
  obtain ⟨ks, _, z⟩ := Res.bind_eq_ok z
  split at z
  · cases z; exact ⟨_, rfl⟩
  · cases z
mutual
theorem eOk : ∀ (a : Dx.E) {c : Ck} {E : XK} {X : Cx} {e : PySem.Expr}, Gd c M T cls CX lv F E X → chkE c a e = true → PE X e (tE M T (EvOf cls E) (evE F a) (kp a))
  | .var i, c, E, X, e, g, h => by
    unfold chkE at h
    split at h
    · exact de_var (g.vis h)
    · cases h
  | .lit l, c, E, X, e, g, h => by
    unfold chkE at h
    split at h
    · obtain ⟨v, h1, h2⟩ := lit_pe (X := X) (M := M) h
      exact de_c h1 h2
    · rename_i x pos
      obtain ⟨h, h3⟩ := and_t h
      obtain ⟨h1, h2⟩ := and_t h
      cases l <;> first | cases h3 | skip
      rename_i i
      have h3 : (match c.consts.lookup x with | some j => decide (j = i) | none => false) = true := h3
      split at h3
      · rename_i j hj
        have e := of_decide_eq_true h3
        subst e
        obtain ⟨t, ht⟩ := g.consts x j hj
        exact de_c (pe_glob (v := .int j) (g.gl h1) ht ⟨t, rfl⟩ (ne_beq (eqS_ne h2))) fun H => rp_int
      · cases h3
    · cases h
  | .bin o a b, c, E, X, e, g, h => by
    unfold chkE at h
    split at h
    · obtain ⟨h, h3⟩ := and_t h
      obtain ⟨h1, h2⟩ := and_t h
      exact de_bin g.K (op_mem h1) (eOk a g h2) (eOk b g h3)
    · cases h
  | .neg a, c, E, X, e, g, h => by
    unfold chkE at h
    split at h
    · exact de_neg (eOk a g h)
    · cases h
  | .inv a, c, E, X, e, g, h => by
    unfold chkE at h
    split at h
    · exact de_inv (eOk a g h)
    · cases h
  | .not a, c, E, X, e, g, h => by
    unfold chkE at h
    split at h
    · exact de_not g.K (eOk a g h)
    · cases h
  | .andE a b, c, E, X, e, g, h => by
    unfold chkE at h
    split at h
    · obtain ⟨h1, h2⟩ := and_t h
      split at h2
      · exact de_and (eOk a g h1) (one_bool (eOk b g h2))
      · exact de_and (eOk a g h1) (eOk b g h2)
    · cases h
  | .orE a b, c, E, X, e, g, h => by
    unfold chkE at h
    split at h
    · obtain ⟨h1, h2⟩ := and_t h
      split at h2
      · exact de_or (eOk a g h1) (one_bool (eOk b g h2))
      · exact de_or (eOk a g h1) (eOk b g h2)
    · cases h
  | .cmp o a b, c, E, X, e, g, h => by
    unfold chkE at h
    split at h
    · obtain ⟨h, h4⟩ := and_t h
      obtain ⟨h, h3⟩ := and_t h
      obtain ⟨h1, h2⟩ := and_t h
      have eo := of_decide_eq_true (p := _ = _) h1
      subst eo
      exact de_cmp g.K g.w g.u (not_t h2) (eOk a g h3) (eOk b g h4)
    · cases h
  | .chain o o' a b d, c, E, X, e, g, h => by
    unfold chkE at h
    split at h
    · obtain ⟨h, h6⟩ := and_t h
      obtain ⟨h, h5⟩ := and_t h
      obtain ⟨h, h4⟩ := and_t h
      obtain ⟨h, h3⟩ := and_t h
      obtain ⟨h1, h2⟩ := and_t h
      have eo := of_decide_eq_true (p := _ = _) h1
      have eo' := of_decide_eq_true (p := _ = _) h2
      subst eo; subst eo'
      exact de_chain g.K g.w g.u (not_t h3) (eOk a g h4) (eOk b g h5) (eOk d g h6)
    · cases h
  | .ife t a b, c, E, X, e, g, h => by
    unfold chkE at h
    split at h
    · obtain ⟨h, h3⟩ := and_t h
      obtain ⟨h1, h2⟩ := and_t h
      exact de_ife (tOk t g h1) (eOk a g h2) (eOk b g h3)
    · cases h
  | .tup l, c, E, X, e, g, h => by
    unfold chkE at h
    split at h
    · exact de_tup (lOk l g h)
    · cases h
  | .tupF l, c, E, X, e, g, h => by
    unfold chkE at h
    split at h
    · exact de_tupF (lOk l g h)
    · cases h
  | .lst l, c, E, X, e, g, h => by
    unfold chkE at h
    split at h
    · exact de_new lst_own (dn_lst (lOk l g h))
    · cases h
  | .newK, c, E, X, e, g, h => by
    unfold chkE at h
    split at h
    · exact de_new (fun env d z => by cases z; exact ⟨_, rfl⟩) (dn_dct (t := false) pe_dnewK)
    · cases h
  | .newT, c, E, X, e, g, h => by
    unfold chkE at h
    split at h
    · exact de_new (fun env d z => by cases z; exact ⟨_, rfl⟩) (dn_dct (t := true) pe_dnewT)
    · cases h
  | .idx a b, c, E, X, e, g, h => by
    unfold chkE at h
    split at h
    · obtain ⟨h, h3⟩ := and_t h
      obtain ⟨h1, h2⟩ := and_t h
      exact de_idx g.K (by have := g.u; omega) h1 (eOk a g h2) (eOk b g h3)
    · cases h
  | .slc a lo hi, c, E, X, e, g, h => by
    unfold chkE at h
    split at h
    · obtain ⟨h, h3⟩ := and_t h
      obtain ⟨h1, h2⟩ := and_t h
      exact de_slc g.K (eOk a g h1) (oOk lo g h2) (oOk hi g h3)
    · cases h
  | .call f l, c, E, X, e, g, h => by
    unfold chkE at h
    split at h
    · rename_i x p es pos
      obtain ⟨h, h5⟩ := and_t h
      obtain ⟨h, h4⟩ := and_t h
      obtain ⟨h, h3⟩ := and_t h
      obtain ⟨h1, h2⟩ := and_t h
      have hf : c.fns[f]? = some x := by
        cases q : c.fns[f]? with
        | none => rw [q] at h1; cases h1
        | some y => rw [q] at h1; rw [eqS_eq h1]
      obtain ⟨fa, fd, ps, k, n, G, dd, dvs, dsv, FO, hk, hm, hkp, hb, hd, hn, hdd, hh⟩ := g.fns f x es.length hf h4
      have hdb := ne_beq (eqS_ne h3)
      obtain ⟨hst, hlen⟩ := chkL_star h5
      have eq : callG (kpAll l) (evL F l) (F f) = callG (kpAll l) (evL F l) (fun ds => G (ds ++ dd)) := by
        funext env
        unfold callG
        split
        · cases q : evL F l env with
          | ok ds => show F f ds = G (ds ++ dd); exact hh ds (by rw [evL_len l env ds q, hlen])
          | exc n => rfl
          | bad => rfl
        · rfl
      show PE X _ (tE M T (EvOf cls E) (callG (kpAll l) (evL F l) (F f)) (kp (.call f l)))
      rw [eq]
      cases es with
      | nil =>
        cases l with
        | nil => exact de_call0 FO (g.room.mono hk) (g.gl h2) hm hkp hb hd g.pass hn hdd (fun _ => rfl) hdb
        | cons a l => simp at hlen
      | cons e1 es1 =>
        rw [List.all_cons] at hst
        obtain ⟨s1, s2⟩ := and_t hst
        exact de_call FO (g.room.mono hk) (g.gl h2) hm hkp hb hd g.pass hn hdd (fun _ => rfl) (lOk l g h5) hdb (star_cons s1) (star_any s2)
    · cases h
  | .bi f l, c, E, X, e, g, h => bi_ok (fun b hb => fun g h => eOk b g h) (fun g h => lOk l g h) g h
  | .bitlen a, c, E, X, e, g, h => by
    unfold chkE at h
    split at h
    · obtain ⟨h, h4⟩ := and_t h
      obtain ⟨h, h3⟩ := and_t h
      obtain ⟨h1, h2⟩ := and_t h
      have em := eqS_eq h1
      subst em
      exact de_bitlen (eOk a g h4) (base_of h3) h2
    · cases h
  | .get d k v, c, E, X, e, g, h => by
    unfold chkE at h
    split at h
    · rename_i x m ap y z cp
      obtain ⟨h, h8⟩ := and_t h
      obtain ⟨h, h7⟩ := and_t h
      obtain ⟨h, h6⟩ := and_t h
      obtain ⟨h, h5⟩ := and_t h
      obtain ⟨h, h4⟩ := and_t h
      obtain ⟨h, h3⟩ := and_t h
      obtain ⟨h1, h2⟩ := and_t h
      have em := eqS_eq h1
      subst em
      have tr : backTo cp (starEach [y, z] X.env) = [(false, eval y X.env), (false, eval z X.env)] := by
        rw [star_cons h4, star_cons h5]; rfl
      exact de_get (by have := g.u; omega) (eOk d g h6) (eOk k g h7) (eOk v g h8) ⟨base_of h3, by rw [tr]; rfl, h2, tr⟩
    · cases h
  | .join s a, c, E, X, e, g, h => by
    unfold chkE at h
    split at h
    · rename_i x m ap y cp
      obtain ⟨h, h6⟩ := and_t h
      obtain ⟨h, h5⟩ := and_t h
      obtain ⟨h, h4⟩ := and_t h
      obtain ⟨h, h3⟩ := and_t h
      obtain ⟨h1, h2⟩ := and_t h
      have em := eqS_eq h1
      subst em
      exact de_join g.K (eOk s g h5) (eOk a g h6) (by rw [star_cons h4]; rfl) (base_of h3) h2
    · cases h
  | .fld a k, c, E, X, e, g, h => by cases h
  | .lc elt t it cs own, c, E, X, e, g, h => by
    unfold chkE at h
    split at h
    · rename_i x tg iter ifs k scope pos
      obtain ⟨h, h7⟩ := and_t h
      obtain ⟨h, h6⟩ := and_t h
      obtain ⟨h, h5⟩ := and_t h
      obtain ⟨h, h4⟩ := and_t h
      obtain ⟨h, h3⟩ := and_t h
      obtain ⟨h1, h2⟩ := and_t h
      have ek : k = 0 := eq_of_beq h1
      subst ek
      exact de_new lc_own (lc_ok g h2 h3 (itOk it g h4) h5 (fun g' => csOk cs g' h6) (fun g' => eOk elt g' h7))
    · cases h
  | .allG neg elt t it cs own, c, E, X, e, g, h => by
    unfold chkE at h
    split at h
    · rename_i x p a tg iter ifs k scope gpos pos
      obtain ⟨h, h14⟩ := and_t h
      obtain ⟨h, h13⟩ := and_t h
      obtain ⟨h, h12⟩ := and_t h
      obtain ⟨h, h11⟩ := and_t h
      obtain ⟨h, h10⟩ := and_t h
      obtain ⟨h, h9⟩ := and_t h
      obtain ⟨h, h8⟩ := and_t h
      obtain ⟨h, h7⟩ := and_t h
      obtain ⟨h, h6⟩ := and_t h
      obtain ⟨h, h5⟩ := and_t h
      obtain ⟨h, h4⟩ := and_t h
      obtain ⟨h, h3⟩ := and_t h
      obtain ⟨h1, h2⟩ := and_t h
      obtain ⟨e1, g1, m1⟩ := g.isB h2 (by unfold allN; split <;> decide)
      subst e1
      have ek : k = 0 := eq_of_beq h3
      subst ek
      obtain ⟨hr, cc, P, TB, hP, hcode⟩ := g.gen h1
      obtain ⟨ok, hco⟩ := g.genOk h4
      have hit := plainIt_of (itOk it g h11) h10
      have hq : Nm.nm gpos.line gpos.col = X.env.qual ++ "<genexpr>" := by rw [← g.nm, eqS_eq h9, g.qual h1]
      have hv : ∀ n ∈ tgN t, n ∈ (c.own own).map (·.2) := fun n hn => by
        rw [own_map]
        exact List.contains_iff_mem.mp (List.all_eq_true.mp h5 n hn)
      have := de_all (neg := neg) (k' := kp (.allG neg elt t it cs own)) (pos := pos) (p := p) rfl g1 m1 hv hr g.calm g.nd TB hP hcode hq ok hco (isLoc_of h6) hit (genFold_of h7 h8)
        (fun s H cenv A' fp pn hs rA => tg_ok t (g.inSub ok.kind hs rA) h12) (fun s H cenv A' fp pn hs rA => csOk cs (g.inSub ok.kind hs rA) h13) (fun s H cenv A' fp pn hs rA => eOk elt (g.inSub ok.kind hs rA) h14)
      rw [own_map] at this
      exact this
    · cases h
  | .sortK a own t key, c, E, X, e, g, h => by
    unfold chkE at h
    split at h
    · rename_i x p y kw params body scope lpos kpos pos
      split at h
      · rename_i pn i hp
        obtain ⟨h, h11⟩ := and_t h
        obtain ⟨h, h10⟩ := and_t h
        obtain ⟨h, h9⟩ := and_t h
        obtain ⟨h, h8⟩ := and_t h
        obtain ⟨h, h7⟩ := and_t h
        obtain ⟨h, h6⟩ := and_t h
        obtain ⟨h, h5⟩ := and_t h
        obtain ⟨h, h4⟩ := and_t h
        obtain ⟨h, h3⟩ := and_t h
        obtain ⟨h1, h2⟩ := and_t h
        have hit : i = t := eq_of_beq h5
        subst hit
        have ekw := eqS_eq h3
        subst ekw
        obtain ⟨q1, g1, m1⟩ := g.isB h2 (by decide)
        obtain ⟨ppos, epar⟩ := oneP_of hp
        subst epar
        obtain ⟨hr, cc, P, TB, hP, hcode⟩ := g.gen h1
        obtain ⟨ok, hco⟩ := g.genOk h6
        have hq : Nm.nm lpos.line lpos.col = X.env.qual ++ "<lambda>" := by rw [← g.nm, eqS_eq h9, g.qual h1]
        subst q1
        exact de_new (sortK_own i key) (dn_sortK g.K g.u rfl g1 m1 hr g.calm g.nd TB hP hcode hq ok hco (not_t h7) (isLoc_of h8) (star_cons h4) rfl (fun q cl pm c' ctv u => bind_one) (eOk a g h10) (fun s H cenv A' hs rA => eOk key (g.inSub (fp := []) (pn := []) ok.kind hs rA) h11))
      · cases h
    · cases h
termination_by a => sizeOf a
decreasing_by all_goals (first | (simp_wf; done) | (simp_wf; omega) | (have := List.sizeOf_lt_of_mem ‹_ ∈ _›; simp_wf; done) | (have := List.sizeOf_lt_of_mem ‹_ ∈ _›; simp_wf; omega) | (simp_wf; assumption))
theorem lOk : ∀ (l : List Dx.E) {c : Ck} {E : XK} {X : Cx} {es : List PySem.Expr}, Gd c M T cls CX lv F E X → chkL c l es = true → PA X es (tL M T (EvOf cls E) (evL F l) (kpAll l))
  | [], c, E, X, es, g, h => by
    unfold chkL at h
    cases es with
    | nil => exact da_nil
    | cons e r => cases h
  | a :: l, c, E, X, es, g, h => by
    unfold chkL at h
    split at h
    · obtain ⟨h, h3⟩ := and_t h
      obtain ⟨h1, h2⟩ := and_t h
      exact da_cons (star_cons h1) (eOk a g h2) (lOk l g h3)
    · cases h
termination_by a => sizeOf a
decreasing_by all_goals (first | (simp_wf; done) | (simp_wf; omega) | (have := List.sizeOf_lt_of_mem ‹_ ∈ _›; simp_wf; done) | (have := List.sizeOf_lt_of_mem ‹_ ∈ _›; simp_wf; omega) | (simp_wf; assumption))
theorem oOk : ∀ (o : Option Dx.E) {c : Ck} {E : XK} {X : Cx} {e : Option PySem.Expr}, Gd c M T cls CX lv F E X → chkO c o e = true → PO X e (tO M T (EvOf cls E) (evO F o))
  | none, c, E, X, e, g, h => by
    unfold chkO at h
    cases e with
    | none => exact do_none
    | some e => cases h
  | some a, c, E, X, e, g, h => by
    unfold chkO at h
    split at h
    · exact do_some (eOk a g h)
    · cases h
termination_by a => sizeOf a
decreasing_by all_goals (first | (simp_wf; done) | (simp_wf; omega) | (have := List.sizeOf_lt_of_mem ‹_ ∈ _›; simp_wf; done) | (have := List.sizeOf_lt_of_mem ‹_ ∈ _›; simp_wf; omega) | (simp_wf; assumption))
theorem itOk : ∀ (it : Dx.It) {c : Ck} {E : XK} {X : Cx} {tg e : PySem.Expr}, Gd c M T cls CX lv F E X → chkIt c it tg e = true → ItOk M T (EvOf cls E) F X tg e it
  | .seq a, c, E, X, tg, e, g, h => by
    unfold chkIt at h
    exact it_seq g.K (eOk a g h)
  | .rng l, c, E, X, tg, e, g, h => rng_ok (fun b hb => fun g h => eOk b g h) g h
  | .rev a, c, E, X, tg, e, g, h => by
    unfold chkIt at h
    split at h
    · obtain ⟨h, h3⟩ := and_t h
      obtain ⟨h1, h2⟩ := and_t h
      obtain ⟨e1, g1, m1⟩ := g.isB h1 (by decide)
      subst e1
      exact it_rev g.K g1 m1 (star_cons h2) (eOk a g h3)
    · cases h
  | .revR l, c, E, X, tg, e, g, h => revR_ok (fun b hb => fun g h => eOk b g h) g h
  | .enum a, c, E, X, tg, e, g, h => by
    unfold chkIt at h
    split at h
    · obtain ⟨h, h3⟩ := and_t h
      obtain ⟨h1, h2⟩ := and_t h
      obtain ⟨e1, g1, m1⟩ := g.isB h1 (by decide)
      subst e1
      exact it_enum g.K g1 m1 (by rw [star_cons h2]; rfl) (eOk a g h3)
    · cases h
  | .zip a b, c, E, X, tg, e, g, h => by
    unfold chkIt at h
    split at h
    · obtain ⟨h, h5⟩ := and_t h
      obtain ⟨h, h4⟩ := and_t h
      obtain ⟨h, h3⟩ := and_t h
      obtain ⟨h1, h2⟩ := and_t h
      obtain ⟨e1, g1, m1⟩ := g.isB h1 (by decide)
      subst e1
      exact it_zip g.K g1 m1 (star_cons h2) (star_cons h3) (star_any (by rw [List.all_cons, h3]; rfl)) (eOk a g h4) (eOk b g h5)
    · cases h
  | .keys i, c, E, X, tg, e, g, h => by
    unfold chkIt at h
    split at h
    · exact pi_dct (g.vis h)
    · cases h
  | .items i, c, E, X, tg, e, g, h => by
    unfold chkIt at h
    split at h
    · obtain ⟨h, h3⟩ := and_t h
      obtain ⟨h1, h2⟩ := and_t h
      have em := eqS_eq h1
      subst em
      exact pi_dctI (g.vis h3) (base_of rfl) h2
    · cases h
termination_by a => sizeOf a
decreasing_by all_goals (first | (simp_wf; done) | (simp_wf; omega) | (have := List.sizeOf_lt_of_mem ‹_ ∈ _›; simp_wf; done) | (have := List.sizeOf_lt_of_mem ‹_ ∈ _›; simp_wf; omega) | (simp_wf; assumption))
theorem tOk : ∀ (t : Tst) {c : Ck} {E : XK} {X : Cx} {e : PySem.Expr}, Gd c M T cls CX lv F E X → chkT c t e = true → PT X e (tT M T (EvOf cls E) (evT F t))
  | .e a, c, E, X, e, g, h => tE_ok (fun b hb => fun g h => eOk b g h) g h
  | .not t, c, E, X, e, g, h => by
    unfold chkT at h
    split at h
    · exact dt_not (tOk t g h)
    · cases h
  | .and t u, c, E, X, e, g, h => by
    unfold chkT at h
    split at h
    · obtain ⟨h1, h2⟩ := and_t h
      split at h2
      · exact pt_weak (PW.pt (pw_and (tOk t g h1) (pw_and1 (tOk u g h2)))) (dt_and (X := X) (fun _ _ _ q => q) (fun _ _ _ q => q))
      · exact pt_weak (PW.pt (pw_and (tOk t g h1) (PW.of (tOk u g h2)))) (dt_and (X := X) (fun _ _ _ q => q) (fun _ _ _ q => q))
    · cases h
  | .or t u, c, E, X, e, g, h => by
    unfold chkT at h
    split at h
    · obtain ⟨h1, h2⟩ := and_t h
      split at h2
      · exact pt_weak (PW.pt (pw_or (tOk t g h1) (pw_or1 (tOk u g h2)))) (dt_or (X := X) (fun _ _ _ q => q) (fun _ _ _ q => q))
      · exact pt_weak (PW.pt (pw_or (tOk t g h1) (PW.of (tOk u g h2)))) (dt_or (X := X) (fun _ _ _ q => q) (fun _ _ _ q => q))
    · cases h
termination_by a => sizeOf a
decreasing_by all_goals (first | (simp_wf; done) | (simp_wf; omega) | (have := List.sizeOf_lt_of_mem ‹_ ∈ _›; simp_wf; done) | (have := List.sizeOf_lt_of_mem ‹_ ∈ _›; simp_wf; omega) | (simp_wf; assumption))
theorem csOk : ∀ (l : List Tst) {c : Ck} {E : XK} {X : Cx} {es : List PySem.Expr}, Gd c M T cls CX lv F E X → chkCs c l es = true → PTs X es (tT M T (EvOf cls E) (evCs F l))
  | [], c, E, X, es, g, h => by
    unfold chkCs at h
    cases es with
    | nil => exact dtests_nil
    | cons e r => cases h
  | [t], c, E, X, es, g, h => by
    unfold chkCs at h
    split at h
    · exact dtests_one (tOk t g h)
    · cases h
  | _ :: _ :: _, c, E, X, es, g, h => by cases h
termination_by a => sizeOf a
decreasing_by all_goals (first | (simp_wf; done) | (simp_wf; omega) | (have := List.sizeOf_lt_of_mem ‹_ ∈ _›; simp_wf; done) | (have := List.sizeOf_lt_of_mem ‹_ ∈ _›; simp_wf; omega) | (simp_wf; assumption))
end
end
end Dx
namespace Dx
variable [Nm]
open PySem PySem.Spec L2
section
variable {M : MatC} {T : List Addr} {cls : Nat → Addr} {CX : CXT} {lv : Nat} {F : Fns}
/-- a new object -/
theorem nOk {a : Dx.E} {c : Ck} {E : XK} {X : Cx} {e : PySem.Expr} (g : Gd c M T cls CX lv F E X) (hn : isNew a = true) (h : chkE c a e = true) : PE X e (tN M T (EvOf cls E) (evE F a)) := by
  cases a <;> first | cases hn | skip
  case bin o a b =>
    unfold chkE at h
    split at h
    · rename_i x op y pos
      obtain ⟨h, h3⟩ := and_t h
      obtain ⟨h1, h2⟩ := and_t h
      cases o <;> first | cases hn | skip
      · cases op <;> first | cases h1 | skip
        exact dn_add g.K (eOk a g h2) (eOk b g h3)
      · cases op <;> first | cases h1 | skip
        exact dn_mul g.K (eOk a g h2) (eOk b g h3)
    · cases h
  case lst l =>
    unfold chkE at h
    split at h
    · exact dn_lst (lOk l g h)
    · cases h
  case newK =>
    unfold chkE at h
    split at h
    · exact dn_dct (t := false) pe_dnewK
    · cases h
  case newT =>
    unfold chkE at h
    split at h
    · exact dn_dct (t := true) pe_dnewT
    · cases h
  case slc a lo hi =>
    unfold chkE at h
    split at h
    · obtain ⟨h, h3⟩ := and_t h
      obtain ⟨h1, h2⟩ := and_t h
      exact dn_slc g.K (eOk a g h1) (oOk lo g h2) (oOk hi g h3)
    · cases h
  case bi f l =>
    cases f <;> first | cases hn | skip
    · unfold chkE at h
      split at h
      · rename_i x p es pos
        obtain ⟨h, h3⟩ := and_t h
        obtain ⟨h1, h2⟩ := and_t h
        obtain ⟨e1, g1, m1⟩ := g.isB h1 (by decide)
        subst e1
        obtain ⟨hst, hlen⟩ := chkL_star h3
        cases es with
        | nil => cases h2
        | cons e1 es1 =>
          rw [List.all_cons] at hst
          obtain ⟨s1, s2⟩ := and_t hst
          exact dn_list g.K g1 m1 (star_cons s1) (star_any s2) (lOk l g h3)
      · cases h
    · unfold chkE at h
      split at h
      · rename_i x p es pos
        obtain ⟨h, h3⟩ := and_t h
        obtain ⟨h1, h2⟩ := and_t h
        obtain ⟨e1, g1, m1⟩ := g.isB h1 (by decide)
        subst e1
        obtain ⟨hst, hlen⟩ := chkL_star h3
        cases es with
        | nil => cases h2
        | cons e1 es1 =>
          rw [List.all_cons] at hst
          obtain ⟨s1, s2⟩ := and_t hst
          exact dn_dict g.w g.calm g.u g1 m1 (star_cons s1) (star_any s2) (lOk l g h3)
      · cases h
    · unfold chkE at h
      split at h
      · rename_i x p es pos
        obtain ⟨h, h3⟩ := and_t h
        obtain ⟨h1, h2⟩ := and_t h
        obtain ⟨e1, g1, m1⟩ := g.isB h1 (by decide)
        subst e1
        obtain ⟨hst, hlen⟩ := chkL_star h3
        cases es with
        | nil => cases h2
        | cons e1 es1 =>
          rw [List.all_cons] at hst
          obtain ⟨s1, s2⟩ := and_t hst
          exact dn_sorted g.K g.u g1 m1 (star_cons s1) (star_any s2) (lOk l g h3)
      · cases h
  case lc elt t it cs own =>
    unfold chkE at h
    split at h
    · rename_i x tg iter ifs k scope pos
      obtain ⟨h, h7⟩ := and_t h
      obtain ⟨h, h6⟩ := and_t h
      obtain ⟨h, h5⟩ := and_t h
      obtain ⟨h, h4⟩ := and_t h
      obtain ⟨h, h3⟩ := and_t h
      obtain ⟨h1, h2⟩ := and_t h
      have ek : k = 0 := eq_of_beq h1
      subst ek
      exact lc_ok g h2 h3 (itOk it g h4) h5 (fun g' => csOk cs g' h6) (fun g' => eOk elt g' h7)
    · cases h
  case sortK a own t key =>
    unfold chkE at h
    split at h
    · rename_i x p y kw params body scope lpos kpos pos
      split at h
      · rename_i pn i hp
        obtain ⟨h, h11⟩ := and_t h
        obtain ⟨h, h10⟩ := and_t h
        obtain ⟨h, h9⟩ := and_t h
        obtain ⟨h, h8⟩ := and_t h
        obtain ⟨h, h7⟩ := and_t h
        obtain ⟨h, h6⟩ := and_t h
        obtain ⟨h, h5⟩ := and_t h
        obtain ⟨h, h4⟩ := and_t h
        obtain ⟨h, h3⟩ := and_t h
        obtain ⟨h1, h2⟩ := and_t h
        have hit : i = t := eq_of_beq h5
        subst hit
        have ekw := eqS_eq h3
        subst ekw
        obtain ⟨q1, g1, m1⟩ := g.isB h2 (by decide)
        obtain ⟨ppos, epar⟩ := oneP_of hp
        subst epar
        obtain ⟨hr, cc, P, TB, hP, hcode⟩ := g.gen h1
        obtain ⟨ok, hco⟩ := g.genOk h6
        have hq : Nm.nm lpos.line lpos.col = X.env.qual ++ "<lambda>" := by rw [← g.nm, eqS_eq h9, g.qual h1]
        subst q1
        exact dn_sortK g.K g.u rfl g1 m1 hr g.calm g.nd TB hP hcode hq ok hco (not_t h7) (isLoc_of h8) (star_cons h4) rfl (fun q cl pm c' ctv u => bind_one) (eOk a g h10) (fun s H cenv A' hs rA => eOk key (g.inSub (fp := []) (pn := []) ok.kind hs rA) h11)
      · cases h
    · cases h
/-! ### several names at once -/
def itemT (M : MatC) (T : List Addr) (Ev : Nat → Hp → Prop) (F : Fns) (b : Bool) (e : Dx.E) : TE := match b with
  | true => tN M T Ev (evE F e)
  | false => tE M T Ev (evE F e) (kp e)
def itemsT (M : MatC) (T : List Addr) (Ev : Nat → Hp → Prop) (F : Fns) : List (Nat × Bool × Dx.E) → TA
  | [] => tNil
  | (_, b, e) :: l => tCons (itemT M T Ev F b e) (itemsT M T Ev F l)
def setV : List (Nat × Bool × Dx.E) → List V → L2.St → L2.St
  | (i, _, _) :: l, v :: vs, σ => setV l vs (σ.set i (some v))
  | _, _, σ => σ
theorem items_mono {Ev : Nat → Hp → Prop} : ∀ (l : List (Nat × Bool × Dx.E)) (σ : L2.St) (H : Hp) (Q Q' : List V → Hp → Prop), (∀ vs H1, Q vs H1 → Q' vs H1) → itemsT M T Ev F l σ H Q → itemsT M T Ev F l σ H Q' := by
  intro l
  induction l with
  | nil => intro σ H Q Q' k q; exact k _ _ q
  | cons a l ih =>
    intro σ H Q Q' k q
    obtain ⟨j, b, e⟩ := a
    have q : itemT M T Ev F b e σ H fun x H1 => itemsT M T Ev F l σ H1 fun xs H2 => Q (x :: xs) H2 := q
    show itemT M T Ev F b e σ H fun x H1 => itemsT M T Ev F l σ H1 fun xs H2 => Q' (x :: xs) H2
    cases b with
    | true =>
      obtain ⟨H₀, B, O, env, R, q⟩ := q
      exact ⟨H₀, B, O, env, R, After.mono q (Ext.refl _) fun s H1 _ _ p a hp ho => ih σ H1 _ _ (fun vs H2 z => k _ _ z) (p a hp ho)⟩
    | false =>
      obtain ⟨H₀, B, O, env, R, q⟩ := q
      exact ⟨H₀, B, O, env, R, After.mono q (Ext.refl _) fun s H1 _ _ p v b1 b2 => ih σ H1 _ _ (fun vs H2 z => k _ _ z) (p v b1 b2)⟩
theorem par_read {Ev : Nat → Hp → Prop} {D : Ends} {σ : L2.St} {env : DEnv} : ∀ (l : List (Nat × Bool × Dx.E)) {H₀ H : Hp} {B O : Addr → Bool} {σ' : L2.St} {u : DEnv → DEnv}, EnvR M T H₀ B O σ H env → EnvR M T H₀ B O σ' H (u env) → EndS M T Ev H₀ B O H D (parG F l u env) → itemsT M T Ev F l σ H fun vs H1 => vs.length = l.length ∧ D.nx (setV l vs σ') H1
  | [], H₀, H, B, O, σ', u, R, R', h => ⟨rfl, h σ' H O R' (Ext.refl _)⟩
  | (i, true, e) :: l, H₀, H, B, O, σ', u, R, R', h => by
    have h : EndS M T Ev H₀ B O H D (evE F e env >>= fun x => ownOf x >>= fun s => parG F l (fun d => (u d).set i s) env) := h
    rw [← Res.bind_assoc] at h
    show tN M T Ev (evE F e) σ H fun x H1 => itemsT M T Ev F l σ H1 fun xs H2 => (x :: xs).length = ((i, true, e) :: l).length ∧ D.nx (setV ((i, true, e) :: l) (x :: xs) σ') H2
    refine ⟨H₀, B, O, env, R, ?_⟩
    cases q : evE F e env >>= ownOf with
    | ok s =>
      rw [q] at h
      intro H1 e1 p hp ho
      have h : EndS M T Ev H₀ B O H D (parG F l (fun d => (u d).set i s) env) := h
      have R1 := R.more e1 hp ho.some
      have R1' := R'.setOwn e1 hp ho i
      have ih := par_read l R1 R1' (h.step (hide_new2 e1 hp))
      exact items_mono l σ H1 _ _ (fun vs H2 z => ⟨by rw [List.length_cons, List.length_cons, z.1], z.2⟩) ih
    | exc n => rw [q] at h; exact fun H1 e1 => h H1 (R.ext.trans e1)
    | bad => rw [q] at h; exact h
  | (i, false, e) :: l, H₀, H, B, O, σ', u, R, R', h => by
    have h : EndS M T Ev H₀ B O H D (if kp e env = true then evE F e env >>= fun x => parG F l (fun d => (u d).set i (.sh x)) env else .bad) := h
    obtain ⟨hk, h⟩ := EndS.ite h
    show tE M T Ev (evE F e) (kp e) σ H fun x H1 => itemsT M T Ev F l σ H1 fun xs H2 => (x :: xs).length = ((i, false, e) :: l).length ∧ D.nx (setV ((i, false, e) :: l) (x :: xs) σ') H2
    refine ⟨H₀, B, O, env, R, After.mono (EndS.bind R.ext h) (Ext.refl H) fun d H1 e1 _ q v b kk => ?_⟩
    have ih := par_read l (R.mono e1) ((R'.mono e1).setSh (kk hk) i) q
    exact items_mono l σ H1 _ _ (fun vs H2 z => ⟨by rw [List.length_cons, List.length_cons, z.1], z.2⟩) ih
theorem item_pe {c : Ck} {E : XK} {X : Cx} {e : PySem.Expr} {b : Bool} {a : Dx.E} (g : Gd c M T cls CX lv F E X) (hb : b = true → isNew a = true) (h : chkE c a e = true) : PE X e (itemT M T (EvOf cls E) F b a) := by
  cases b with
  | true => exact nOk g (hb rfl) h
  | false => exact eOk a g h
end
end Dx
namespace Dx
variable [Nm]
open PySem PySem.Spec L2
theorem erase2 {x y : Str} (ne : x ≠ y) : [x, y].eraseDups = [x, y] := by
  have nb : (y == x) = false := by
    cases e : y == x with
    | false => rfl
    | true => exact absurd (eq_of_beq e).symm ne
  rw [List.eraseDups_cons]
  simp [nb, List.eraseDups_cons]
theorem erase3 {x y z : Str} (ne : x ≠ y) (nz : x ≠ z) (nw : y ≠ z) : [x, y, z].eraseDups = [x, y, z] := by
  have q : ∀ {a b : Str}, a ≠ b → (b == a) = false := fun {a b} h => by
    cases e : b == a with
    | false => rfl
    | true => exact absurd (eq_of_beq e).symm h
  rw [List.eraseDups_cons]
  simp [q ne, q nz, q nw, List.eraseDups_cons]
theorem swap2 {env : Env} {x y : Str} {px py pt pt2 : Pos} {kt k2 : Nat} {a b : PySem.Expr} (hb : env.blockKind = .function) (kx : env.kindOf x = some .local) (ky : env.kindOf y = some .local) (l1 : (py.line == px.line) = true) (ne : x ≠ y)
    (v1 : notStar a = true) (v2 : notStar b = true) (f : ([a, b].all (foldedForSure 8)) = false) (k : ([a, b].all (constantsAlone 8)) = false) :
    swappedStores [.Tuple [.Name x px, .Name y py] kt pt] (.Tuple [a, b] k2 pt2) env = pure (some [x, y]) := by
  unfold swappedStores
  simp only [hb, kx, ky, l1, f, k, List.length_cons, List.length_nil, List.filterMap_cons, List.filterMap_nil, List.head?_cons, Option.map_some, Option.getD_some, Expr.pos, beq_self_eq_true, Bool.and_self, Bool.true_and, if_true, Bool.or_false, Bool.true_or, Bool.false_or]
  rw [if_neg (by decide), if_neg, if_neg]
  · rfl
  · rw [erase2 ne]; simp
  · rw [Bool.not_eq_true]
    cases a <;> first | cases v1 | skip
    all_goals (cases b <;> first | rfl | cases v2)
theorem swap3 {env : Env} {x y z : Str} {px py pz pt pt2 : Pos} {kt k2 : Nat} {a b d : PySem.Expr} (hb : env.blockKind = .function) (kx : env.kindOf x = some .local) (ky : env.kindOf y = some .local) (kz : env.kindOf z = some .local) (l1 : (py.line == px.line) = true) (l2 : (pz.line == px.line) = true) (ne : x ≠ y) (nz : x ≠ z) (nw : y ≠ z)
    (v1 : notStar a = true) (v2 : notStar b = true) (v3 : notStar d = true) (f : ([a, b, d].all (foldedForSure 8)) = false) (k : ([a, b, d].all (constantsAlone 8)) = false) :
    swappedStores [.Tuple [.Name x px, .Name y py, .Name z pz] kt pt] (.Tuple [a, b, d] k2 pt2) env = pure (some [x, y, z]) := by
  unfold swappedStores
  simp only [hb, kx, ky, kz, l1, l2, f, k, List.length_cons, List.length_nil, List.filterMap_cons, List.filterMap_nil, List.head?_cons, Option.map_some, Option.getD_some, Expr.pos, beq_self_eq_true, Bool.and_self, Bool.true_and, if_true, Bool.or_false, Bool.true_or, Bool.false_or]
  rw [if_neg (by decide), if_neg, if_neg]
  · rfl
  · rw [erase3 ne nz nw]; simp
  · rw [Bool.not_eq_true]
    have ha : ∀ (r : List PySem.Expr), ((a :: r).any fun | .Starred .. => true | _ => false) = (r.any fun | .Starred .. => true | _ => false) := fun r => by cases a <;> first | rfl | cases v1
    have hbb : ∀ (r : List PySem.Expr), ((b :: r).any fun | .Starred .. => true | _ => false) = (r.any fun | .Starred .. => true | _ => false) := fun r => by cases b <;> first | rfl | cases v2
    have hd : ∀ (r : List PySem.Expr), ((d :: r).any fun | .Starred .. => true | _ => false) = (r.any fun | .Starred .. => true | _ => false) := fun r => by cases d <;> first | rfl | cases v3
    exact (ha _).trans ((hbb _).trans (hd _))
end Dx
set_option maxHeartbeats 4000000
namespace Dx
variable [Nm]
open PySem PySem.Spec L2
def isComp : PySem.Expr → Bool
  | .ListComp _ _ _ _ => true
  | .SetComp _ _ _ _ => true
  | .DictComp _ _ _ _ _ => true
  | _ => false
def isTupE : PySem.Expr → Bool
  | .Tuple _ _ _ => true
  | _ => false
def isListE : PySem.Expr → Bool
  | .List _ _ => true
  | _ => false
/-- a plain assignment's own conditions -/
def plainA (c : Ck) (tg x : PySem.Expr) : Bool := notStar tg && !isListE tg && (!isTupE tg || !isTupE x) && (!isComp x || (match x, tg with
  | .ListComp _ _ _ _, .Name y _ => (match c.names.lookup y with | some .cell => true | _ => false)
  | .ListComp _ _ _ _, .Tuple _ _ _ => true
  | _, _ => false))
/-- one that a comprehension stores itself -/
def swapA (c : Ck) (i : Nat) (tg x : PySem.Expr) : Bool := match tg, x with
  | .Name y py, .ListComp _ _ scope pos => (match c.N[i]? with | some z => eqS z y | none => false) && (match c.names.lookup y with | some .local => true | _ => false) && (py.line == pos.line) && !(scope.names.any fun (n, k) => n == y && (k == .local || k == .cell))
  | _, _ => false
def isLc : Dx.E → Bool
  | .lc _ _ it _ _ => (match it with | .keys _ => false | .items _ => false | _ => true)
  | _ => false
def parC (c : Ck) : List (Nat × Bool × Dx.E) → List PySem.Expr → List PySem.Expr → Bool
  | [], [], [] => true
  | (i, b, a) :: l, e :: ts, x :: xs => (match e with
    | .Name y _ => (match c.N[i]? with | some z => eqS z y | none => false) && (match c.names.lookup y with | some .local => true | _ => false)
    | _ => false) && (!b || isNew a) && notStar x && chkE c a x && parC c l ts xs
  | _, _, _ => false
def lineC : List PySem.Expr → Bool
  | e :: r => r.all fun x => x.pos.line == e.pos.line
  | [] => true
def pair (l : List Nat) : Bool := match l with
  | [i, j] => i != j
  | [i, j, k] => i != j && i != k && j != k
  | _ => false
mutual
def chkS (c : Ck) (excs : List Str) : Dx.S → PySem.Stmt → Bool
  | .asg t a, s => match s with
    | .Assign [tg] x _ => chkTg c t tg && chkE c a x && (plainA c tg x || (isLc a && (match t with | .name i => swapA c i tg x | _ => false)))
    | _ => false
  | .fresh i a, s => match s with
    | .Assign [tg] x _ => isNew a && chkTg c (.name i) tg && chkE c a x && (plainA c tg x || (isLc a && swapA c i tg x))
    | _ => false
  | .par l, s => match s with
    | .Assign [.Tuple ts _ _] (.Tuple xs _ _) _ => parC c l ts xs && lineC ts && pair (l.map (·.1)) && !(xs.all (foldedForSure 8)) && !(xs.all (constantsAlone 8))
    | _ => false
  | .aug i a, s => match s with
    | .AugAssign tg .Add x _ => chkTg c (.name i) tg && chkE c a x
    | _ => false
  | .app i a, s => match s with
    | .Expr (.Call (.Attribute (.Name y _) m ap) [x] [] cp) _ => eqS m "append" && (ap.endLine == cp.line) && c.vis i y && notStar x && chkE c a x
    | _ => false
  | .pop i, s => match s with
    | .Expr (.Call (.Attribute (.Name y _) m ap) [] [] cp) _ => eqS m "pop" && (ap.endLine == cp.line) && c.vis i y
    | _ => false
  | .popTo j i, s => match s with
    | .Assign [tg] (.Call (.Attribute (.Name y _) m ap) [] [] cp) _ => eqS m "pop" && (ap.endLine == cp.line) && c.vis i y && chkTg c (.name j) tg
    | _ => false
  | .setI i k a, s => match s with
    | .Assign [.Subscript (.Name y _) z _] x _ => c.vis i y && notSlice z && chkE c k z && chkE c a x && !isComp x
    | _ => false
  | .augI i k a, s => match s with
    | .AugAssign (.Subscript (.Name y _) z _) .Add x _ => c.vis i y && notSlice z && chkE c k z && chkE c a x
    | _ => false
  | .put i k a, s => match s with
    | .Assign [.Subscript (.Name y _) z _] x _ => c.vis i y && notSlice z && chkE c k z && chkE c a x && !isComp x
    | _ => false
  | .ret none, s => match s with
    | .Return none _ => true
    | _ => false
  | .ret (some a), s => match s with
    | .Return (some x) _ => chkE c a x
    | _ => false
  | .raise n, s => match s with
    | .Raise (some (.Call (.Name x _) [.Constant (.str _) _ _] [] _)) none _ => (match excs[n]? with | some y => eqS y x | none => false) && c.glob x
    | _ => false
  | .ifS t a b, s => match s with
    | .If k x y _ => chkT c t k && chkB c excs a x && chkB c excs b y
    | _ => false
  | .forS t it b, s => match s with
    | .For tg iter body [] _ => chkTg c t tg && notSet iter && chkIt c it tg iter && chkB c excs b body
    | _ => false
  | .whileS _ t b, s => match s with
    | .While k body [] _ => chkT c t k && chkB c excs b body
    | _ => false
  | .brk, s => match s with
    | .Break _ => true
    | _ => false
  | .cont, s => match s with
    | .Continue _ => true
    | _ => false
  | .pass, s => match s with
    | .Pass _ => true
    | _ => false
  | .expr a, s => match s with
    | .Expr x _ => !isComp x && chkE c a x
    | _ => false
  | .frz _, _ => false
def chkB (c : Ck) (excs : List Str) : List Dx.S → List PySem.Stmt → Bool
  | [], l => l.isEmpty
  | .frz _ :: r, l => chkB c excs r l
  | s :: r, l => match l with
    | st :: rest => chkS c excs s st && chkB c excs r rest
    | [] => false
end
end Dx
set_option maxHeartbeats 4000000
namespace Dx
variable [Nm]
open PySem PySem.Spec L2
structure Gs (c : Ck) (excs : List Str) (M : MatC) (T : List Addr) (cls : Nat → Addr) (CX : CXT) (lv : Nat) (F : Fns) (E : XK) (X : Cx) : Prop where
  g : Gd c M T cls CX lv F E X
  po : PassesOwn (model X.prog X.w) X.A X.env X.xe
  rs : ∀ (n : Nat) (x m : Str) (j : Nat) (p p2 pos pos2 : Pos), excs[n]? = some x → Gl X x → PS X (.Raise (some (.Call (.Name x p) [.Constant (.str m) j p2] [] pos)) none pos2) (fun _ _ H => EvOf cls E n H)
section
variable {M : MatC} {T : List Addr} {cls : Nat → Addr} {CX : CXT} {lv : Nat} {F : Fns} {c : Ck} {excs : List Str} {E : XK} {X : Cx}
theorem Gd.bk (g : Gd c M T cls CX lv F E X) : X.env.blockKind = .function := by unfold Env.blockKind; rw [g.kind]; rfl
theorem look_of (g : Gd c M T cls CX lv F E X) {y : Str} (h : (match c.names.lookup y with | some .local => true | _ => false) = true) : X.env.scope.names.lookup y = some .local := by
  rw [g.names]
  split at h
  · assumption
  · cases h
theorem ix_of (g : Gd c M T cls CX lv F E X) {i : Nat} {y : Str} (h : (match c.N[i]? with | some z => eqS z y | none => false) = true) : X.N[i]? = some y := by
  rw [g.N]
  split at h
  · rename_i z hz; rw [hz, eqS_eq h]
  · cases h
/-- the conditions of a plain assignment -/
theorem plain_of (g : Gd c M T cls CX lv F E X) {tg x : PySem.Expr} (l : Nat) (h : plainA c tg x = true) : swapsWithSole [tg] x l X.env = pure false ∧ swappedStores [tg] x X.env = pure none ∧ (assignEach [tg] X.env).map (·.2) = [assign tg X.env] := by
  unfold plainA at h
  obtain ⟨hA, h4⟩ := and_t h
  obtain ⟨hB, h3⟩ := and_t hA
  obtain ⟨h1, h2⟩ := and_t hB
  clear h hA hB
  refine ⟨?_, ?_, ?_⟩
  · show swapsWith x (some tg) l X.env = pure false
    rw [Bool.or_eq_true] at h4
    rcases h4 with h4 | h4
    · cases x <;> first | rfl | cases h4
    · split at h4
      · rename_i elt gs scope cpos y py
        have hy : X.env.kindOf y = some .cell := by
          unfold Env.kindOf
          rw [g.names]
          split at h4
          · assumption
          · cases h4
        unfold swapsWith
        simp only [g.bk, hy]
        rfl
      · rfl
      · cases h4
  · rw [Bool.or_eq_true] at h3
    cases tg <;> first | rfl | cases h2 | skip
    rcases h3 with h3 | h3
    · cases h3
    · cases x <;> first | rfl | cases h3
  · cases tg <;> first | rfl | cases h1
theorem comp_swaps {x : PySem.Expr} {tg : Option PySem.Expr} {l : Nat} {env : Env} (h : (!isComp x) = true) : swapsWith x tg l env = pure false := by
  cases x <;> first | rfl | cases h
theorem name_of (g : Gd c M T cls CX lv F E X) {i : Nat} {e : PySem.Expr} (h : chkTg c (.name i) e = true) : ∃ x pos, e = .Name x pos ∧ X.N[i]? = some x ∧ L2.Loc X.env.scope x ∧ (X.fn x = true ∨ X.env.scope.names.lookup x = some .local) := by
  unfold chkTg at h
  split at h
  · rename_i x pos
    obtain ⟨h1, h2⟩ := and_t h
    refine ⟨x, pos, rfl, ?_, ?_, ?_⟩
    · rw [g.N]
      cases q : c.N[i]? with
      | none => rw [q] at h1; cases h1
      | some y => rw [q] at h1; rw [eqS_eq h1]
    · unfold L2.Loc
      rw [g.names]
      cases q : c.names.lookup x with
      | none => rw [q] at h2; cases h2
      | some k => rw [q] at h2; cases k <;> first | exact .inl rfl | exact .inr rfl | cases h2
    · rw [g.names]
      cases q : c.names.lookup x with
      | none => rw [q] at h2; cases h2
      | some k =>
        rw [q] at h2
        cases k <;> first | exact .inr rfl | exact .inl (g.fn h2 x) | cases h2
  · cases h
theorem nameG (g : Gd c M T cls CX lv F E X) {i : Nat} {e : PySem.Expr} (h : chkTg c (.name i) e = true) : PG X e (gName i) := by
  obtain ⟨x, pos, rfl, h1, h2, h3⟩ := name_of g h
  exact pg_name g.nd h1 h2 h3
/-- a comprehension that is stored by itself -/
theorem lcS (g : Gd c M T cls CX lv F E X) {a : Dx.E} {i : Nat} {tg x : PySem.Expr} {pos : Pos} (hl : isLc a = true) (hs : swapA c i tg x = true) (h : chkE c a x = true) :
    PS X (.Assign [tg] x pos) (tS M T (EvOf cls E) (newG (evE F a) i)) ∧ PS X (.Assign [tg] x pos) (tS M T (EvOf cls E) (asgG (evE F a) (kp a) (.name i))) := by
  cases a <;> first | cases hl | skip
  rename_i elt t it cs own
  unfold swapA at hs
  split at hs
  · rename_i y py elt' gs scope cpos
    unfold chkE at h
    split at h
    · rename_i x' tg' iter ifs k scope' pos' heq
      cases heq
      obtain ⟨h, h7⟩ := and_t h
      obtain ⟨h, h6⟩ := and_t h
      obtain ⟨h, h5⟩ := and_t h
      obtain ⟨h, h4⟩ := and_t h
      obtain ⟨h, h3⟩ := and_t h
      obtain ⟨h1, h2⟩ := and_t h
      have ek : k = 0 := eq_of_beq h1
      subst ek
      obtain ⟨hs, s4⟩ := and_t hs
      obtain ⟨hs, s3⟩ := and_t hs
      obtain ⟨s1, s2⟩ := and_t hs
      obtain ⟨b1, b2⟩ := and_t h2
      have ok := g.blkOk b1
      have hk : scope.kind = .function := ok.kind
      have hv : ∀ n ∈ tgN t, n ∈ (c.own own).map (·.2) := fun n hn => by
        rw [own_map]
        exact List.contains_iff_mem.mp (List.all_eq_true.mp b2 n hn)
      have eo := own_map c own
      have hi : PI X tg' iter (tI M T (EvOf cls E) (evIt F it) (kpIt it)) := by
        have := itOk (F := F) it g h4
        cases it <;> first | exact this | cases hl
      have hy := look_of g s2
      have sw := sw_true (elt := elt') (gs := [⟨tg', iter, ifs, 0⟩]) (scope := scope) (pos := cpos) (py := py) (y := y) (l := pos.line) (env := X.env) g.kind hy s3 (not_t s4)
      refine ⟨?_, ?_⟩
      · have := ds_newLc (i := i) (pos := cpos) (spos := pos) (py := py) (Ev := EvOf cls E) (own := c.own own) hv g.calm g.nd (ix_of g s1) hy sw hi ok (fun s H C cl fp => tg_ok t (g.inBlk hk s H C cl fp) h5) (fun s H C cl fp => csOk cs (g.inBlk hk s H C cl fp) h6) (fun s H C cl fp => eOk elt (g.inBlk hk s H C cl fp) h7) (set_of h3)
        rw [eo] at this
        exact this
      · have := ds_asgLc (i := i) (k2 := kp (.lc elt t it cs own)) (pos := cpos) (spos := pos) (py := py) (Ev := EvOf cls E) (own := c.own own) hv g.calm g.nd (ix_of g s1) hy sw hi ok (fun s H C cl fp => tg_ok t (g.inBlk hk s H C cl fp) h5) (fun s H C cl fp => csOk cs (g.inBlk hk s H C cl fp) h6) (fun s H C cl fp => eOk elt (g.inBlk hk s H C cl fp) h7) (set_of h3)
        rw [eo] at this
        exact this
    · rename_i hne; cases h
  · cases hs
theorem parC_len : ∀ {l : List (Nat × Bool × Dx.E)} {ts xs : List PySem.Expr}, parC c l ts xs = true → ts.length = l.length ∧ xs.length = l.length
  | [], [], [], _ => ⟨rfl, rfl⟩
  | (i, b, a) :: l, e :: ts, x :: xs, h => by
    have h : (_ && parC c l ts xs) = true := h
    obtain ⟨q1, q2⟩ := parC_len (and_t h).2
    exact ⟨by rw [List.length_cons, List.length_cons, q1], by rw [List.length_cons, List.length_cons, q2]⟩
  | [], _ :: _, _, h => by cases h
  | [], [], _ :: _, h => by cases h
  | (i, b, a) :: l, [], _, h => by cases h
  | (i, b, a) :: l, _ :: _, [], h => by cases h
theorem par_ok (g : Gd c M T cls CX lv F E X) {l : List (Nat × Bool × Dx.E)} {ts xs : List PySem.Expr} {kt k2 : Nat} {pt pt2 pos : Pos} (h : (parC c l ts xs && lineC ts && pair (l.map (·.1)) && !(xs.all (foldedForSure 8)) && !(xs.all (constantsAlone 8))) = true) :
    PS X (.Assign [.Tuple ts kt pt] (.Tuple xs k2 pt2) pos) (tS M T (EvOf cls E) (parG F l fun d => d)) := by
  obtain ⟨hA, h5⟩ := and_t h
  obtain ⟨hB, h4⟩ := and_t hA
  obtain ⟨hC, h3⟩ := and_t hB
  obtain ⟨h1, h2⟩ := and_t hC
  clear h hA hB hC
  have one : ∀ {i : Nat} {b : Bool} {a : Dx.E} {e x : PySem.Expr}, ((match e with
      | .Name y _ => (match c.N[i]? with | some z => eqS z y | none => false) && (match c.names.lookup y with | some .local => true | _ => false)
      | _ => false) && (!b || isNew a) && notStar x && chkE c a x) = true → ∃ y p, e = .Name y p ∧ X.N[i]? = some y ∧ X.env.scope.names.lookup y = some .local ∧ notStar x = true ∧ PE X x (itemT M T (EvOf cls E) F b a) := by
    intro i b a e x h
    obtain ⟨hA, q4⟩ := and_t h
    obtain ⟨hB, q3⟩ := and_t hA
    obtain ⟨q1, q2⟩ := and_t hB
    split at q1
    · rename_i y p
      obtain ⟨r1, r2⟩ := and_t q1
      refine ⟨y, p, rfl, ix_of g r1, look_of g r2, q3, item_pe g (fun hb => ?_) q4⟩
      subst hb
      exact q2
    · cases q1
  obtain ⟨m1, m2⟩ := parC_len h1
  rcases l with _ | ⟨⟨i1, b1, a1⟩, _ | ⟨⟨i2, b2, a2⟩, _ | ⟨⟨i3, b3, a3⟩, _ | ⟨q, r⟩⟩⟩⟩
  · cases h3
  · cases h3
  · obtain ⟨e1, e2, rfl⟩ : ∃ e1 e2, ts = [e1, e2] := by
      rcases ts with _ | ⟨a, _ | ⟨b, _ | ⟨d, r⟩⟩⟩ <;> first | exact ⟨_, _, rfl⟩ | simp at m1
    obtain ⟨x1, x2, rfl⟩ : ∃ e1 e2, xs = [e1, e2] := by
      rcases xs with _ | ⟨a, _ | ⟨b, _ | ⟨d, r⟩⟩⟩ <;> first | exact ⟨_, _, rfl⟩ | simp at m2
    obtain ⟨o1, h1⟩ := and_t (show (_ && parC c [(i2, b2, a2)] [e2] [x2]) = true from h1)
    obtain ⟨o2, _⟩ := and_t (show (_ && parC c [] [] []) = true from h1)
    obtain ⟨y1, p1, rfl, n1, l1, s1, t1⟩ := one o1
    obtain ⟨y2, p2, rfl, n2, l2, s2, t2⟩ := one o2
    have hij : i1 ≠ i2 := by have h3 : (i1 != i2) = true := h3; simpa using h3
    have ln : (p2.line == p1.line) = true := by
      have h2 : ((p2.line == p1.line) && true) = true := h2
      exact (and_t h2).1
    have ne : y1 ≠ y2 := fun z => hij (nodup_ix g.nd n1 (z ▸ n2))
    refine ps_weak (ps_par g.calm g.nd n1 n2 hij l1 l2 (pa_cons t1 (pa_cons t2 pa_nil (star_cons s2)) (star_cons s1)) (swap2 g.bk l1 l2 ln ne s1 s2 (not_t h4) (not_t h5)) rfl) fun D σ H ⟨H₀, B, O, env, R, q⟩ => ?_
    have := par_read (σ' := σ) (u := fun d => d) _ R R q
    refine items_mono [(i1, b1, a1), (i2, b2, a2)] σ H _ _ (fun vs H1 z => ?_) this
    obtain ⟨z1, z2⟩ := z
    match vs, z1, z2 with
    | [v, w], _, z2 => exact ⟨v, w, rfl, z2⟩
  · obtain ⟨e1, e2, e3, rfl⟩ : ∃ e1 e2 e3, ts = [e1, e2, e3] := by
      rcases ts with _ | ⟨a, _ | ⟨b, _ | ⟨d, _ | ⟨f, r⟩⟩⟩⟩ <;> first | exact ⟨_, _, _, rfl⟩ | simp at m1
    obtain ⟨x1, x2, x3, rfl⟩ : ∃ e1 e2 e3, xs = [e1, e2, e3] := by
      rcases xs with _ | ⟨a, _ | ⟨b, _ | ⟨d, _ | ⟨f, r⟩⟩⟩⟩ <;> first | exact ⟨_, _, _, rfl⟩ | simp at m2
    obtain ⟨o1, h1⟩ := and_t (show (_ && parC c [(i2, b2, a2), (i3, b3, a3)] [e2, e3] [x2, x3]) = true from h1)
    obtain ⟨o2, h1⟩ := and_t (show (_ && parC c [(i3, b3, a3)] [e3] [x3]) = true from h1)
    obtain ⟨o3, _⟩ := and_t (show (_ && parC c [] [] []) = true from h1)
    obtain ⟨y1, p1, rfl, n1, l1, s1, t1⟩ := one o1
    obtain ⟨y2, p2, rfl, n2, l2, s2, t2⟩ := one o2
    obtain ⟨y3, p3, rfl, n3, l3, s3, t3⟩ := one o3
    have h3 : ((i1 != i2) && (i1 != i3) && (i2 != i3)) = true := h3
    obtain ⟨hD, j3⟩ := and_t h3
    obtain ⟨j1, j2⟩ := and_t hD
    have j1 : i1 ≠ i2 := by simpa using j1
    have j2 : i1 ≠ i3 := by simpa using j2
    have j3 : i2 ≠ i3 := by simpa using j3
    have h2 : ((p2.line == p1.line) && ((p3.line == p1.line) && true)) = true := h2
    obtain ⟨k1, k2⟩ := and_t h2
    obtain ⟨k2, _⟩ := and_t k2
    have e12 : y1 ≠ y2 := fun z => j1 (nodup_ix g.nd n1 (z ▸ n2))
    have e13 : y1 ≠ y3 := fun z => j2 (nodup_ix g.nd n1 (z ▸ n3))
    have e23 : y2 ≠ y3 := fun z => j3 (nodup_ix g.nd n2 (z ▸ n3))
    refine ps_weak (ps_par3 g.calm g.nd n1 n2 n3 j1 j2 j3 l1 l2 l3 (pa_cons t1 (pa_cons t2 (pa_cons t3 pa_nil (star_cons s3)) (star_cons s2)) (star_cons s1)) (swap3 g.bk l1 l2 l3 k1 k2 e12 e13 e23 s1 s2 s3 (not_t h4) (not_t h5)) rfl) fun D σ H ⟨H₀, B, O, env, R, q⟩ => ?_
    have := par_read (σ' := σ) (u := fun d => d) _ R R q
    refine items_mono [(i1, b1, a1), (i2, b2, a2), (i3, b3, a3)] σ H _ _ (fun vs H1 z => ?_) this
    obtain ⟨z1, z2⟩ := z
    match vs, z1, z2 with
    | [v, w, u], _, z2 => exact ⟨v, w, u, rfl, z2⟩
  · cases h3
end
end Dx
set_option maxHeartbeats 4000000
namespace Dx
variable [Nm]
open PySem PySem.Spec L2
section
variable {M : MatC} {T : List Addr} {cls : Nat → Addr} {CX : CXT} {lv : Nat} {F : Fns}
theorem thenS_frz (i : Nat) (g : DEnv → Res Out) : (fun env => exS F (.frz i) env >>= thenS g) = fun env => g (frzD i env) := rfl
mutual
theorem sOk : ∀ (s : Dx.S) {c : Ck} {excs : List Str} {E : XK} {X : Cx} {st : PySem.Stmt}, Gs c excs M T cls CX lv F E X → chkS c excs s st = true → PS X st (tS M T (EvOf cls E) (exS F s))
  | .asg t a, c, excs, E, X, st, g, h => by
    unfold chkS at h
    split at h
    · obtain ⟨h, h3⟩ := and_t h
      obtain ⟨h1, h2⟩ := and_t h
      rw [Bool.or_eq_true] at h3
      rcases h3 with h3 | h3
      · obtain ⟨q1, q2, q3⟩ := plain_of g.g _ h3
        exact ds_asg (eOk a g.g h2) (tg_ok t g.g h1) q1 q2 q3
      · obtain ⟨h5, h6⟩ := and_t h3
        cases t with
        | name i => exact (lcS g.g h5 h6 h2).2
        | tup l => cases h6
    · cases h
  | .fresh i a, c, excs, E, X, st, g, h => by
    unfold chkS at h
    split at h
    · obtain ⟨h, h4⟩ := and_t h
      obtain ⟨h, h3⟩ := and_t h
      obtain ⟨h1, h2⟩ := and_t h
      rw [Bool.or_eq_true] at h4
      rcases h4 with h4 | h4
      · obtain ⟨q1, q2, q3⟩ := plain_of g.g _ h4
        exact ds_new (nOk g.g h1 h3) (nameG g.g h2) q1 q2 q3
      · obtain ⟨h4, h5⟩ := and_t h4
        exact (lcS g.g h4 h5 h3).1
    · cases h
  | .par l, c, excs, E, X, st, g, h => by
    unfold chkS at h
    split at h
    · exact par_ok g.g h
    · cases h
  | .aug i a, c, excs, E, X, st, g, h => by
    unfold chkS at h
    split at h
    · obtain ⟨h1, h2⟩ := and_t h
      obtain ⟨x, pos, rfl, n1, n2, n3⟩ := name_of g.g h1
      exact ds_aug (ps_aug g.g.nd n1 n2 (eOk a g.g h2) ip_add n3)
    · cases h
  | .app i a, c, excs, E, X, st, g, h => by
    unfold chkS at h
    split at h
    · rename_i y p m ap x cp pos
      obtain ⟨h, h5⟩ := and_t h
      obtain ⟨h, h4⟩ := and_t h
      obtain ⟨h, h3⟩ := and_t h
      obtain ⟨h1, h2⟩ := and_t h
      have em := eqS_eq h1
      subst em
      exact ds_app (g.g.vis h3) (eOk a g.g h5) (star_cons h4) (base_of rfl) (by rw [star_cons h4]; rfl) h2
    · cases h
  | .pop i, c, excs, E, X, st, g, h => by
    unfold chkS at h
    split at h
    · obtain ⟨h, h3⟩ := and_t h
      obtain ⟨h1, h2⟩ := and_t h
      have em := eqS_eq h1
      subst em
      exact ds_pop (g.g.vis h3) (base_of rfl) h2
    · cases h
  | .popTo j i, c, excs, E, X, st, g, h => by
    unfold chkS at h
    split at h
    · obtain ⟨h, h4⟩ := and_t h
      obtain ⟨h, h3⟩ := and_t h
      obtain ⟨h1, h2⟩ := and_t h
      have em := eqS_eq h1
      subst em
      obtain ⟨x, pos, rfl, n1, n2, n3⟩ := name_of g.g h4
      exact ds_popTo (g.g.vis h3) (pg_name g.g.nd n1 n2 n3) (base_of rfl) h2 rfl rfl rfl
    · cases h
  | .setI i k a, c, excs, E, X, st, g, h => by
    unfold chkS at h
    split at h
    · rename_i y p z tp x pos
      obtain ⟨h, h5⟩ := and_t h
      obtain ⟨h, h4⟩ := and_t h
      obtain ⟨h, h3⟩ := and_t h
      obtain ⟨h1, h2⟩ := and_t h
      exact ds_setI (g.g.vis h1) (eOk k g.g h3) (eOk a g.g h4) (fun v => by cases z <;> first | rfl | cases h2) (show swapsWith x (some (.Subscript (.Name y p) z tp)) pos.line X.env = pure false from comp_swaps h5)
    · cases h
  | .augI i k a, c, excs, E, X, st, g, h => by
    unfold chkS at h
    split at h
    · rename_i y p z tp x pos
      obtain ⟨h, h4⟩ := and_t h
      obtain ⟨h, h3⟩ := and_t h
      obtain ⟨h1, h2⟩ := and_t h
      exact ds_augI g.g.K (g.g.vis h1) (eOk k g.g h3) (eOk a g.g h4) (fun ov iv new => by cases z <;> first | rfl | cases h2)
    · cases h
  | .put i k a, c, excs, E, X, st, g, h => by
    unfold chkS at h
    split at h
    · rename_i y p z tp x pos
      obtain ⟨h, h5⟩ := and_t h
      obtain ⟨h, h4⟩ := and_t h
      obtain ⟨h, h3⟩ := and_t h
      obtain ⟨h1, h2⟩ := and_t h
      exact ds_put (by have := g.g.u; omega) (g.g.vis h1) (eOk k g.g h3) (eOk a g.g h4) (comp_swaps h5)
    · cases h
  | .ret none, c, excs, E, X, st, g, h => by
    unfold chkS at h
    split at h
    · exact ds_retN
    · cases h
  | .ret (some a), c, excs, E, X, st, g, h => by
    unfold chkS at h
    split at h
    · exact ds_ret (eOk a g.g h)
    · cases h
  | .raise n, c, excs, E, X, st, g, h => by
    unfold chkS at h
    split at h
    · rename_i x p m j p2 pos pos2
      obtain ⟨h1, h2⟩ := and_t h
      have he : excs[n]? = some x := by
        cases q : excs[n]? with
        | none => rw [q] at h1; cases h1
        | some y => rw [q] at h1; rw [eqS_eq h1]
      exact ds_raise (g.rs n x m j p p2 pos pos2 he (g.g.gl h2))
    · cases h
  | .ifS t a b, c, excs, E, X, st, g, h => by
    unfold chkS at h
    split at h
    · obtain ⟨h, h3⟩ := and_t h
      obtain ⟨h1, h2⟩ := and_t h
      exact ds_if (tOk t g.g h1) (bOk a g h2) (bOk b g h3)
    · cases h
  | .forS t it b, c, excs, E, X, st, g, h => by
    unfold chkS at h
    split at h
    · obtain ⟨h, h4⟩ := and_t h
      obtain ⟨h, h3⟩ := and_t h
      obtain ⟨h1, h2⟩ := and_t h
      have hi := itOk (F := F) it g.g h3
      have hg := tg_ok t g.g h1
      have hb := bOk b g h4
      show PS X _ (tS M T (EvOf cls E) (forX F it t (exB F b)))
      cases it with
      | keys i => exact ds_forD g.po g.g.calm hi hg hb (set_of h2)
      | items i => exact ds_forD g.po g.g.calm hi hg hb (set_of h2)
      | seq a => exact ds_for g.po g.g.calm hi hg hb (set_of h2)
      | rng l => exact ds_for g.po g.g.calm hi hg hb (set_of h2)
      | rev a => exact ds_for g.po g.g.calm hi hg hb (set_of h2)
      | revR l => exact ds_for g.po g.g.calm hi hg hb (set_of h2)
      | enum a => exact ds_for g.po g.g.calm hi hg hb (set_of h2)
      | zip a b => exact ds_for g.po g.g.calm hi hg hb (set_of h2)
    · cases h
  | .whileS n t b, c, excs, E, X, st, g, h => by
    unfold chkS at h
    split at h
    · obtain ⟨h1, h2⟩ := and_t h
      exact ds_while n g.po (tOk t g.g h1) (bOk b g h2)
    · cases h
  | .brk, c, excs, E, X, st, g, h => by
    unfold chkS at h
    split at h
    · exact ds_brk
    · cases h
  | .cont, c, excs, E, X, st, g, h => by
    unfold chkS at h
    split at h
    · exact ds_cont
    · cases h
  | .pass, c, excs, E, X, st, g, h => by
    unfold chkS at h
    split at h
    · exact ds_pass
    · cases h
  | .expr a, c, excs, E, X, st, g, h => by
    unfold chkS at h
    split at h
    · obtain ⟨h1, h2⟩ := and_t h
      exact ds_expr (eOk a g.g h2) (comp_swaps h1)
    · cases h
  | .frz i, c, excs, E, X, st, g, h => by
    unfold chkS at h
    cases h
termination_by structural s => s
theorem bOk : ∀ (l : List Dx.S) {c : Ck} {excs : List Str} {E : XK} {X : Cx} {sts : List PySem.Stmt}, Gs c excs M T cls CX lv F E X → chkB c excs l sts = true → PSs X sts (tS M T (EvOf cls E) (exB F l))
  | [], c, excs, E, X, sts, g, h => by
    unfold chkB at h
    cases sts with
    | nil => exact dss_nil
    | cons a r => cases h
  | s :: r, c, excs, E, X, sts, g, h => by
    by_cases hf : ∃ i, s = .frz i
    · obtain ⟨i, rfl⟩ := hf
      have h : chkB c excs r sts = true := by unfold chkB at h; exact h
      exact dss_frz i (bOk r g h)
    · have h : (match sts with | st :: rest => chkS c excs s st && chkB c excs r rest | [] => false) = true := by
        cases s with
        | frz i => exact absurd ⟨i, rfl⟩ hf
        | _ => cases sts <;> exact h
      split at h
      · obtain ⟨h1, h2⟩ := and_t h
        exact dss_cons (sOk s g h1) (bOk r g h2)
      · cases h
termination_by structural l => l
end
end
end Dx
namespace Dx
variable [Nm]
open PySem PySem.Spec L2
section
variable {M : MatC} {T : List Addr} {cls : Nat → Addr} {lv : Nat} {F : Fns}
theorem start_env {H : Hp} {O : Addr → Bool} {N : List Str} {n : Nat} {ds : List D} {vs : List V} (hn : n = N.length) (hr : RpL M (hide H O) ds vs) (hle : vs.length ≤ N.length) (ht : Trk O H) (tabs : ∀ P ∈ T, ∃ ps, H P = some (.tbl ps) ∧ TbOk H ps) :
    EnvR M T H O O (L2.start N vs) H (Dx.start n ds) := by
  have hl := hr.length
  have noown : ∀ (i : Nat) s, (Dx.start n ds)[i]? = some s → isOwn s = false := fun i s h => by
    unfold Dx.start at h
    rw [List.getElem?_append] at h
    split at h
    · rw [List.getElem?_map] at h
      cases e : ds[i]? with
      | none => rw [e] at h; cases h
      | some d => rw [e] at h; cases h; rfl
    · rw [List.getElem?_replicate] at h
      split at h <;> cases h
      rfl
  exact {
    ext := Ext.refl H
    sub := fun a h => h
    len := by
      unfold L2.start Dx.start
      rw [List.length_append, List.length_append, List.length_map, List.length_map, List.length_replicate, List.length_replicate]
      omega
    sh := fun i d h => by
      unfold Dx.start at h
      rw [List.getElem?_append] at h
      split at h
      · rename_i hlt
        rw [List.length_map] at hlt
        rw [List.getElem?_map] at h
        cases e : ds[i]? with
        | none => rw [e] at h; cases h
        | some x =>
          rw [e] at h; cases h
          obtain ⟨v, h1, h2⟩ := hr.get e
          refine ⟨v, ?_, h2⟩
          unfold L2.start
          rw [List.getElem?_append_left (by rw [List.length_map]; omega), List.getElem?_map, h1]
          rfl
      · rw [List.getElem?_replicate] at h
        split at h <;> cases h
    own := fun i s h ho => by rw [noown i s h] at ho; cases ho
    dis := fun i j s t a hi hj hs ht ha hb => by rw [noown i s hi] at hs; cases hs
    tabs := tabs
    trk := ht }
/-- the body's reading at the entry -/
theorem body_read {H : Hp} {vs : List V} {Q : VK} {E : XK} {N : List Str} {fd : Fd} (hn : fd.n = N.length) (hps : fd.ps ≤ N.length) (h : spD M T cls fd.ps (runF F fd) vs H Q E) :
    tS M T (EvOf cls E) (exB F fd.body) { nx := fun _ H' => Q .non H', rt := Q } (L2.start N vs) H := by
  obtain ⟨hl, ds, O, hr, ht, tabs, h⟩ := h
  refine ⟨H, O, O, Dx.start fd.n ds, start_env hn hr (by omega) ht tabs, ?_⟩
  unfold runF at h
  by_cases hc : ds.length = fd.ps
  · rw [if_pos hc] at h
    have h : After (EvOf cls E) (exB F fd.body (Dx.start fd.n ds) >>= fun o => match o with | .nx _ => (.ok .non : Res D) | .ret d => .ok d | _ => .bad) H _ := h
    cases e : exB F fd.body (Dx.start fd.n ds) with
    | ok o =>
      rw [e] at h
      cases o with
      | nx env => exact fun σ' H' O' R' _ => h H' R'.ext _ rp_non
      | ret d => exact fun v H' O' x _ sb rv => h H' x v (Rp.mono (Ext.unhide sb) d rv)
      | bk env => exact h.elim
      | ct env => exact h.elim
    | exc n => rw [e] at h; exact fun H' x => h H' x
    | bad => rw [e] at h; exact h.elim
  · rw [if_neg hc] at h; exact h.elim
theorem runF_len {fd : Fd} {ds : List D} (h : runF F fd ds ≠ .bad) : ds.length = fd.ps := by
  unfold runF at h
  by_cases hc : ds.length = fd.ps
  · exact hc
  · rw [if_neg hc] at h; exact absurd rfl h
/-- what is known of the module -/
structure Mo (P : Program) (w : World) (K : PySem.W.Frag) (mg : Str → Option Value) (base : Heap) (M : MatC) (T : List Addr) (cls : Nat → Addr) (excs : List Str) : Prop where
  eK : K = M.K
  ew : w = M.w
  blt : ∀ x ∈ bltNames, mg x = none
  rs : ∀ (X : Cx) (E : XK), X.K = K → X.mg = mg → X.calm = true → Takes X (fun c d _ H => E c d H) → ∀ (n : Nat) (x m : Str) (j : Nat) (p p2 pos pos2 : Pos), excs[n]? = some x → Gl X x → PS X (.Raise (some (.Call (.Name x p) [.Constant (.str m) j p2] [] pos)) none pos2) (fun _ _ H => EvOf cls E n H)
/-- a def by its clean text -/
theorem fn_ok {P : Program} {w : World} {K : PySem.W.Frag} {mg : Str → Option Value} {base : Heap} {x qual : Str} {params : Arguments} {body : List PySem.Stmt} {scope : Scope} {dvs : List V} {kws : List (Str × V)} {f : Addr} {fdt : FuncData} {N ps : List Str} {k : Nat} {excs : List Str}
    {fns : List Str} {okA : Nat → Nat → Bool} {fd : Fd} (mo : Mo P w K mg base M T cls excs) (FD : FunD K x qual params body scope dvs kws f fdt) (S : FnScope N ps scope) (hps : fd.ps = ps.length) (hn : fd.n = N.length)
    (hf : ∀ (i : Nat) (x : Str) (m : Nat), fns[i]? = some x → okA i m = true → FnAt P w K mg base (CX P w) M T cls k x m (F i)) (consts : List (Str × Int)) (hcs : ∀ (x : Str) (i : Int), consts.lookup x = some i → ∃ t, mg x = some (.int i t)) (hc : chkB ⟨N, scope.names, true, fns, okA, false, qual, Nm.nm, consts⟩ excs fd.body body = true) :
    FnOk P w K mg base (CX P w) (k + 1) f fdt ps (spD M T cls fd.ps (runF F fd)) := by
  have hpl : ps.length ≤ N.length := by have := congrArg List.length S.pre; rw [List.length_take] at this; omega
  refine FD.ok S (fun vs H Q E h => by rw [h.1, hps]) fun cdv A outer s H vs Q E hr hsp => ?_
  refine ⟨tS M T (EvOf cls E) (exB F fd.body), bOk (excs := excs) (CX := CX P w) (lv := k) fd.body ?_ hc, body_read hn (by omega) hsp⟩
  have tk : Takes (cxOf (CX P w) P w K mg base N qual scope f cdv A outer s H E) (fun c d _ H => E c d H) := takes_of rfl rfl rfl rfl
  refine ⟨⟨mo.eK, mo.ew, by have := hr.un; show (A.deeper (PyProof.Rows.envOfC qual scope s.heap.objs.size f cdv)).units + 65 < cLine; omega, rfl, rfl, S.nd, rfl, S.kind, fun _ _ => rfl, mo.blt, passes_call tk fun _ _ _ _ h => h, fun outer H s e s' h => ?_, hr, fun _ _ => rfl, (fun z => nomatch z), (fun z => nomatch z), hcs, hf⟩, passes_of rfl, fun n x m j p p2 pos pos2 hx hg => mo.rs _ E rfl rfl rfl tk n x m j p p2 pos pos2 hx hg⟩
  obtain ⟨a, B, H', cls, d, _, _, _, _, _, _, _, h⟩ := h
  exact h
/-- the rule for a def whose code object is known -/
theorem funD_okC {P : Program} {w : World} {K : PySem.W.Frag} {mg : Str → Option Value} {base : Heap} {x qual : Str} {params : Arguments} {body : List PySem.Stmt} {scope : Scope} {dvs : List V} {kws : List (Str × V)} {f : Addr} {fd : FuncData} {CX : CXT} {N ps : List Str} {k : Nat} {sp : Sp}
    (F : FunD K x qual params body scope dvs kws f fd) (S : FnScope N ps scope) (len : ∀ vs H Q E, sp vs H Q E → vs.length = ps.length)
    (hbody : ∀ (A : Around) (outer : List Env) (s : Shared) (H : Hp) (vs : List V) (Q : VK) (E : XK), Room k (A.deeper (PyProof.Rows.envOfC qual scope s.heap.objs.size f fd.code)) → sp vs H Q E →
      ∃ t, PSs (cxOf CX P w K mg base N qual scope f fd.code A outer s H E) body t ∧ t { nx := fun _ H' => Q .non H', rt := Q } (L2.start N vs) H) : FnOk P w K mg base CX (k + 1) f fd ps sp := by
  obtain ⟨oc, od, dV, kV, doc, pm, an, cdv, ct, osl, rfl, lk, hcd, _, _⟩ := F.ex
  exact fn_of lk hcd S len fun A outer s H vs Q E hr hsp => hbody A outer s H vs Q E hr hsp
/-- a def by its clean text, generators and lambdas in it -/
theorem fn_okG {P : Program} {w : World} {K : PySem.W.Frag} {mg : Str → Option Value} {base : Heap} {x qual : Str} {params : Arguments} {body : List PySem.Stmt} {scope : Scope} {dvs : List V} {kws : List (Str × V)} {f : Addr} {fdt : FuncData} {N ps : List Str} {k : Nat} {excs : List Str}
    {fns : List Str} {okA : Nat → Nat → Bool} {fd : Fd} {cc P' : Addr} (mo : Mo P w K mg base M T cls excs) (FD : FunD K x qual params body scope dvs kws f fdt) (S : FnScope N ps scope) (hps : fd.ps = ps.length) (hn : fd.n = N.length)
    (hcode : fdt.code = .ref cc) (TB : GxR.TabB base mg cc P') (hP : P' ∈ T)
    (hf : ∀ (i : Nat) (x : Str) (m : Nat), fns[i]? = some x → okA i m = true → FnAt P w K mg base (CX P w) M T cls k x m (F i)) (consts : List (Str × Int)) (hcs : ∀ (x : Str) (i : Int), consts.lookup x = some i → ∃ t, mg x = some (.int i t)) (hc : chkB ⟨N, scope.names, true, fns, okA, true, qual ++ ".<locals>.", Nm.nm, consts⟩ excs fd.body body = true) :
    FnOk P w K mg base (CX P w) (k + 2) f fdt ps (spD M T cls fd.ps (runF F fd)) := by
  have hpl : ps.length ≤ N.length := by have := congrArg List.length S.pre; rw [List.length_take] at this; omega
  refine funD_okC FD S (fun vs H Q E h => by rw [h.1, hps]) fun A outer s H vs Q E hr hsp => ?_
  refine ⟨tS M T (EvOf cls E) (exB F fd.body), bOk (excs := excs) (CX := CX P w) (lv := k) fd.body ?_ hc, body_read hn (by omega) hsp⟩
  have tk : Takes (cxOf (CX P w) P w K mg base N qual scope f fdt.code A outer s H E) (fun c d _ H => E c d H) := takes_of rfl rfl rfl rfl
  refine ⟨⟨mo.eK, mo.ew, by have := hr.un; show (A.deeper (PyProof.Rows.envOfC qual scope s.heap.objs.size f fdt.code)).units + 65 < cLine; omega, rfl, rfl, S.nd, rfl, S.kind, fun _ _ => rfl, mo.blt, passes_call tk fun _ _ _ _ h => h, fun outer H s e s' h => ?_, hr.mono (Nat.le_succ _), fun _ _ => rfl, (fun _ => rfl), (fun _ => ⟨hr, cc, P', TB, hP, hcode⟩), hcs, hf⟩, passes_of rfl, fun n x m j p p2 pos pos2 hx hg => mo.rs _ E rfl rfl rfl tk n x m j p p2 pos pos2 hx hg⟩
  obtain ⟨a, B, H', cls, d, _, _, _, _, _, _, _, h⟩ := h
  exact h
end
end Dx
set_option maxHeartbeats 1000000
namespace Dx
open PySem PySem.Spec L2
/-! ### the text of a def -/
def stArgs : PySem.Stmt → Arguments
  | .FunctionDef _ a _ _ _ _ _ _ _ _ => a
  | _ => ⟨[], [], none, [], [], none, []⟩
def stBody : PySem.Stmt → List PySem.Stmt
  | .FunctionDef _ _ b _ _ _ _ _ _ _ => b
  | _ => []
def stScope : PySem.Stmt → Scope
  | .FunctionDef _ _ _ _ _ _ sc _ _ _ => sc
  | _ => ⟨.function, [], false, false, []⟩
def okA (l : List Nat) (i m : Nat) : Bool := decide (l[i]? = some m)
/-- a scope as a check -/
def scB (N P : List Str) (sc : Scope) : Bool := (match sc.kind with | .function => true | _ => false) && !sc.isCoroutine && !sc.isGenerator && decide N.Nodup && decide (N.take P.length = P) &&
  (P.all fun x => match sc.names.lookup x with | some .local => true | some .cell => true | _ => false) && (sc.names.all fun y => match y.2 with | .free => false | _ => true)
theorem sc_of {N P : List Str} {sc : Scope} (h : scB N P sc = true) : FnScope N P sc := by
  unfold scB at h
  simp only [Bool.and_eq_true, List.all_eq_true, decide_eq_true_eq] at h
  obtain ⟨⟨⟨⟨⟨⟨h1, h2⟩, h3⟩, h4⟩, h5⟩, h6⟩, h7⟩ := h
  refine ⟨?_, by cases q : sc.isCoroutine <;> simp_all, by cases q : sc.isGenerator <;> simp_all, h4, h5, fun x hx => ?_, fun y hy e => ?_⟩
  · split at h1
    · assumption
    · cases h1
  · have := h6 x hx
    split at this
    · rename_i q; exact .inl q
    · rename_i q; exact .inr q
    · cases this
  · have := h7 y hy
    rw [e] at this; cases this
variable [Nm]
section
variable {P : Program} {w : World} {K : PySem.W.Frag} {mg : Str → Option Value} {base : Heap} {M : MatC} {T : List Addr} {cls : Nat → Addr} {CX : CXT}
theorem FnAt.mono {j k : Nat} {x : Str} {m : Nat} {h : List D → Res D} (a : FnAt P w K mg base CX M T cls j x m h) (hl : j ≤ k) : FnAt P w K mg base CX M T cls k x m h := by
  obtain ⟨f, fd, ps, l, n, G, dd, dvs, dsv, h1, h2, r⟩ := a
  exact ⟨f, fd, ps, l, n, G, dd, dvs, dsv, h1, Nat.le_trans h2 hl, r⟩
/-- called with all its arguments -/
theorem fnAt_full {k m : Nat} {x : Str} {f : Addr} {fdt : FuncData} {ps : List Str} {F : Fns} {fd : Fd} (FO : FnOk P w K mg base CX k f fdt ps (spD M T cls fd.ps (runF F fd))) (hm : mg x = some (.ref f)) (hk : PySem.W.keepIn K (.ref f) = true) (hb : Binds K fdt ps []) :
    FnAt P w K mg base CX M T cls k x m (runF F fd) :=
  ⟨f, fdt, ps, k, fd.ps, runF F fd, [], [], [], FO, Nat.le_refl _, hm, hk, hb, .nil, fun ds h => runF_len h, fun H => .nil, fun ds _ => by rw [List.append_nil]⟩
/-- called with defaults -/
theorem fnAt_dfl {k m : Nat} {x : Str} {f : Addr} {fdt : FuncData} {ps : List Str} {F : Fns} {fd : Fd} {dd : List D} {dvs : List V} {dsv : List Value} (FO : FnOk P w K mg base CX k f fdt ps (spD M T cls fd.ps (runF F fd))) (hm : mg x = some (.ref f)) (hk : PySem.W.keepIn K (.ref f) = true) (hb : Binds K fdt ps dsv) (hv : Vals dvs dsv) (hd : ∀ H, RpL M H dd dvs) :
    FnAt P w K mg base CX M T cls k x m (fun ds => runF F fd (ds ++ dd)) :=
  ⟨f, fdt, ps, k, fd.ps, runF F fd, dd, dvs, dsv, FO, Nat.le_refl _, hm, hk, hb, hv, fun ds h => runF_len h, hd, fun ds _ => rfl⟩
abbrev CalleesOk (P : Program) (w : World) (K : PySem.W.Frag) (mg : Str → Option Value) (base : Heap) (CX : CXT) (M : MatC) (T : List Addr) (cls : Nat → Addr) (lv : Nat) (fns : List Str) (l : List Nat) (F : Fns) : Prop :=
  ∀ (i : Nat) (x : Str) (m : Nat), fns[i]? = some x → okA l i m = true → FnAt P w K mg base CX M T cls lv x m (F i)
theorem hf_nil {lv : Nat} {F : Fns} : CalleesOk P w K mg base CX M T cls lv [] [] F := fun i x m h => by simp at h
theorem hf_cons {lv : Nat} {y : Str} {fns : List Str} {m0 : Nat} {l : List Nat} {F : Fns} (h : FnAt P w K mg base CX M T cls lv y m0 (F 0)) (t : CalleesOk P w K mg base CX M T cls lv fns l fun i => F (i + 1)) : CalleesOk P w K mg base CX M T cls lv (y :: fns) (m0 :: l) F := by
  intro i x m hx hm
  cases i with
  | zero =>
    simp at hx
    subst hx
    have : some m0 = some m := of_decide_eq_true hm
    cases this
    exact h
  | succ i => exact t i x m (by simpa using hx) hm
/-! ### the module -/
open He in
theorem mo_of {fa : List Fa} {fn : List DefD} {C : Addr} {excs : List Str} {h : Heap} (c : SaysD fa fn K) (X : K.In h) (G : h.Ns mainGlobals mg) (hb : ∀ x ∈ bltNames, Fa.free x ∈ fa) (he : ∀ x ∈ excs, Fa.glo x ∈ fa ∧ Fa.exc x ∈ fa) (hd : ∀ x ∈ excs, x ≠ "__debug__") :
    Mo P w K mg base ⟨K, w, C⟩ T (fun n => ga K ((excs[n]?).getD "")) excs where
  eK := rfl
  ew := rfl
  blt := fun x hx => free_ok X G (c.facts (hb x hx))
  rs := fun X0 E hK hmg hc tk n x m j p p2 pos pos2 hx hg => by
    have hmem : x ∈ excs := List.mem_of_getElem? hx
    obtain ⟨f1, f2⟩ := he x hmem
    obtain ⟨e1, e2, e3, e4⟩ := exc_ok (c.facts f2)
    have g1 := glo_ok X G (c.facts f1)
    have := ps_raise (pos := pos2) hc tk (pmk_own (X := X0) (m := m) (j := j) (p := p) (p2 := p2) (pos := pos) PySem.F.excBase_ValueError (by rw [hK]; exact e1) (by rw [hmg]; exact g1) (by rw [hK]; exact e2) (raises_own (by rw [hK]; exact e3) (by rw [hK]; exact e4)) hg (ne_beq (hd x hmem)))
    refine ps_weak this fun D σ H q => ?_
    have q : E (.ref (ga K ((excs[n]?).getD ""))) none H := q
    rw [hx] at q
    exact q
/-! ### the law's call -/
theorem law_sp {g : List D → Res D} {cs : List (Addr × Addr)} {H : Hp} {a : Addr} {ns : List Int} (hT : ∀ p ∈ cs, H p.2 = some (.tbl #[])) (hS : SqL M.K H a (ns.map V.int)) (hg : g [.scr (ns.map .int)] = .ok (.bl true)) :
    spD M (cs.map (·.2)) cls 1 g [.ref a] H (fun v _ => v = .bl true) fun _ _ _ => False := by
  have hs : ∀ {l : List Int}, RpL M (hide H fun _ => false) (l.map D.int) (l.map V.int) := by
    intro l
    induction l with
    | nil => exact .nil
    | cons i l ih => exact .cons rp_int ih
  have hh : hide H (fun _ => false) = H := funext fun b => hide_of rfl
  refine ⟨rfl, [.scr (ns.map .int)], fun _ => false, .cons ?_ .nil, (fun b hb => nomatch hb), fun Q hQ => ?_, ?_⟩
  · unfold Rp
    exact ⟨a, _, rfl, by rw [hh]; exact hS, hs⟩
  · obtain ⟨p, hp, rfl⟩ := List.mem_map.mp hQ
    exact ⟨#[], hT p hp, True.intro, fun pos cv z => by have z : codeAmong pos [] = some cv := z; simp [codeAmong] at z⟩
  · rw [hg]
    intro H1 _ v hv
    unfold Rp at hv
    exact hv
omit [Nm] in
theorem walk_ofX {l : PySem.W.OpenLaw} {n k : Nat} {q : Program} {loose : List Str} {XP : (Str → Option Value) → Heap → Prop} {YP : World → Heap → Prop} {d : DefRec} {CX : World → CXT} {x : Str}
    (hn : l.most = some n) (hn2 : n ≤ sizeLine) (hdf : d.params.defaults = []) (hr : Room k callerA)
    (F : ∀ (w : World) (mg : Str → Option Value) (fa : Addr) (h : Heap), YP w h → h.Ns mainGlobals mg → mg d.name = some (.ref fa) → ∃ K : PySem.W.Frag, K.In h ∧ LamX.LawAtS l w K (CX w) k n x mg fa h)
    (hCX : ∀ (w : World) (H : Hp) (s : Shared) (e : Value) (s' : Shared), CX w [] H s (fun _ _ _ => False) e s' → False) :
    PySem.W.WalkO q loose XP YP l.row.toRowW d [] (fun f vs => PySem.call f vs) := by
  refine Att.attach_callB hn hdf fun w s₀ s₁ mg mb fa o pm cd doc a vs ns G Y ho hd hcd hmg hobj hints hlen hbits hg => ?_
  obtain ⟨K, KX, fd, cs, sp, hT, nT, C, hb, hsp, hF⟩ := F w mg fa _ Y G.T.g hmg
  exact LamX.law_callTs KX G.T.g G.T.b G.T.builtins G.T.nolimit hg hT nT C G.T.bmain hobj hints (Nat.le_trans hlen hn2) hr hF hb (fun H hH hS => hsp H a ns hlen hbits hH hS) fun H e s' => hCX w H s₁ e s'
omit [Nm] in
theorem code_of {x qual : Str} {params : Arguments} {body : List PySem.Stmt} {scope : Scope} {dvs : List V} {kws : List (Str × V)} {f : Addr} {fd : FuncData} (F : FunD K x qual params body scope dvs kws f fd) : ∃ cc, fd.code = .ref cc := by
  obtain ⟨oc, od, dV, kV, doc, pm, an, cdv, ct, osl, rfl, lk, hcd, _, _⟩ := F.ex
  exact He.codeIn_ref hcd
omit [Nm] in
theorem tab_of {tf : List He.Defn} {q : He.Defn} {x qual : Str} {params : Arguments} {body : List PySem.Stmt} {scope : Scope} {dvs : List V} {kws : List (Str × V)} {fd : FuncData} {cc : Addr} (F : FunD K x qual params body scope dvs kws (He.fAd K q) fd) (hc : fd.code = .ref cc) (hm : q ∈ tf)
    (hTB : ∀ p ∈ tf.map (He.cT K), LamX.TabB base mg p.1 p.2) : GxR.TabB base mg cc (He.cT K q).2 := by
  obtain ⟨oc, od, dV, kV, doc, pm, an, cdv, ct, osl, e, lk, hcd, _, _⟩ := F.ex
  have h := hTB _ (List.mem_map.mpr ⟨q, hm, rfl⟩)
  have e1 : (He.cT K q).1 = cc := He.codeOf_eq lk hc
  rw [e1] at h
  exact ⟨h.code, h.bm, h.gP⟩
omit [Nm] in
theorem tab_in {tf : List He.Defn} {q : He.Defn} (hm : q ∈ tf) : (He.cT K q).2 ∈ (tf.map (He.cT K)).map (·.2) := List.mem_map.mpr ⟨_, List.mem_map.mpr ⟨q, hm, rfl⟩, rfl⟩
theorem lookup_mem {l : List (Str × Int)} {x : Str} {i : Int} (h : l.lookup x = some i) : (x, i) ∈ l := PySem.mem_of_lookup h
end
end Dx
/-! the evaluator as simp rules; loops and comprehensions as folds and maps -/
namespace Dx
open PySem
section
variable {F : Fns} {env : DEnv}
@[simp] theorem evE_var {i : Nat} : evE F (.var i) env = getS env i := rfl
@[simp] theorem evE_lit {l : Lit} : evE F (.lit l) env = .ok (litD l) := rfl
@[simp] theorem evE_bin {o : Op} {a b : E} : evE F (.bin o a b) env = (evE F a env >>= fun x => evE F b env >>= fun y => opD o x y) := rfl
@[simp] theorem evE_neg {a : E} : evE F (.neg a) env = (evE F a env >>= fun x => g1I (fun i => .ok (.int (-i))) x) := rfl
@[simp] theorem evE_inv {a : E} : evE F (.inv a) env = (evE F a env >>= fun x => g1I (fun i => .ok (.int (Builtin.bitNot i))) x) := rfl
@[simp] theorem evE_not {a : E} : evE F (.not a) env = (evE F a env >>= fun x => optR (truD x) >>= fun b => .ok (.bl (!b))) := rfl
@[simp] theorem evE_and {a b : E} : evE F (.andE a b) env = (evE F a env >>= fun x => andG (evE F b) x env) := rfl
@[simp] theorem evE_or {a b : E} : evE F (.orE a b) env = (evE F a env >>= fun x => orG (evE F b) x env) := rfl
@[simp] theorem evE_cmp {o : Cm} {a b : E} : evE F (.cmp o a b) env = (evE F a env >>= fun x => evE F b env >>= fun y => cmG o x y) := rfl
@[simp] theorem evE_chain {o o' : Cm} {a b c : E} : evE F (.chain o o' a b c) env = (evE F a env >>= fun x => evE F b env >>= fun y => cmD o x y >>= fun r => if r = true then evE F c env >>= fun z => cmG o' y z else .ok (.bl false)) := rfl
@[simp] theorem evE_ife {c : Tst} {a b : E} : evE F (.ife c a b) env = (evT F c env >>= fun k => if k = true then evE F a env else evE F b env) := rfl
@[simp] theorem evE_tup {l : List E} : evE F (.tup l) env = tupG (kpAll l) (evL F l) env := rfl
@[simp] theorem evE_tupF {l : List E} : evE F (.tupF l) env = tupFG (kpAll l) (evL F l) env := rfl
@[simp] theorem evE_lst {l : List E} : evE F (.lst l) env = lstG (kpAll l) (evL F l) env := rfl
@[simp] theorem evE_newK : evE F .newK env = .ok (.dct false [] []) := rfl
@[simp] theorem evE_newT : evE F .newT env = .ok (.dct true [] []) := rfl
@[simp] theorem evE_idx {a b : E} : evE F (.idx a b) env = (evE F a env >>= fun x => evE F b env >>= fun y => idxD x y) := rfl
@[simp] theorem evE_slc {a : E} {lo hi : Option E} : evE F (.slc a lo hi) env = (evE F a env >>= fun x => evO F lo env >>= fun l => evO F hi env >>= fun h => slcD x l h) := rfl
@[simp] theorem evE_call {f : Nat} {l : List E} : evE F (.call f l) env = callG (kpAll l) (evL F l) (F f) env := rfl
@[simp] theorem evE_bi {f : Bi} {l : List E} : evE F (.bi f l) env = (evL F l env >>= fun ds => biD f ds) := rfl
@[simp] theorem evE_bitlen {a : E} : evE F (.bitlen a) env = (evE F a env >>= fun x => g1I (fun i => .ok (.int (Builtin.Int.intBits i : Nat))) x) := rfl
@[simp] theorem evE_get {d k x : E} : evE F (.get d k x) env = getG (kp x) (evE F d) (evE F k) (evE F x) env := rfl
@[simp] theorem evE_join {s a : E} : evE F (.join s a) env = (evE F s env >>= fun x => joinG x (evE F a env)) := rfl
@[simp] theorem evE_fld {a : E} {k : Nat} : evE F (.fld a k) env = (evE F a env >>= fun x => fldG k x) := rfl
@[simp] theorem evE_lc {elt : E} {t : Tg} {it : It} {cs : List Tst} {own : List Nat} : evE F (.lc elt t it cs own) env = lcG (evIt F it) t (evCs F cs) (evE F elt) (kp elt) own env := rfl
@[simp] theorem evE_allG {neg : Bool} {elt : E} {t : Tg} {it : It} {cs : List Tst} {own : List Nat} : evE F (.allG neg elt t it cs own) env = allG neg (evIt F it) t (evCs F cs) (evE F elt) own env := rfl
@[simp] theorem evE_sortK {a : E} {own : List Nat} {t : Nat} {key : E} : evE F (.sortK a own t key) env = (evE F a env >>= fun x => sortKG t (evE F key) (kp key) (wipeE env own) x) := rfl
@[simp] theorem evL_nil : evL F [] env = .ok [] := rfl
@[simp] theorem evL_cons {e : E} {l : List E} : evL F (e :: l) env = (evE F e env >>= fun x => evL F l env >>= fun r => .ok (x :: r)) := rfl
@[simp] theorem evO_none : evO F none env = .ok none := rfl
@[simp] theorem evO_some {e : E} : evO F (some e) env = (evE F e env >>= fun x => intO x) := rfl
@[simp] theorem evT_not {a : Tst} : evT F (.not a) env = (evT F a env >>= fun b => .ok (!b)) := rfl
@[simp] theorem evT_and {a b : Tst} : evT F (.and a b) env = (evT F a env >>= fun k => if k = true then evT F b env else .ok false) := rfl
@[simp] theorem evT_or {a b : Tst} : evT F (.or a b) env = (evT F a env >>= fun k => if k = true then .ok true else evT F b env) := rfl
@[simp] theorem evT_e {a : E} : evT F (.e a) env = (evE F a env >>= fun x => optR (truD x)) := rfl
@[simp] theorem evCs_nil : evCs F [] env = .ok true := rfl
@[simp] theorem evCs_one {e : Tst} : evCs F [e] env = evT F e env := rfl
@[simp] theorem evIt_seq {a : E} : evIt F (.seq a) env = (evE F a env >>= fun x => seqG x) := rfl
@[simp] theorem evIt_rng {l : List E} : evIt F (.rng l) env = (evL F l env >>= fun ds => rngG ds) := rfl
@[simp] theorem evIt_rev {a : E} : evIt F (.rev a) env = (evE F a env >>= fun x => revG x) := rfl
@[simp] theorem evIt_revR {l : List E} : evIt F (.revR l) env = (evL F l env >>= fun ds => revRG ds) := rfl
@[simp] theorem evIt_enum {a : E} : evIt F (.enum a) env = (evE F a env >>= fun x => enumG x) := rfl
@[simp] theorem evIt_zip {a b : E} : evIt F (.zip a b) env = (evE F a env >>= fun x => evE F b env >>= fun y => zipG x y) := rfl
@[simp] theorem evIt_keys {i : Nat} : evIt F (.keys i) env = dctI false i env := rfl
@[simp] theorem evIt_items {i : Nat} : evIt F (.items i) env = dctI true i env := rfl
@[simp] theorem kp_var {i : Nat} : kp (.var i) env = (match env[i]? with | some (.sh _) => true | _ => false) := rfl
@[simp] theorem kp_lit {l : Lit} : kp (.lit l) env = true := rfl
@[simp] theorem kp_bin {o : Op} {a b : E} : kp (.bin o a b) env = true := rfl
@[simp] theorem kp_neg {a : E} : kp (.neg a) env = true := rfl
@[simp] theorem kp_not {a : E} : kp (.not a) env = true := rfl
@[simp] theorem kp_cmp {o : Cm} {a b : E} : kp (.cmp o a b) env = true := rfl
@[simp] theorem kp_tup {l : List E} : kp (.tup l) env = true := rfl
@[simp] theorem kp_lst {l : List E} : kp (.lst l) env = true := rfl
@[simp] theorem kp_newT : kp .newT env = true := rfl
@[simp] theorem kp_newK : kp .newK env = true := rfl
@[simp] theorem kp_idx {a b : E} : kp (.idx a b) env = true := rfl
@[simp] theorem kp_slc {a : E} {lo hi : Option E} : kp (.slc a lo hi) env = true := rfl
@[simp] theorem kp_call {f : Nat} {l : List E} : kp (.call f l) env = true := rfl
@[simp] theorem kp_bi {f : Bi} {l : List E} : kp (.bi f l) env = true := rfl
@[simp] theorem kp_get {a b c : E} : kp (.get a b c) env = true := rfl
@[simp] theorem kp_join {a b : E} : kp (.join a b) env = true := rfl
@[simp] theorem kp_lc {elt : E} {t : Tg} {it : It} {cs : List Tst} {own : List Nat} : kp (.lc elt t it cs own) env = true := rfl
@[simp] theorem kp_allG {neg : Bool} {elt : E} {t : Tg} {it : It} {cs : List Tst} {own : List Nat} : kp (.allG neg elt t it cs own) env = true := rfl
@[simp] theorem kp_sortK {a : E} {own : List Nat} {t : Nat} {key : E} : kp (.sortK a own t key) env = true := rfl
@[simp] theorem kpAll_nil : kpAll [] env = true := rfl
@[simp] theorem kpAll_cons {e : E} {l : List E} : kpAll (e :: l) env = (kp e env && kpAll l env) := rfl
@[simp] theorem kp_ife {c : Tst} {a b : E} : kp (.ife c a b) env = (kp a env && kp b env) := rfl
@[simp] theorem kp_and {a b : E} : kp (.andE a b) env = kp b env := rfl
@[simp] theorem kp_or {a b : E} : kp (.orE a b) env = kp b env := rfl
@[simp] theorem wipeE_nil : wipeE env [] = env := rfl
@[simp] theorem wipeE_cons {v : Nat} {vs : List Nat} : wipeE env (v :: vs) = (wipeE env vs).set v .none := rfl
@[simp] theorem tgD_name {i : Nat} {d : D} : tgD (.name i) d env = .ok (env.set i (.sh d)) := rfl
@[simp] theorem tgD_tup {l : List Tg} {ds : List D} : tgD (.tup l) (.tup ds) env = tgL l ds env := rfl
@[simp] theorem tgL_nil : tgL [] [] env = .ok env := rfl
@[simp] theorem tgL_cons {t : Tg} {l : List Tg} {d : D} {ds : List D} : tgL (t :: l) (d :: ds) env = (tgD t d env >>= tgL l ds) := rfl
/-! statements -/
@[simp] theorem exB_nil : exB F [] env = .ok (.nx env) := rfl
theorem exB_cons {s : S} {l : List S} : exB F (s :: l) env = (exS F s env >>= thenS (exB F l)) := rfl
@[simp] theorem thenS_nx {g : DEnv → Res Out} {e : DEnv} : thenS g (.nx e) = g e := rfl
@[simp] theorem thenS_ret {g : DEnv → Res Out} {d : D} : thenS g (.ret d) = .ok (.ret d) := rfl
@[simp] theorem thenS_bk {g : DEnv → Res Out} {e : DEnv} : thenS g (.bk e) = .ok (.bk e) := rfl
@[simp] theorem thenS_ct {g : DEnv → Res Out} {e : DEnv} : thenS g (.ct e) = .ok (.ct e) := rfl
theorem exS_asg {t : Tg} {e : E} : exS F (.asg t e) env = asgG (evE F e) (kp e) t env := rfl
theorem exS_fresh {i : Nat} {e : E} : exS F (.fresh i e) env = newG (evE F e) i env := rfl
theorem exS_par {l : List (Nat × Bool × E)} : exS F (.par l) env = parG F l (fun d => d) env := rfl
theorem exS_aug {i : Nat} {e : E} : exS F (.aug i e) env = augG (evE F e) i .add env := rfl
theorem exS_app {i : Nat} {e : E} : exS F (.app i e) env = appG (evE F e) (kp e) i env := rfl
theorem exS_pop {i : Nat} : exS F (.pop i) env = popG i env := rfl
theorem exS_popTo {i j : Nat} : exS F (.popTo j i) env = popToG j i env := rfl
theorem exS_setI {i : Nat} {k e : E} : exS F (.setI i k e) env = setIG (evE F e) (evE F k) (kp e) i env := rfl
theorem exS_augI {i : Nat} {k e : E} : exS F (.augI i k e) env = augIG (evE F e) (evE F k) i env := rfl
theorem exS_put {i : Nat} {k e : E} : exS F (.put i k e) env = putG (evE F e) (evE F k) (kp e) i env := rfl
theorem exS_retN : exS F (.ret none) env = .ok (.ret .non) := rfl
theorem exS_ret {e : E} : exS F (.ret (some e)) env = retG (evE F e) (kp e) env := rfl
theorem exS_raise {n : Nat} : exS F (.raise n) env = .exc n := rfl
theorem exS_if {c : Tst} {a b : List S} : exS F (.ifS c a b) env = (evT F c env >>= fun k => if k = true then exB F a env else exB F b env) := rfl
theorem exS_for {t : Tg} {it : It} {b : List S} : exS F (.forS t it b) env = forX F it t (exB F b) env := rfl
theorem exS_while {n : Nat} {c : Tst} {b : List S} : exS F (.whileS n c b) env = whileL (evT F c) (exB F b) n env := rfl
theorem exS_brk : exS F .brk env = .ok (.bk env) := rfl
theorem exS_cont : exS F .cont env = .ok (.ct env) := rfl
theorem exS_pass : exS F .pass env = .ok (.nx env) := rfl
theorem exS_expr {e : E} : exS F (.expr e) env = (evE F e env >>= fun _ => .ok (.nx env)) := rfl
theorem exS_frz {i : Nat} : exS F (.frz i) env = .ok (.nx (frzD i env)) := rfl
end
/-! ### loops -/
/-- a loop whose body always goes on: a fold -/
theorem forL_fold {α β : Type} {f : D → DEnv → Res Out} {enc : α → D} {step : β → α → β} (I : β → DEnv → Prop) : ∀ {l : List α} {b : β} {env : DEnv}, I b env →
    (∀ b a env, a ∈ l → I b env → ∃ env', f (enc a) env = .ok (.nx env') ∧ I (step b a) env') → ∃ env', forL f (l.map enc) env = .ok (.nx env') ∧ I (l.foldl step b) env'
  | [], b, env, h, _ => ⟨env, rfl, h⟩
  | a :: l, b, env, h, hs => by
    obtain ⟨e1, h1, h2⟩ := hs b a env List.mem_cons_self h
    obtain ⟨e2, h3, h4⟩ := forL_fold I (l := l) h2 fun b a' env ha => hs b a' env (List.mem_cons_of_mem _ ha)
    refine ⟨e2, ?_, h4⟩
    show (f (enc a) env >>= fun o => match o with | .nx e => forL f (l.map enc) e | .ct e => forL f (l.map enc) e | .bk e => .ok (.nx e) | .ret r => .ok (.ret r)) = _
    rw [h1]
    exact h3
/-- a loop whose body goes on or returns: the first return -/
theorem forL_find {α : Type} {f : D → DEnv → Res Out} {enc : α → D} (p : α → Option D) (I : DEnv → Prop) : ∀ {l : List α} {env : DEnv}, I env →
    (∀ a env, a ∈ l → I env → match p a with | some d => f (enc a) env = .ok (.ret d) | none => ∃ env', (f (enc a) env = .ok (.nx env') ∨ f (enc a) env = .ok (.ct env')) ∧ I env') →
    match l.findSome? p with | some d => forL f (l.map enc) env = .ok (.ret d) | none => ∃ env', forL f (l.map enc) env = .ok (.nx env') ∧ I env'
  | [], env, h, _ => ⟨env, rfl, h⟩
  | a :: l, env, h, hs => by
    have h1 := hs a env List.mem_cons_self h
    rw [List.findSome?_cons]
    cases q : p a with
    | some d =>
      rw [q] at h1
      show (f (enc a) env >>= fun o => match o with | .nx e => forL f (l.map enc) e | .ct e => forL f (l.map enc) e | .bk e => .ok (.nx e) | .ret r => .ok (.ret r)) = _
      have h1 : f (enc a) env = .ok (.ret d) := h1
      rw [h1]; rfl
    | none =>
      rw [q] at h1
      obtain ⟨e1, h2, h3⟩ := h1
      have ih := forL_find p I (l := l) h3 fun a' env ha => hs a' env (List.mem_cons_of_mem _ ha)
      have e : forL f ((a :: l).map enc) env = forL f (l.map enc) e1 := by
        show (f (enc a) env >>= fun o => match o with | .nx e => forL f (l.map enc) e | .ct e => forL f (l.map enc) e | .bk e => .ok (.nx e) | .ret r => .ok (.ret r)) = _
        rcases h2 with h2 | h2 <;> rw [h2] <;> rfl
      show match l.findSome? p with | some d => forL f ((a :: l).map enc) env = .ok (.ret d) | none => ∃ env', forL f ((a :: l).map enc) env = .ok (.nx env') ∧ I env'
      rw [e]
      exact ih
/-- a while loop by its states -/
theorem whileL_run {β : Type} {c : DEnv → Res Bool} {f : DEnv → Res Out} (I : β → DEnv → Prop) (m : β → Nat) (go : β → Bool) (step : β → β) (hc : ∀ b env, I b env → c env = .ok (go b))
    (hf : ∀ b env, I b env → go b = true → (∃ env', f env = .ok (.nx env') ∧ I (step b) env') ∧ m (step b) < m b) : ∀ (n : Nat) (b : β) (env : DEnv), I b env → m b < n → ∃ env' b', whileL c f n env = .ok (.nx env') ∧ I b' env' ∧ go b' = false
  | 0, b, env, _, h => absurd h (Nat.not_lt_zero _)
  | n + 1, b, env, h, hm => by
    have h1 := hc b env h
    cases q : go b with
    | false =>
      refine ⟨env, b, ?_, h, q⟩
      show (c env >>= fun k => if k = true then (f env >>= fun o => match o with | .nx e => whileL c f n e | .ct e => whileL c f n e | .bk e => .ok (.nx e) | .ret r => .ok (.ret r)) else .ok (.nx env)) = _
      rw [h1, q]; rfl
    | true =>
      obtain ⟨⟨e1, h2, h3⟩, h4⟩ := hf b env h q
      obtain ⟨e2, b2, h5, h6, h7⟩ := whileL_run I m go step hc hf n (step b) e1 h3 (by omega)
      refine ⟨e2, b2, ?_, h6, h7⟩
      show (c env >>= fun k => if k = true then (f env >>= fun o => match o with | .nx e => whileL c f n e | .ct e => whileL c f n e | .bk e => .ok (.nx e) | .ret r => .ok (.ret r)) else .ok (.nx env)) = _
      rw [h1, q]
      show (f env >>= fun o => match o with | .nx e => whileL c f n e | .ct e => whileL c f n e | .bk e => .ok (.nx e) | .ret r => .ok (.ret r)) = _
      rw [h2]
      exact h5
/-! ### comprehensions -/
theorem turns_filter {α : Type} {f : D → DEnv → Res (Option D)} {env : DEnv} {enc : α → D} {p : α → Bool} {g : α → D} : ∀ {l : List α}, (∀ a ∈ l, f (enc a) env = .ok (if p a = true then some (g a) else none)) → turns f env (l.map enc) = .ok ((l.filter p).map g)
  | [], _ => rfl
  | a :: l, h => by
    show (f (enc a) env).bind (fun o => (turns f env (l.map enc)).bind fun r => .ok (match o with | some x => x :: r | none => r)) = _
    rw [h a List.mem_cons_self, turns_filter fun b hb => h b (List.mem_cons_of_mem _ hb)]
    cases q : p a with
    | true => simp [Res.bind, q]
    | false => simp [Res.bind, q]
theorem turns_map {α : Type} {f : D → DEnv → Res (Option D)} {env : DEnv} {enc g : α → D} {l : List α} (h : ∀ a ∈ l, f (enc a) env = .ok (some (g a))) : turns f env (l.map enc) = .ok (l.map g) := by
  have := turns_filter (p := fun _ => true) (g := g) (l := l) (f := f) (env := env) (enc := enc) fun a ha => by rw [h a ha]; rfl
  rw [List.filter_eq_self.mpr fun _ _ => rfl] at this
  exact this
theorem allT_all {α : Type} {f : D → DEnv → Res (Option D)} {env : DEnv} {enc : α → D} {p : α → Bool} : ∀ {l : List α}, (∀ a ∈ l, f (enc a) env = .ok (some (.bl (p a)))) → allT false f env (l.map enc) = .ok (l.all p)
  | [], _ => rfl
  | a :: l, h => by
    show (f (enc a) env).bind (fun o => match o with | none => allT false f env (l.map enc) | some x => match x with | .bl b => if b = !false then allT false f env (l.map enc) else .ok false | _ => .bad) = _
    rw [h a List.mem_cons_self, List.all_cons]
    cases q : p a with
    | true => simp only [Res.bind, Bool.not_false, if_true, Bool.true_and]; exact allT_all fun b hb => h b (List.mem_cons_of_mem _ hb)
    | false => simp [Res.bind]
theorem allT_any {α : Type} {f : D → DEnv → Res (Option D)} {env : DEnv} {enc : α → D} {p : α → Bool} : ∀ {l : List α}, (∀ a ∈ l, f (enc a) env = .ok (some (.bl (p a)))) → allT true f env (l.map enc) = .ok (l.any p)
  | [], _ => rfl
  | a :: l, h => by
    show (f (enc a) env).bind (fun o => match o with | none => allT true f env (l.map enc) | some x => match x with | .bl b => if b = !true then allT true f env (l.map enc) else .ok true | _ => .bad) = _
    rw [h a List.mem_cons_self, List.any_cons]
    cases q : p a with
    | true => simp [Res.bind]
    | false => simp only [Res.bind, Bool.not_true, if_true, Bool.false_or]; exact allT_any fun b hb => h b (List.mem_cons_of_mem _ hb)
/-! ### shapes of data -/
abbrev dInts (l : List Int) : List D := l.map D.int
theorem fits_of {n : Nat} (h : n ≤ 1000000) : fits n = true := by
  unfold fits
  exact decide_eq_true (by rw [sizeLine_eq]; omega)
theorem small_of {i : Int} (h1 : -(2 ^ 63) ≤ i) (h2 : i ≤ 2 ^ 63) : small i = true := by
  unfold small
  simp only [Bool.and_eq_true, decide_eq_true_eq]
  omega
theorem rangeD_eq {n : Nat} : rangeD 0 (n : Int) = (List.range n).map fun i => D.int (i : Nat) := by
  unfold rangeD
  have : ((n : Int) - 0).toNat = n := by omega
  rw [this]
  apply List.map_congr_left
  intro i _
  simp
theorem inR_small {i : Int} (h1 : 0 ≤ i) (h2 : i ≤ 1000000) : inR i = true := by
  unfold Dx.inR
  simp only [Bool.and_eq_true, decide_eq_true_eq]
  omega
theorem intsD_ints : ∀ l : List Int, intsD (dInts l) = some l
  | [] => rfl
  | i :: l => by
    show (intsD (dInts l)).map (i :: ·) = _
    rw [intsD_ints l]; rfl
end Dx
/-! data of Lean types: ==, <, sorted -/
namespace Dx
open PySem PySem.W
class EncD (α : Type) [DecidableEq α] [DatumOrd α] where
  enc : α → D
  py : ∀ a, pyD (enc a) = some (Datum.toD a)
  lay : ∀ a : α, PyData.canLay0 (Datum.toD a) = true
open EncD
instance : EncD Int where
  enc := .int
  py _ := by simp only [pyD]; rfl
  lay a := by show PyData.canLay0 (.int a) = true; simp only [PyData.canLay0]
instance : EncD Bool where
  enc := .bl
  py _ := by simp only [pyD]; rfl
  lay a := by show PyData.canLay0 (.bool a) = true; simp only [PyData.canLay0]
section
variable {α β : Type} [DecidableEq α] [DatumOrd α] [EncD α] [DecidableEq β] [DatumOrd β] [EncD β]
theorem pyL_map : ∀ l : List α, pyL (l.map enc) = some (l.map Datum.toD)
  | [] => by simp only [List.map_nil, pyL]
  | a :: l => by simp only [List.map_cons, pyL, py, pyL_map l]
theorem layL_map : ∀ l : List α, PyData.canLayAll0 (l.map Datum.toD) = true
  | [] => by simp only [List.map_nil, PyData.canLayAll0]
  | a :: l => by simp only [List.map_cons, PyData.canLayAll0, lay, layL_map l, Bool.and_self]
instance : EncD (α × β) where
  enc p := .tup [enc p.1, enc p.2]
  py p := by simp only [pyD, pyL, py, Option.map_some]; rfl
  lay p := by
    show PyData.canLay0 (.tuple [_, _]) = true
    simp only [PyData.canLay0, PyData.canLayAll0, lay, Bool.and_self]
instance : EncD (Tup α) where
  enc t := .tup (t.items.map enc)
  py t := by simp only [pyD, pyL_map, Option.map_some]; rfl
  lay t := by
    show PyData.canLay0 (.tuple _) = true
    simp only [PyData.canLay0]; exact layL_map _
instance : EncD (List α) where
  enc t := .lst (t.map enc)
  py t := by simp only [pyD, pyL_map, Option.map_some]; rfl
  lay t := by
    show PyData.canLay0 (.list _) = true
    simp only [PyData.canLay0]; exact layL_map _
theorem shaped_enc (a : α) (hd : Datum.depth α ≤ 60) : SeqAt.shaped (Datum.toD a) = true := by
  unfold SeqAt.shaped
  rw [lay a, Bool.true_and, decide_eq_true_eq]
  exact Nat.le_trans (Datum.depth_le a) (by omega)
theorem eqD_enc (a b : α) (hd : Datum.depth α ≤ 60) : eqD (enc a) (enc b) = some (decide (a = b)) := by
  unfold eqD
  rw [py, py]
  show (if _ then _ else _) = _
  rw [if_pos ⟨shaped_enc a hd, shaped_enc b hd⟩, Datum.eqv]
theorem eqD_ftup (l m : List α) (hd : Datum.depth α ≤ 59) : eqD (.ftup (l.map enc)) (.ftup (m.map enc)) = some (decide (l = m)) := by
  have h := eqD_enc (Tup.mk l) (Tup.mk m) (Nat.succ_le_succ hd)
  have e : decide (Tup.mk l = Tup.mk m) = decide (l = m) := decide_eq_decide.mpr (by rw [Tup.mk.injEq])
  rw [e] at h
  rw [← h]
  unfold eqD
  rw [show pyD (.ftup (l.map enc)) = pyD (enc (Tup.mk l)) by rw [py]; simp only [pyD, pyL_map, Option.map_some]; rfl]
  rw [show pyD (.ftup (m.map enc)) = pyD (enc (Tup.mk m)) by rw [py]; simp only [pyD, pyL_map, Option.map_some]; rfl]
theorem eqD_ftup_tup (l m : List α) (hd : Datum.depth α ≤ 59) : eqD (.ftup (l.map enc)) (.tup (m.map enc)) = some (decide (l = m)) := by
  have h := eqD_enc (Tup.mk l) (Tup.mk m) (Nat.succ_le_succ hd)
  have e : decide (Tup.mk l = Tup.mk m) = decide (l = m) := decide_eq_decide.mpr (by rw [Tup.mk.injEq])
  rw [e] at h
  rw [← h]
  unfold eqD
  rw [show pyD (.ftup (l.map enc)) = pyD (enc (Tup.mk l)) by rw [py]; simp only [pyD, pyL_map, Option.map_some]; rfl]
  rfl
theorem ordD_enc (f : PyData → PyData → Bool) (a b : α) (hd : Datum.depth α ≤ 60) : ordD f (enc a) (enc b) = some (f (Datum.toD a) (Datum.toD b)) := by
  unfold ordD
  rw [py, py]
  show (if _ then _ else _) = _
  have hn : notNone (Datum.toD a) = true := by
    have := DatumOrd.notNone a
    revert this
    cases Datum.toD a <;> intro h <;> first | rfl | exact absurd rfl h
  rw [if_pos ⟨DatumOrd.alike a b, hn, Nat.le_trans (Datum.depth_le a) hd⟩]
theorem pyE_enc (a : α) : pyE (enc a) = Datum.toD a := by unfold pyE; rw [py]; rfl
theorem leD_enc (a b : α) : leD (enc a) (enc b) = !DatumOrd.lt b a := by
  unfold leD
  rw [pyE_enc, pyE_enc, DatumOrd.lt_eq]
/-- the order of sorted -/
def leO (a b : α) : Bool := !DatumOrd.lt b a
theorem sort_enc (l : List α) : (l.map enc).mergeSort leD = (l.mergeSort leO).map enc := (List.map_mergeSort fun a _ b _ => (leD_enc a b).symm).symm
theorem sortOk_enc (l : List α) (hd : Datum.depth α ≤ 60) (ht : (∀ a ∈ l, tup1 (Datum.toD a) = true) ∨ (∀ a ∈ l, flat1 (Datum.toD a) = true)) : sortOk (l.map enc) = true := by
  unfold sortOk
  simp only [Bool.and_eq_true, Bool.or_eq_true, List.all_eq_true, decide_eq_true_eq]
  refine ⟨⟨fun d h => ?_, fun d h e k => ?_⟩, ?_⟩
  · obtain ⟨a, _, rfl⟩ := List.mem_map.mp h
    rw [py, pyE_enc]
    exact ⟨rfl, Nat.le_trans (Datum.depth_le a) hd⟩
  · obtain ⟨a, _, rfl⟩ := List.mem_map.mp h
    obtain ⟨b, _, rfl⟩ := List.mem_map.mp k
    rw [pyE_enc, pyE_enc]
    exact DatumOrd.alike a b
  · rcases ht with ht | ht
    · refine .inl fun d h => ?_
      obtain ⟨a, ha, rfl⟩ := List.mem_map.mp h
      rw [pyE_enc]; exact ht a ha
    · refine .inr fun d h => ?_
      obtain ⟨a, ha, rfl⟩ := List.mem_map.mp h
      rw [pyE_enc]; exact ht a ha
theorem sortD_enc (l : List α) (hl : l.length ≤ 1000000) (hd : Datum.depth α ≤ 60) (ht : (∀ a ∈ l, tup1 (Datum.toD a) = true) ∨ (∀ a ∈ l, flat1 (Datum.toD a) = true)) : sortD (l.map enc) = some ((l.mergeSort leO).map enc) := by
  unfold sortD canSort
  rw [sortOk_enc l hd ht, List.length_map, fits_of hl, sort_enc]
  rfl
end
/-! orders -/
class LOrd (α : Type) [DecidableEq α] [DatumOrd α] : Prop where
  irr : ∀ a : α, DatumOrd.lt a a = false
  tr : ∀ a b c : α, DatumOrd.lt a b = true → DatumOrd.lt b c = true → DatumOrd.lt a c = true
  tri : ∀ a b : α, a = b ∨ DatumOrd.lt a b = true ∨ DatumOrd.lt b a = true
instance : LOrd Int where
  irr a := by show decide (a < a) = false; simp
  tr a b c h1 h2 := by
    have h1 := of_decide_eq_true (show decide (a < b) = true from h1)
    have h2 := of_decide_eq_true (show decide (b < c) = true from h2)
    exact decide_eq_true (by omega)
  tri a b := by
    by_cases h : a = b
    · exact .inl h
    · by_cases k : a < b
      · exact .inr (.inl (decide_eq_true k))
      · exact .inr (.inr (decide_eq_true (by omega)))
section
variable {α β : Type} [DecidableEq α] [DatumOrd α] [LOrd α] [DecidableEq β] [DatumOrd β] [LOrd β]
theorem lt_pair (p q : α × β) : DatumOrd.lt p q = if p.1 = q.1 then DatumOrd.lt p.2 q.2 else DatumOrd.lt p.1 q.1 := rfl
instance : LOrd (α × β) where
  irr a := by rw [lt_pair, if_pos rfl]; exact LOrd.irr _
  tr a b c h1 h2 := by
    rw [lt_pair] at h1 h2 ⊢
    by_cases k1 : a.1 = b.1
    · rw [if_pos k1] at h1
      by_cases k2 : b.1 = c.1
      · rw [if_pos k2] at h2
        rw [if_pos (k1.trans k2)]
        exact LOrd.tr _ _ _ h1 h2
      · rw [if_neg k2] at h2
        rw [if_neg (k1 ▸ k2), k1]; exact h2
    · rw [if_neg k1] at h1
      by_cases k2 : b.1 = c.1
      · rw [if_neg (k2 ▸ k1), ← k2]; exact h1
      · rw [if_neg k2] at h2
        have h3 := LOrd.tr _ _ _ h1 h2
        rw [if_neg]
        · exact h3
        · intro z; rw [z, LOrd.irr] at h3; cases h3
  tri a b := by
    rw [lt_pair, lt_pair]
    by_cases k : a.1 = b.1
    · rw [if_pos k, if_pos k.symm]
      rcases LOrd.tri a.2 b.2 with h | h
      · exact .inl (Prod.ext k h)
      · exact .inr h
    · rw [if_neg k, if_neg (Ne.symm k)]
      rcases LOrd.tri a.1 b.1 with h | h
      · exact absurd h k
      · exact .inr h
theorem lt_list (x y : α) (xs ys : List α) : listLt (x :: xs) (y :: ys) = if x = y then listLt xs ys else DatumOrd.lt x y := rfl
theorem listLt_irr : ∀ l : List α, listLt l l = false
  | [] => rfl
  | x :: xs => by rw [lt_list, if_pos rfl]; exact listLt_irr xs
theorem listLt_tr : ∀ a b c : List α, listLt a b = true → listLt b c = true → listLt a c = true
  | [], [], _, h, _ => nomatch h
  | [], _ :: _, [], _, h => nomatch h
  | [], _ :: _, _ :: _, _, _ => rfl
  | _ :: _, [], _, h, _ => nomatch h
  | _ :: _, _ :: _, [], _, h => nomatch h
  | x :: xs, y :: ys, z :: zs, h1, h2 => by
    rw [lt_list] at h1 h2 ⊢
    by_cases k1 : x = y
    · rw [if_pos k1] at h1
      by_cases k2 : y = z
      · rw [if_pos k2] at h2
        rw [if_pos (k1.trans k2)]
        exact listLt_tr _ _ _ h1 h2
      · rw [if_neg k2] at h2
        rw [if_neg (k1 ▸ k2), k1]; exact h2
    · rw [if_neg k1] at h1
      by_cases k2 : y = z
      · rw [if_neg (k2 ▸ k1), ← k2]; exact h1
      · rw [if_neg k2] at h2
        have h3 := LOrd.tr _ _ _ h1 h2
        rw [if_neg]
        · exact h3
        · intro z; rw [z, LOrd.irr] at h3; cases h3
theorem listLt_tri : ∀ a b : List α, a = b ∨ listLt a b = true ∨ listLt b a = true
  | [], [] => .inl rfl
  | [], _ :: _ => .inr (.inl rfl)
  | _ :: _, [] => .inr (.inr rfl)
  | x :: xs, y :: ys => by
    rw [lt_list, lt_list]
    by_cases k : x = y
    · rw [if_pos k, if_pos k.symm]
      rcases listLt_tri xs ys with h | h
      · exact .inl (by rw [k, h])
      · exact .inr h
    · rw [if_neg k, if_neg (Ne.symm k)]
      rcases LOrd.tri x y with h | h
      · exact absurd h k
      · exact .inr h
instance : LOrd (Tup α) where
  irr a := listLt_irr a.items
  tr a b c h1 h2 := listLt_tr _ _ _ h1 h2
  tri a b := by
    rcases listLt_tri a.items b.items with h | h
    · refine .inl ?_
      cases a; cases b; exact congrArg Tup.mk h
    · exact .inr h
theorem leO_tr (a b c : α) (h1 : leO a b = true) (h2 : leO b c = true) : leO a c = true := by
  unfold leO at *
  simp only [Bool.not_eq_true'] at *
  rcases LOrd.tri b c with h | h | h
  · rw [← h]; exact h1
  · rcases LOrd.tri a b with k | k | k
    · rw [k]; exact h2
    · have := LOrd.tr _ _ _ k h
      cases q : DatumOrd.lt c a with
      | false => rfl
      | true => have := LOrd.tr _ _ _ this q; rw [LOrd.irr] at this; cases this
    · rw [h1] at k; cases k
  · rw [h2] at h; cases h
theorem leO_tot (a b : α) : (leO a b || leO b a) = true := by
  unfold leO
  rcases LOrd.tri a b with h | h | h
  · rw [h, LOrd.irr]; rfl
  · cases q : DatumOrd.lt b a with
    | false => rfl
    | true => have := LOrd.tr _ _ _ h q; rw [LOrd.irr] at this; cases this
  · cases q : DatumOrd.lt a b with
    | false => simp
    | true => have := LOrd.tr _ _ _ h q; rw [LOrd.irr] at this; cases this
theorem leO_anti (a b : α) (h1 : leO a b = true) (h2 : leO b a = true) : a = b := by
  unfold leO at *
  simp only [Bool.not_eq_true'] at *
  rcases LOrd.tri a b with h | h | h
  · exact h
  · rw [h2] at h; cases h
  · rw [h1] at h; cases h
theorem lt_of_le {a b : α} (h : leO a b = true) (n : a ≠ b) : DatumOrd.lt a b = true := by
  unfold leO at h
  simp only [Bool.not_eq_true'] at h
  rcases LOrd.tri a b with k | k | k
  · exact absurd k n
  · exact k
  · rw [h] at k; cases k
theorem sort_pair (l : List α) : (l.mergeSort leO).Pairwise fun a b => leO a b = true := List.pairwise_mergeSort (fun a b c => leO_tr a b c) leO_tot l
theorem sort_perm {l m : List α} (h : l.Perm m) : l.mergeSort leO = m.mergeSort leO :=
  List.Perm.eq_of_pairwise (fun a b _ _ h1 h2 => leO_anti a b h1 h2) (sort_pair l) (sort_pair m) (((List.mergeSort_perm l leO).trans h).trans (List.mergeSort_perm m leO).symm)
theorem sort_uniq {l m : List α} (h : l.Perm m) (hl : l.Pairwise fun a b => leO a b = true) : l = m.mergeSort leO :=
  List.Perm.eq_of_pairwise (fun a b _ _ h1 h2 => leO_anti a b h1 h2) hl (sort_pair m) (h.trans (List.mergeSort_perm m leO).symm)
end
/-! ### rules by shapes -/
@[simp] theorem eqD_int (a b : Int) : eqD (.int a) (.int b) = some (decide (a = b)) := eqD_enc a b (by decide)
theorem eqD_str {a b : Str} (ha : PyData.strOk a = true) (hb : PyData.strOk b = true) : eqD (.str a) (.str b) = some (decide (a = b)) := by
  unfold eqD
  simp only [pyD, SeqAt.shaped, PyData.canLay0, ha, hb, PyData.depth, PyData.eqv, Bool.true_and]
  rw [if_pos ⟨rfl, rfl⟩, beq_decide]
@[simp] theorem eqD_tupI (a b : List Int) : eqD (.tup (dInts a)) (.tup (dInts b)) = some (decide (a = b)) := by
  have h := eqD_enc (Tup.mk a) (Tup.mk b) (by decide)
  rw [show decide (Tup.mk a = Tup.mk b) = decide (a = b) from decide_eq_decide.mpr (by rw [Tup.mk.injEq])] at h
  exact h
@[simp] theorem eqD_lstI (a b : List Int) : eqD (.lst (dInts a)) (.lst (dInts b)) = some (decide (a = b)) := eqD_enc a b (by decide)
@[simp] theorem ordD_int (f : PyData → PyData → Bool) (a b : Int) : ordD f (.int a) (.int b) = some (f (.int a) (.int b)) := ordD_enc f a b (by decide)
@[simp] theorem cm_eq {a b : D} : cmG .eq a b = (optR (eqD a b) >>= fun r => .ok (.bl r)) := rfl
@[simp] theorem cm_ne {a b : D} : cmG .ne a b = (optR ((eqD a b).map (!·)) >>= fun r => .ok (.bl r)) := rfl
@[simp] theorem cm_ltI {a b : Int} : cmG .lt (.int a) (.int b) = .ok (.bl (decide (a < b))) := by
  simp only [cmG, cmD, ordD_int, dataLt_int]; rfl
@[simp] theorem cm_gtI {a b : Int} : cmG .gt (.int a) (.int b) = .ok (.bl (decide (b < a))) := by
  simp only [cmG, cmD, ordD_int, dataLt_int]; rfl
@[simp] theorem cm_geI {a b : Int} : cmG .ge (.int a) (.int b) = .ok (.bl (!decide (a < b))) := by
  simp only [cmG, cmD, ordD_int, dataLt_int]; rfl
@[simp] theorem cm_leI {a b : Int} : cmG .le (.int a) (.int b) = .ok (.bl (!decide (b < a))) := by
  simp only [cmG, cmD, ordD_int, dataLt_int]; rfl
@[simp] theorem truD_bl (b : Bool) : truD (.bl b) = some b := rfl
@[simp] theorem atI_natI {α : Type} (l : List α) (i : Nat) : L2.atI l (i : Int) = l[i]? := by
  by_cases h : i < l.length
  · rw [L2.atI_nat (List.getElem?_eq_getElem h), List.getElem?_eq_getElem h]
  · unfold L2.atI L2.ixN
    rw [if_pos (by omega), if_neg (by omega), List.getElem?_eq_none (by omega)]; rfl
theorem ixN_nat {n i : Nat} (h : i < n) : L2.ixN n (i : Int) = some i := by
  unfold L2.ixN
  rw [if_pos (by omega), if_pos (by omega)]; simp
@[simp] theorem idx_tup (l : List D) (i : Int) : idxD (.tup l) (.int i) = optR (L2.atI l i) := rfl
@[simp] theorem idx_lst (l : List D) (i : Int) : idxD (.lst l) (.int i) = optR (L2.atI l i) := rfl
@[simp] theorem idx_ftup (l : List D) (i : Int) : idxD (.ftup l) (.int i) = optR (L2.atI l i) := rfl
@[simp] theorem idx_scr (l : List D) (i : Int) : idxD (.scr l) (.int i) = optR (L2.atI l i) := rfl
end Dx
/-! runs: steps that go on -/
namespace Dx
theorem run_ret {F : Fns} {f : Fd} {ds : List D} {d : D} (h : ds.length = f.ps) (e : exB F f.body (Dx.start f.n ds) = .ok (.ret d)) : runF F f ds = .ok d := by
  unfold runF
  rw [if_pos h, e]; rfl
theorem run_nx {F : Fns} {f : Fd} {ds : List D} {env : DEnv} (h : ds.length = f.ps) (e : exB F f.body (Dx.start f.n ds) = .ok (.nx env)) : runF F f ds = .ok .non := by
  unfold runF
  rw [if_pos h, e]; rfl
/-- a loop as a fold -/
theorem for_k {F : Fns} {t : Tg} {it : It} {body : List S} {env : DEnv} {G : DEnv → Res Out} {R : Res Out} {α β X : Type} (enc : α → D) (l : List α) (step : β → α → β) (b0 : β) (mk : β → X → DEnv) (s0 : X)
    (hx : forX F it t (exB F body) = forG (evIt F it) (kpIt it) t (exB F body)) (hk : kpIt it env = true) (hit : evIt F it env = .ok (l.map enc)) (he : env = mk b0 s0)
    (hs : ∀ b a s, a ∈ l → ∃ s', (tgD t (enc a) (mk b s) >>= exB F body) = .ok (.nx (mk (step b a) s'))) (k : ∀ s, G (mk (l.foldl step b0) s) = R) : (exS F (.forS t it body) env >>= thenS G) = R := by
  obtain ⟨e1, h1, s1, rfl⟩ := forL_fold (f := fun d env => tgD t d env >>= exB F body) (enc := enc) (step := step) (fun b env => ∃ s, env = mk b s) (l := l) (b := b0) (env := env) ⟨s0, he⟩ (by
    rintro b a _ ha ⟨s, rfl⟩
    obtain ⟨s', h⟩ := hs b a s ha
    exact ⟨_, h, s', rfl⟩)
  rw [exS_for, hx]
  unfold forG
  rw [if_pos hk, hit]
  refine Eq.trans ?_ (k s1)
  show (forL (fun d env => tgD t d env >>= exB F body) (l.map enc) env >>= thenS G) = _
  rw [h1]; rfl
/-- the same with an invariant -/
theorem for_kI {F : Fns} {t : Tg} {it : It} {body : List S} {env : DEnv} {G : DEnv → Res Out} {R : Res Out} {α β X : Type} (enc : α → D) (l : List α) (step : β → α → β) (b0 : β) (mk : β → X → DEnv) (s0 : X) (P : β → Prop)
    (hx : forX F it t (exB F body) = forG (evIt F it) (kpIt it) t (exB F body)) (hk : kpIt it env = true) (hit : evIt F it env = .ok (l.map enc)) (he : env = mk b0 s0) (h0 : P b0)
    (hs : ∀ b a s, a ∈ l → P b → (∃ s', (tgD t (enc a) (mk b s) >>= exB F body) = .ok (.nx (mk (step b a) s'))) ∧ P (step b a)) (k : ∀ s, P (l.foldl step b0) → G (mk (l.foldl step b0) s) = R) : (exS F (.forS t it body) env >>= thenS G) = R := by
  obtain ⟨e1, h1, ⟨s1, rfl⟩, h3⟩ := forL_fold (f := fun d env => tgD t d env >>= exB F body) (enc := enc) (step := step) (fun b env => (∃ s, env = mk b s) ∧ P b) (l := l) (b := b0) (env := env) ⟨⟨s0, he⟩, h0⟩ (by
    rintro b a _ ha ⟨⟨s, rfl⟩, hp⟩
    obtain ⟨⟨s', h⟩, h2⟩ := hs b a s ha hp
    exact ⟨_, h, ⟨s', rfl⟩, h2⟩)
  rw [exS_for, hx]
  unfold forG
  rw [if_pos hk, hit]
  refine Eq.trans ?_ (k s1 h3)
  show (forL (fun d env => tgD t d env >>= exB F body) (l.map enc) env >>= thenS G) = _
  rw [h1]; rfl
theorem forL_foldN {α β : Type} {f : D → DEnv → Res Out} {enc : α → D} {step : β → α → β} (I : Nat → β → DEnv → Prop) : ∀ {l : List α} {n : Nat} {b : β} {env : DEnv}, I n b env →
    (∀ j b a env, l[j]? = some a → I (n + j) b env → ∃ env', f (enc a) env = .ok (.nx env') ∧ I (n + j + 1) (step b a) env') → ∃ env', forL f (l.map enc) env = .ok (.nx env') ∧ I (n + l.length) (l.foldl step b) env'
  | [], n, b, env, h, _ => ⟨env, rfl, h⟩
  | a :: l, n, b, env, h, hs => by
    obtain ⟨e1, h1, h2⟩ := hs 0 b a env rfl h
    obtain ⟨e2, h3, h4⟩ := forL_foldN I (l := l) (n := n + 1) h2 fun j b a' env ha hi => by
      have := hs (j + 1) b a' env (by simpa using ha) (by rw [show n + (j + 1) = n + 1 + j by omega]; exact hi)
      rw [show n + (j + 1) + 1 = n + 1 + j + 1 by omega] at this
      exact this
    refine ⟨e2, ?_, by rw [show n + (a :: l).length = n + 1 + l.length by simp; omega]; exact h4⟩
    show (f (enc a) env >>= fun o => match o with | .nx e => forL f (l.map enc) e | .ct e => forL f (l.map enc) e | .bk e => .ok (.nx e) | .ret r => .ok (.ret r)) = _
    rw [h1]
    exact h3
/-- the same, the invariant knows the turn -/
theorem for_kN {F : Fns} {t : Tg} {it : It} {body : List S} {env : DEnv} {G : DEnv → Res Out} {R : Res Out} {α β X : Type} (enc : α → D) (l : List α) (step : β → α → β) (b0 : β) (mk : β → X → DEnv) (s0 : X) (P : Nat → β → Prop)
    (hx : forX F it t (exB F body) = forG (evIt F it) (kpIt it) t (exB F body)) (hk : kpIt it env = true) (hit : evIt F it env = .ok (l.map enc)) (he : env = mk b0 s0) (h0 : P 0 b0)
    (hs : ∀ j b a s, l[j]? = some a → P j b → (∃ s', (tgD t (enc a) (mk b s) >>= exB F body) = .ok (.nx (mk (step b a) s'))) ∧ P (j + 1) (step b a)) (k : ∀ s, P l.length (l.foldl step b0) → G (mk (l.foldl step b0) s) = R) : (exS F (.forS t it body) env >>= thenS G) = R := by
  obtain ⟨e1, h1, ⟨s1, rfl⟩, h3⟩ := forL_foldN (f := fun d env => tgD t d env >>= exB F body) (enc := enc) (step := step) (fun j b env => (∃ s, env = mk b s) ∧ P j b) (l := l) (n := 0) (b := b0) (env := env) ⟨⟨s0, he⟩, h0⟩ (by
    rintro j b a _ ha ⟨⟨s, rfl⟩, hp⟩
    rw [Nat.zero_add] at hp ⊢
    obtain ⟨⟨s', h⟩, h2⟩ := hs j b a s ha hp
    exact ⟨_, h, ⟨s', rfl⟩, h2⟩)
  rw [Nat.zero_add] at h3
  rw [exS_for, hx]
  unfold forG
  rw [if_pos hk, hit]
  refine Eq.trans ?_ (k s1 h3)
  show (forL (fun d env => tgD t d env >>= exB F body) (l.map enc) env >>= thenS G) = _
  rw [h1]; rfl
/-- a loop over a dict's keys or items -/
theorem dct_kI {F : Fns} {items : Bool} {i : Nat} {t : Tg} {body : List S} {env : DEnv} {G : DEnv → Res Out} {R : Res Out} {α β X : Type} {tt : Bool} {ks vs : List D} (it : It) (enc : α → D) (l : List α) (step : β → α → β) (b0 : β) (mk : β → X → DEnv) (s0 : X) (P : β → Prop)
    (hx : forX F it t (exB F body) = forDG items i t (exB F body)) (hd : env[i]? = some (.sh (.dct tt ks vs))) (hit : dctL items ks vs = l.map enc) (he : env = mk b0 s0) (h0 : P b0)
    (hs : ∀ b a s, a ∈ l → P b → (∃ s', (tgD t (enc a) (mk b s) >>= exB F body) = .ok (.nx (mk (step b a) s'))) ∧ P (step b a)) (k : ∀ s, P (l.foldl step b0) → G (mk (l.foldl step b0) s) = R) : (exS F (.forS t it body) env >>= thenS G) = R := by
  obtain ⟨e1, h1, ⟨s1, rfl⟩, h3⟩ := forL_fold (f := fun d env => tgD t d env >>= exB F body) (enc := enc) (step := step) (fun b env => (∃ s, env = mk b s) ∧ P b) (l := l) (b := b0) (env := env) ⟨⟨s0, he⟩, h0⟩ (by
    rintro b a _ ha ⟨⟨s, rfl⟩, hp⟩
    obtain ⟨⟨s', h⟩, h2⟩ := hs b a s ha hp
    exact ⟨_, h, ⟨s', rfl⟩, h2⟩)
  rw [exS_for, hx]
  unfold forDG
  rw [hd]
  refine Eq.trans ?_ (k s1 h3)
  show (noExc (forL (fun d env => tgD t d env >>= exB F body) (dctL items ks vs) env) >>= thenS G) = _
  rw [hit, h1]; rfl
/-- a loop within a loop -/
theorem for_ex {F : Fns} {t : Tg} {it : It} {body : List S} {env : DEnv} {α β X : Type} (enc : α → D) (l : List α) (step : β → α → β) (b0 : β) (mk : β → X → DEnv) (s0 : X) (P : Nat → β → Prop)
    (hx : forX F it t (exB F body) = forG (evIt F it) (kpIt it) t (exB F body)) (hk : kpIt it env = true) (hit : evIt F it env = .ok (l.map enc)) (he : env = mk b0 s0) (h0 : P 0 b0)
    (hs : ∀ j b a s, l[j]? = some a → P j b → (∃ s', (tgD t (enc a) (mk b s) >>= exB F body) = .ok (.nx (mk (step b a) s'))) ∧ P (j + 1) (step b a)) : ∃ s, exB F [.forS t it body] env = .ok (.nx (mk (l.foldl step b0) s)) ∧ P l.length (l.foldl step b0) := by
  obtain ⟨e1, h1, ⟨s1, rfl⟩, h3⟩ := forL_foldN (f := fun d env => tgD t d env >>= exB F body) (enc := enc) (step := step) (fun j b env => (∃ s, env = mk b s) ∧ P j b) (l := l) (n := 0) (b := b0) (env := env) ⟨⟨s0, he⟩, h0⟩ (by
    rintro j b a _ ha ⟨⟨s, rfl⟩, hp⟩
    rw [Nat.zero_add] at hp ⊢
    obtain ⟨⟨s', h⟩, h2⟩ := hs j b a s ha hp
    exact ⟨_, h, ⟨s', rfl⟩, h2⟩)
  rw [Nat.zero_add] at h3
  refine ⟨s1, ?_, h3⟩
  rw [exB_cons, exS_for, hx]
  unfold forG
  rw [if_pos hk, hit]
  show (forL (fun d env => tgD t d env >>= exB F body) (l.map enc) env >>= thenS (exB F [])) = _
  rw [h1]; rfl
theorem dct_ex {F : Fns} {items : Bool} {i : Nat} {t : Tg} {body : List S} {env : DEnv} {α β X : Type} {tt : Bool} {ks vs : List D} (it : It) (enc : α → D) (l : List α) (step : β → α → β) (b0 : β) (mk : β → X → DEnv) (s0 : X) (P : Nat → β → Prop)
    (hx : forX F it t (exB F body) = forDG items i t (exB F body)) (hd : env[i]? = some (.sh (.dct tt ks vs))) (hit : dctL items ks vs = l.map enc) (he : env = mk b0 s0) (h0 : P 0 b0)
    (hs : ∀ j b a s, l[j]? = some a → P j b → (∃ s', (tgD t (enc a) (mk b s) >>= exB F body) = .ok (.nx (mk (step b a) s'))) ∧ P (j + 1) (step b a)) : ∃ s, exB F [.forS t it body] env = .ok (.nx (mk (l.foldl step b0) s)) ∧ P l.length (l.foldl step b0) := by
  obtain ⟨e1, h1, ⟨s1, rfl⟩, h3⟩ := forL_foldN (f := fun d env => tgD t d env >>= exB F body) (enc := enc) (step := step) (fun j b env => (∃ s, env = mk b s) ∧ P j b) (l := l) (n := 0) (b := b0) (env := env) ⟨⟨s0, he⟩, h0⟩ (by
    rintro j b a _ ha ⟨⟨s, rfl⟩, hp⟩
    rw [Nat.zero_add] at hp ⊢
    obtain ⟨⟨s', h⟩, h2⟩ := hs j b a s ha hp
    exact ⟨_, h, ⟨s', rfl⟩, h2⟩)
  rw [Nat.zero_add] at h3
  refine ⟨s1, ?_, h3⟩
  rw [exB_cons, exS_for, hx]
  unfold forDG
  rw [hd]
  show (noExc (forL (fun d env => tgD t d env >>= exB F body) (dctL items ks vs) env) >>= thenS (exB F [])) = _
  rw [hit, h1]; rfl
/-- a loop whose body only looks: it goes through, or returns at the first that p finds -/
theorem for_see {F : Fns} {t : Tg} {it : It} {body : List S} {env : DEnv} {G : DEnv → Res Out} {R : Res Out} {α X : Type} (enc : α → D) (l : List α) (p : α → Option D) (mk : X → DEnv) (s0 : X)
    (hx : forX F it t (exB F body) = forG (evIt F it) (kpIt it) t (exB F body)) (hk : kpIt it env = true) (hit : evIt F it env = .ok (l.map enc)) (he : env = mk s0)
    (hs : ∀ a s, a ∈ l → match p a with | some d => (tgD t (enc a) (mk s) >>= exB F body) = .ok (.ret d) | none => ∃ s', (tgD t (enc a) (mk s) >>= exB F body) = .ok (.nx (mk s')))
    (k1 : ∀ d, l.findSome? p = some d → R = .ok (.ret d)) (k2 : l.findSome? p = none → ∀ s, G (mk s) = R) : (exS F (.forS t it body) env >>= thenS G) = R := by
  have h := forL_find (f := fun d env => tgD t d env >>= exB F body) (enc := enc) p (fun env => ∃ s, env = mk s) (l := l) (env := env) ⟨s0, he⟩ (by
    rintro a _ ha ⟨s, rfl⟩
    have := hs a s ha
    cases q : p a with
    | some d => rw [q] at this; exact this
    | none => rw [q] at this; obtain ⟨s', h⟩ := this; exact ⟨_, .inl h, s', rfl⟩)
  rw [exS_for, hx]
  unfold forG
  rw [if_pos hk, hit]
  cases q : l.findSome? p with
  | some d =>
    rw [q] at h
    rw [k1 d q]
    show (forL (fun d env => tgD t d env >>= exB F body) (l.map enc) env >>= thenS G) = _
    have h : forL _ _ _ = .ok (.ret d) := h
    rw [h]; rfl
  | none =>
    rw [q] at h
    obtain ⟨e1, h1, s1, rfl⟩ := h
    refine Eq.trans ?_ (k2 q s1)
    show (forL (fun d env => tgD t d env >>= exB F body) (l.map enc) env >>= thenS G) = _
    rw [h1]; rfl
/-! steps -/
theorem exB_eq {F : Fns} {s : S} {l : List S} {env env1 : DEnv} {R : Res Out} (h : exS F s env = .ok (.nx env1)) (k : exB F l env1 = R) : exB F (s :: l) env = R := by
  rw [exB_cons, h]; exact k
theorem st_more {F : Fns} {s : S} {l : List S} {env env1 : DEnv} {R : Res Out} (h : exB F [s] env = .ok (.nx env1)) (k : exB F l env1 = R) : exB F (s :: l) env = R := by
  refine exB_eq ?_ k
  rw [exB_cons] at h
  cases q : exS F s env with
  | ok o =>
    rw [q] at h
    cases o with
    | nx e =>
      have h : (Res.ok (Out.nx e) : Res Out) = .ok (.nx env1) := h
      rw [h]
    | ret d => cases h
    | bk e => cases h
    | ct e => cases h
  | exc n => rw [q] at h; cases h
  | bad => rw [q] at h; cases h
theorem st_name {F : Fns} {i : Nat} {e : E} {l : List S} {env : DEnv} {R : Res Out} (x : D) (hk : kp e env = true) (h : evE F e env = .ok x) (k : exB F l (env.set i (.sh x)) = R) : exB F (.asg (.name i) e :: l) env = R :=
  exB_eq (by rw [exS_asg]; unfold asgG; rw [if_pos hk, h]; rfl) k
theorem st_asg {F : Fns} {t : Tg} {e : E} {l : List S} {env env1 : DEnv} {R : Res Out} (x : D) (hk : kp e env = true) (h : evE F e env = .ok x) (ht : tgD t x env = .ok env1) (k : exB F l env1 = R) : exB F (.asg t e :: l) env = R :=
  exB_eq (by rw [exS_asg]; unfold asgG; rw [if_pos hk, h]; show (tgD t x env >>= fun e => _) = _; rw [ht]; rfl) k
theorem st_fresh {F : Fns} {i : Nat} {e : E} {l : List S} {env : DEnv} {R : Res Out} (x : D) (s : Slot) (h : evE F e env = .ok x) (hs : Dx.ownOf x = .ok s) (k : exB F l (env.set i s) = R) : exB F (.fresh i e :: l) env = R :=
  exB_eq (by rw [exS_fresh]; unfold newG; rw [h]; show (Dx.ownOf x >>= fun e => _) = _; rw [hs]; rfl) k
theorem st_ret {F : Fns} {e : E} {l : List S} {env : DEnv} {x : D} (hk : kp e env = true) (h : evE F e env = .ok x) : exB F (.ret (some e) :: l) env = .ok (.ret x) := by
  rw [exB_cons, exS_ret]; unfold retG; rw [if_pos hk, h]; rfl
theorem st_ifT {F : Fns} {c : Tst} {a b l : List S} {env : DEnv} {R : Res Out} (h : evT F c env = .ok true) (k : (exB F a env >>= thenS (exB F l)) = R) : exB F (.ifS c a b :: l) env = R := by
  rw [exB_cons, exS_if, h]; exact k
theorem st_ifF {F : Fns} {c : Tst} {a b l : List S} {env : DEnv} {R : Res Out} (h : evT F c env = .ok false) (k : (exB F b env >>= thenS (exB F l)) = R) : exB F (.ifS c a b :: l) env = R := by
  rw [exB_cons, exS_if, h]; exact k
theorem st_ifF0 {F : Fns} {c : Tst} {a l : List S} {env : DEnv} {R : Res Out} (h : evT F c env = .ok false) (k : exB F l env = R) : exB F (.ifS c a [] :: l) env = R := by
  rw [exB_cons, exS_if, h]; exact k
theorem st_expr {F : Fns} {e : E} {l : List S} {env : DEnv} {R : Res Out} (x : D) (h : evE F e env = .ok x) (k : exB F l env = R) : exB F (.expr e :: l) env = R :=
  exB_eq (by rw [exS_expr, h]; rfl) k
theorem st_frz {F : Fns} {i : Nat} {l : List S} {env : DEnv} {R : Res Out} (k : exB F l (frzD i env) = R) : exB F (.frz i :: l) env = R := exB_eq rfl k
theorem st_app {F : Fns} {i : Nat} {e : E} {l : List S} {env : DEnv} {R : Res Out} (ds : List D) (x : D) (ho : env[i]? = some (.own ds)) (hk : kp e env = true) (h : evE F e env = .ok x) (hl : ds.length ≤ 1000000) (k : exB F l (env.set i (.own (ds ++ [x]))) = R) : exB F (.app i e :: l) env = R :=
  exB_eq (by
    rw [exS_app]; unfold appG; rw [ho]
    show (if kp e env = true then _ else _) = _
    rw [if_pos hk, h]
    show (if decide (ds.length < PySem.sizeLine) = true then _ else _) = _
    rw [if_pos (decide_eq_true (by rw [PySem.sizeLine_eq]; omega))]) k
theorem st_put {F : Fns} {i : Nat} {ek e : E} {l : List S} {env : DEnv} {R : Res Out} {t : Bool} (ks vs : List D) (y x : D) (ho : env[i]? = some (.ownD t ks vs)) (hk : kp e env = true) (h : evE F e env = .ok x) (h2 : evE F ek env = .ok y) (hf : fitK t y = true) (hl : ks.length ≤ 1000000)
    (k : exB F l (env.set i (.ownD t (putL ks vs y x).1 (putL ks vs y x).2)) = R) : exB F (.put i ek e :: l) env = R :=
  exB_eq (by
    rw [exS_put]; unfold putG; rw [ho]
    show (if kp e env = true then _ else _) = _
    rw [if_pos hk, h]
    show (evE F ek env >>= fun y => _) = _
    rw [h2]
    show (if (fitK t y && decide (ks.length < PySem.sizeLine)) = true then _ else _) = _
    rw [if_pos (by rw [hf, Bool.true_and]; exact decide_eq_true (by rw [PySem.sizeLine_eq]; omega))]) k
theorem st_augI {F : Fns} {i : Nat} {ek e : E} {l : List S} {env : DEnv} {R : Res Out} (ds : List D) (j : Nat) (a b : Int) (ho : env[i]? = some (.own ds)) (h2 : evE F ek env = .ok (.int (j : Int))) (ha : ds[j]? = some (.int a)) (h : evE F e env = .ok (.int b))
    (k : exB F l (env.set i (.own (ds.set j (.int (a + b))))) = R) : exB F (.augI i ek e :: l) env = R :=
  exB_eq (by
    rw [exS_augI]; unfold augIG; rw [ho]
    show (evE F ek env >>= fun y => _) = _
    rw [h2]
    show (match L2.ixN ds.length (j : Int) with | some j => _ | none => _) = _
    rw [ixN_nat (List.getElem?_eq_some_iff.mp ha).1]
    show (match ds[j]? with | some (.int a) => _ | _ => _) = _
    rw [ha]
    show (evE F e env >>= fun y => _) = _
    rw [h]; rfl) k
theorem st_par2 {F : Fns} {i j : Nat} {a b : E} {l : List S} {env : DEnv} {R : Res Out} (x y : D) (ka : kp a env = true) (kb : kp b env = true) (ha : evE F a env = .ok x) (hb : evE F b env = .ok y) (k : exB F l ((env.set i (.sh x)).set j (.sh y)) = R) : exB F (.par [(i, false, a), (j, false, b)] :: l) env = R :=
  exB_eq (by
    rw [exS_par]
    show (if kp a env = true then (evE F a env >>= fun x => if kp b env = true then (evE F b env >>= fun y => _) else Res.bad) else Res.bad) = _
    rw [if_pos ka, ha]
    show (if kp b env = true then (evE F b env >>= fun y => _) else Res.bad) = _
    rw [if_pos kb, hb]; rfl) k
theorem st_par3T {F : Fns} {i j m : Nat} {l : List S} {env : DEnv} {R : Res Out} (k : exB F l (((env.set i (.ownD true [] [])).set j (.ownD true [] [])).set m (.ownD true [] [])) = R) : exB F (.par [(i, true, .newT), (j, true, .newT), (m, true, .newT)] :: l) env = R :=
  exB_eq (by rw [exS_par]; rfl) k
theorem st_for {F : Fns} {t : Tg} {it : It} {b l : List S} {env : DEnv} {R : Res Out} (k : (exS F (.forS t it b) env >>= thenS (exB F l)) = R) : exB F (.forS t it b :: l) env = R := by rw [exB_cons]; exact k
theorem ev_bi1 {F : Fns} {f : Bi} {a : E} {env : DEnv} (x : D) {r : Res D} (h : evE F a env = .ok x) (k : biD f [x] = r) : evE F (.bi f [a]) env = r := by
  rw [evE_bi, evL_cons, h, evL_nil]; exact k
theorem bi_sorted {ds es : List D} (h : sortD ds = some es) : biD .sorted [.lst ds] = .ok (.lst es) := by
  show (match sortD ds with | some es => Res.ok (D.lst es) | none => .bad) = _
  rw [h]
/-- a call -/
theorem ev_call1 {F : Fns} {f : Nat} {a : E} {env : DEnv} (x : D) {r : Res D} (hk : kp a env = true) (h : evE F a env = .ok x) (k : F f [x] = r) : evE F (.call f [a]) env = r := by
  simp only [evE_call, callG, kpAll_cons, hk, kpAll_nil, Bool.and_true, if_true, evL_cons, h, Res.bind_ok, evL_nil, k]
theorem ev_call2 {F : Fns} {f : Nat} {a b : E} {env : DEnv} (x y : D) {r : Res D} (hk : kp a env = true) (hk2 : kp b env = true) (h : evE F a env = .ok x) (h2 : evE F b env = .ok y) (k : F f [x, y] = r) : evE F (.call f [a, b]) env = r := by
  simp only [evE_call, callG, kpAll_cons, hk, hk2, kpAll_nil, Bool.and_true, if_true, evL_cons, h, h2, Res.bind_ok, evL_nil, k]
theorem ev_call3 {F : Fns} {f : Nat} {a b c : E} {env : DEnv} (x y z : D) {r : Res D} (hk : kp a env = true) (hk2 : kp b env = true) (hk3 : kp c env = true) (h : evE F a env = .ok x) (h2 : evE F b env = .ok y) (h3 : evE F c env = .ok z) (k : F f [x, y, z] = r) : evE F (.call f [a, b, c]) env = r := by
  simp only [evE_call, callG, kpAll_cons, hk, hk2, hk3, kpAll_nil, Bool.and_true, if_true, evL_cons, h, h2, h3, Res.bind_ok, evL_nil, k]
/-- a comprehension as a map, a filter -/
theorem lc_map {F : Fns} {elt : E} {t : Tg} {it : It} {cs : List Tst} {own : List Nat} {env : DEnv} {α : Type} (enc : α → D) (l : List α) (g : α → D) (hi : evIt F it env = .ok (l.map enc)) (hl : l.length ≤ 1000000)
    (h : ∀ a ∈ l, lcT t (evCs F cs) (evE F elt) (kp elt) (enc a) (wipeE env own) = .ok (some (g a))) : evE F (.lc elt t it cs own) env = .ok (.lst (l.map g)) := by
  rw [evE_lc]
  unfold lcG
  rw [hi]
  show (if fits (l.map enc).length = true then _ else _) = _
  rw [List.length_map, fits_of hl, if_pos rfl, turns_map h]; rfl
theorem lc_filter {F : Fns} {elt : E} {t : Tg} {it : It} {cs : List Tst} {own : List Nat} {env : DEnv} {α : Type} (enc : α → D) (l : List α) (p : α → Bool) (g : α → D) (hi : evIt F it env = .ok (l.map enc)) (hl : l.length ≤ 1000000)
    (h : ∀ a ∈ l, lcT t (evCs F cs) (evE F elt) (kp elt) (enc a) (wipeE env own) = .ok (if p a = true then some (g a) else none)) : evE F (.lc elt t it cs own) env = .ok (.lst ((l.filter p).map g)) := by
  rw [evE_lc]
  unfold lcG
  rw [hi]
  show (if fits (l.map enc).length = true then _ else _) = _
  rw [List.length_map, fits_of hl, if_pos rfl, turns_filter h]; rfl
theorem all_all {F : Fns} {elt : E} {t : Tg} {it : It} {cs : List Tst} {own : List Nat} {env : DEnv} {α : Type} (enc : α → D) (l : List α) (p : α → Bool) (hi : evIt F it env = .ok (l.map enc))
    (h : ∀ a ∈ l, lcT t (evCs F cs) (evE F elt) (fun _ => true) (enc a) (wipeE env own) = .ok (some (.bl (p a)))) : evE F (.allG false elt t it cs own) env = .ok (.bl (l.all p)) := by
  rw [evE_allG]
  unfold allG
  rw [hi]
  show (allT false _ _ _ >>= fun r => _) = _
  rw [allT_all h]; rfl
theorem rng_nat (n : Nat) (h : n ≤ 1000000) : rngG [.int (n : Int)] = .ok ((List.range n).map fun i => D.int (i : Nat)) := by
  have h : inR (n : Int) = true := inR_small (by omega) (by omega)
  simp only [rngG, h, if_true, rangeD_eq]
theorem bind_okN {α β : Type} (a : α) (f : α → Res β) : ((Res.ok a) >>= f) = f a := Eq.trans rfl rfl
theorem ev_rng1 {F : Fns} {a : E} {env : DEnv} {n : Nat} (h : evE F a env = .ok (.int (n : Int))) (hn : n ≤ 1000000) : evIt F (.rng [a]) env = .ok ((List.range n).map fun i => D.int (i : Nat)) := by
  rw [evIt_rng, evL_cons, h, evL_nil]
  rw [bind_okN, bind_okN, bind_okN]
  rw [rng_nat n hn]
theorem ev_revR1 {F : Fns} {a : E} {env : DEnv} {n : Nat} (h : evE F a env = .ok (.int (n : Int))) (hn : n ≤ 1000000) : evIt F (.revR [a]) env = .ok ((List.range n).reverse.map fun i => D.int (i : Nat)) := by
  rw [evIt_revR, evL_cons, h, evL_nil]
  rw [bind_okN, bind_okN, bind_okN]
  have h : inR (n : Int) = true := inR_small (by omega) (by omega)
  simp only [revRG, h, if_true, rangeD_eq, List.map_reverse]
theorem ev_rngDown {F : Fns} {a b c : E} {env : DEnv} {n : Nat} (h : evE F a env = .ok (.int ((n : Int) - 1))) (h2 : evE F b env = .ok (.int (-1))) (h3 : evE F c env = .ok (.int (-1))) (hn : n ≤ 1000000) : evIt F (.rng [a, b, c]) env = .ok ((List.range n).reverse.map fun i => D.int (i : Nat)) := by
  rw [evIt_rng, evL_cons, h, evL_cons, h2, evL_cons, h3, evL_nil]
  repeat rw [bind_okN]
  have h1 : inR ((n : Int) - 1) = true := by
    unfold Dx.inR
    simp only [Bool.and_eq_true, decide_eq_true_eq]
    omega
  have h2 : inR (-1) = true := by
    unfold Dx.inR
    simp only [Bool.and_eq_true, decide_eq_true_eq]
    omega
  simp only [rngG, h1, h2, Bool.and_self, decide_true, if_true]
  congr 1
  unfold downD
  rw [show ((n : Int) - 1 - -1).toNat = n by omega]
  apply List.ext_getElem
  · simp
  · intro i h1 h2
    simp at h1 h2 ⊢
    omega
@[simp] theorem biD_len_tup {l : List D} : biD .len [.tup l] = .ok (.int l.length) := rfl
@[simp] theorem biD_len_lst {l : List D} : biD .len [.lst l] = .ok (.int l.length) := rfl
@[simp] theorem biD_len_ftup {l : List D} : biD .len [.ftup l] = .ok (.int l.length) := rfl
@[simp] theorem biD_len_scr {l : List D} : biD .len [.scr l] = .ok (.int l.length) := rfl
@[simp] theorem biD_tuple_lst {l : List D} : biD .tuple [.lst l] = .ok (.tup l) := rfl
@[simp] theorem biD_tuple_tup {l : List D} : biD .tuple [.tup l] = .ok (.tup l) := rfl
@[simp] theorem biD_list_lst {l : List D} : biD .list [.lst l] = .ok (.lst l) := rfl
@[simp] theorem biD_list_tup {l : List D} : biD .list [.tup l] = .ok (.lst l) := rfl
@[simp] theorem biD_int {i : Int} : biD .int [.int i] = .ok (.int i) := rfl
@[simp] theorem biD_max2 {i j : Int} : biD .max [.int i, .int j] = .ok (.int (if j > i then j else i)) := rfl
@[simp] theorem opD_add {i j : Int} : opD .add (.int i) (.int j) = .ok (.int (i + j)) := rfl
@[simp] theorem opD_sub {i j : Int} : opD .sub (.int i) (.int j) = .ok (.int (i - j)) := rfl
@[simp] theorem opD_mul {i j : Int} : opD .mul (.int i) (.int j) = if small i || small j then .ok (.int (i * j)) else .bad := rfl
@[simp] theorem opD_mod {i j : Int} : opD .mod (.int i) (.int j) = if decide (j ≠ 0) then .ok (.int (i.fmod j)) else .bad := rfl
@[simp] theorem opD_addS {x y : PySem.Str} : opD .add (.str x) (.str y) = if fits (x.length + y.length) then .ok (.str (x ++ y)) else .bad := rfl
@[simp] theorem opD_addT {x y : List D} : opD .add (.tup x) (.tup y) = if fits (x.length + y.length) then .ok (.tup (x ++ y)) else .bad := rfl
@[simp] theorem opD_addL {x y : List D} : opD .add (.lst x) (.lst y) = if fits (x.length + y.length) then .ok (.lst (x ++ y)) else .bad := rfl
@[simp] theorem litD_int {i : Int} : litD (.int i) = .int i := rfl
@[simp] theorem litD_str {i : PySem.Str} : litD (.str i) = .str i := rfl
@[simp] theorem litD_non : litD .non = .non := rfl
@[simp] theorem litD_bl {b : Bool} : litD (.bl b) = .bl b := rfl
@[simp] theorem items_tup {l : List D} : items? (.tup l) = some l := rfl
@[simp] theorem items_lst {l : List D} : items? (.lst l) = some l := rfl
@[simp] theorem items_ftup {l : List D} : items? (.ftup l) = some l := rfl
@[simp] theorem g1I_int {f : Int → Res D} {i : Int} : g1I f (.int i) = f i := rfl
@[simp] theorem getS_0 {s : Slot} {env : DEnv} : getS (s :: env) 0 = (match s with | .sh d => .ok d | .own ds => .ok (.lst ds) | .ownD t ks vs => .ok (.dct t ks vs) | .none => .bad) := by
  unfold getS; cases s <;> rfl
@[simp] theorem getS_S {s : Slot} {env : DEnv} {i : Nat} : getS (s :: env) (i + 1) = getS env i := by
  unfold getS; simp
@[simp] theorem ownOf_lst {l : List D} : Dx.ownOf (.lst l) = .ok (.own l) := rfl
@[simp] theorem ownOf_dct {t : Bool} {k v : List D} : Dx.ownOf (.dct t k v) = .ok (.ownD t k v) := rfl
end Dx
namespace K26
open PySem Dx
/-- enough turns for any loop here -/
def fuel : Nat := 1000000
/-- is_number(value, low) -/
def d_is_number : Fd := ⟨2, 2, [.ret (some (.andE (.bi .isInt [.var 0]) (.andE (.not (.bi .isBool [.var 0])) (.orE (.cmp .isN (.var 1) (.lit .non)) (.cmp .ge (.var 0) (.var 1))))))]⟩
def n_is_number : List Str := ["value", "low"]
def F_is_number : Fns := fun i => match i with  | _ => fun _ => .bad
abbrev c_is_number : List Str := []
abbrev a_is_number : List Nat := []
def g_is_number : List D → Res D := runF F_is_number d_is_number
/-- trimmed(row) -/
def d_trimmed : Fd := ⟨1, 1, [.fresh 0 (.bi .list [.var 0]), .whileS fuel (.and (.e (.cmp .gt (.bi .len [.var 0]) (.lit (.int 0)))) (.e (.cmp .eq (.idx (.var 0) (.neg (.lit (.int 1)))) (.lit (.int 0))))) [.pop 0], .ret (some (.bi .tuple [.var 0]))]⟩
def n_trimmed : List Str := ["row"]
def F_trimmed : Fns := fun i => match i with  | _ => fun _ => .bad
abbrev c_trimmed : List Str := []
abbrev a_trimmed : List Nat := []
def g_trimmed : List D → Res D := runF F_trimmed d_trimmed
/-- plus(first, second) -/
def d_plus : Fd := ⟨2, 5, [.asg (.name 2) (.bi .max [.bi .len [.var 0], .bi .len [.var 1]]), .asg (.name 0) (.bin .add (.bi .tuple [.var 0]) (.bin .mul (.tup [.lit (.int 0)]) (.bin .sub (.var 2) (.bi .len [.var 0])))), .asg (.name 1) (.bin .add (.bi .tuple [.var 1]) (.bin .mul (.tup [.lit (.int 0)]) (.bin .sub (.var 2) (.bi .len [.var 1])))), .ret (some (.call 0 [.lc (.bin .add (.var 3) (.var 4)) (.tup [.name 3, .name 4]) (.zip (.var 0) (.var 1)) [] [3, 4]]))]⟩
def n_plus : List Str := ["first", "second", "many", "one", "two"]
def F_plus : Fns := fun i => match i with | 0 => g_trimmed | _ => fun _ => .bad
abbrev c_plus : List Str := ["trimmed"]
abbrev a_plus : List Nat := [1]
def g_plus : List D → Res D := runF F_plus d_plus
/-- scaled(row, number) -/
def d_scaled : Fd := ⟨2, 3, [.ret (some (.call 0 [.lc (.bin .mul (.var 2) (.var 1)) (.name 2) (.seq (.var 0)) [] [2]]))]⟩
def n_scaled : List Str := ["row", "number", "one"]
def F_scaled : Fns := fun i => match i with | 0 => g_trimmed | _ => fun _ => .bad
abbrev c_scaled : List Str := ["trimmed"]
abbrev a_scaled : List Nat := [1]
def g_scaled : List D → Res D := runF F_scaled d_scaled
/-- times(first, second) -/
def d_times : Fd := ⟨2, 7, [.ifS (.or (.e (.cmp .eq (.bi .len [.var 0]) (.lit (.int 0)))) (.e (.cmp .eq (.bi .len [.var 1]) (.lit (.int 0))))) [.ret (some (.tup []))] [], .fresh 2 (.bin .mul (.lst [.lit (.int 0)]) (.bin .sub (.bin .add (.bi .len [.var 0]) (.bi .len [.var 1])) (.lit (.int 1)))), .forS (.tup [.name 3, .name 4]) (.enum (.var 0)) [.forS (.tup [.name 5, .name 6]) (.enum (.var 1)) [.augI 2 (.bin .add (.var 3) (.var 5)) (.bin .mul (.var 4) (.var 6))]], .frz 2, .ret (some (.call 0 [.var 2]))]⟩
def n_times : List Str := ["first", "second", "row", "i", "one", "k", "two"]
def F_times : Fns := fun i => match i with | 0 => g_trimmed | _ => fun _ => .bad
abbrev c_times : List Str := ["trimmed"]
abbrev a_times : List Nat := [1]
def g_times : List D → Res D := runF F_times d_times
/-- power(row, number) -/
def d_power : Fd := ⟨2, 4, [.asg (.name 2) (.tup [.lit (.int 1)]), .forS (.name 3) (.rng [.var 1]) [.asg (.name 2) (.call 0 [.var 2, .var 0])], .ret (some (.var 2))]⟩
def n_power : List Str := ["row", "number", "found", "step"]
def F_power : Fns := fun i => match i with | 0 => g_times | _ => fun _ => .bad
abbrev c_power : List Str := ["times"]
abbrev a_power : List Nat := [2]
def g_power : List D → Res D := runF F_power d_power
/-- worth(row, number) -/
def d_worth : Fd := ⟨2, 4, [.asg (.name 2) (.lit (.int 0)), .forS (.name 3) (.rev (.var 0)) [.asg (.name 2) (.bin .add (.bin .mul (.var 2) (.var 1)) (.var 3))], .ret (some (.var 2))]⟩
def n_worth : List Str := ["row", "number", "total", "one"]
def F_worth : Fns := fun i => match i with  | _ => fun _ => .bad
abbrev c_worth : List Str := []
abbrev a_worth : List Nat := []
def g_worth : List D → Res D := runF F_worth d_worth
/-- put_in(row, other) -/
def d_put_in : Fd := ⟨2, 4, [.asg (.name 2) (.tup []), .forS (.name 3) (.rev (.var 0)) [.asg (.name 2) (.call 0 [.call 1 [.var 2, .var 1], .ife (.e (.cmp .ne (.var 3) (.lit (.int 0)))) (.tup [.var 3]) (.tup [])])], .ret (some (.var 2))]⟩
def n_put_in : List Str := ["row", "other", "found", "one"]
def F_put_in : Fns := fun i => match i with | 0 => g_plus | 1 => g_times | _ => fun _ => .bad
abbrev c_put_in : List Str := ["plus", "times"]
abbrev a_put_in : List Nat := [2, 2]
def g_put_in : List D → Res D := runF F_put_in d_put_in
/-- table_of(cells) -/
def d_table_of : Fd := ⟨1, 3, [.ret (some (.bi .tupleF [.bi .sorted [.lc (.tup [.var 1, .var 2]) (.tup [.name 1, .name 2]) (.items 0) [.e (.cmp .ne (.var 2) (.lit (.int 0)))] [1, 2]]]))]⟩
def n_table_of : List Str := ["cells", "key", "number"]
def F_table_of : Fns := fun i => match i with  | _ => fun _ => .bad
abbrev c_table_of : List Str := []
abbrev a_table_of : List Nat := []
def g_table_of : List D → Res D := runF F_table_of d_table_of
/-- is_table(table) -/
def d_is_table : Fd := ⟨1, 6, [.ifS (.or (.not (.e (.bi .isTuple [.var 0]))) (.not (.e (.allG false (.andE (.bi .isTuple [.var 4]) (.cmp .eq (.bi .len [.var 4]) (.lit (.int 2)))) (.name 4) (.seq (.var 0)) [] [4])))) [.ret (some (.lit (.bl false)))] [], .forS (.tup [.name 1, .name 2]) (.seq (.var 0)) [.ifS (.or (.not (.e (.bi .isTuple [.var 1]))) (.or (.e (.cmp .ne (.bi .len [.var 1]) (.lit (.int 2)))) (.not (.e (.allG false (.call 0 [.var 5, .lit (.int 0)]) (.name 5) (.seq (.var 1)) [] [5]))))) [.ret (some (.lit (.bl false)))] [], .ifS (.or (.not (.e (.call 1 [.var 2]))) (.e (.cmp .eq (.var 2) (.lit (.int 0))))) [.ret (some (.lit (.bl false)))] []], .ret (some (.allG false (.cmp .lt (.idx (.idx (.var 0) (.var 3)) (.lit (.int 0))) (.idx (.idx (.var 0) (.bin .add (.var 3) (.lit (.int 1)))) (.lit (.int 0)))) (.name 3) (.rng [.bin .sub (.bi .len [.var 0]) (.lit (.int 1))]) [] [3]))]⟩
def n_is_table : List Str := ["table", "key", "number", "k", "cell", "one"]
def F_is_table : Fns := fun i => match i with | 0 => g_is_number | 1 => (fun ds => runF F_is_number d_is_number (ds ++ [.non])) | _ => fun _ => .bad
abbrev c_is_table : List Str := ["is_number", "is_number"]
abbrev a_is_table : List Nat := [2, 1]
def g_is_table : List D → Res D := runF F_is_table d_is_table
/-- check_table(table) -/
def d_check_table : Fd := ⟨1, 1, [.ifS (.not (.e (.call 0 [.var 0]))) [.raise 1] []]⟩
def n_check_table : List Str := ["table"]
def F_check_table : Fns := fun i => match i with | 0 => g_is_table | _ => fun _ => .bad
abbrev c_check_table : List Str := ["is_table"]
abbrev a_check_table : List Nat := [1]
def g_check_table : List D → Res D := runF F_check_table d_check_table
/-- plus_tables(first, second) -/
def d_plus_tables : Fd := ⟨2, 5, [.fresh 2 (.bi .dict [.var 0]), .forS (.tup [.name 3, .name 4]) (.seq (.var 1)) [.put 2 (.var 3) (.bin .add (.get (.var 2) (.var 3) (.lit (.int 0))) (.var 4))], .frz 2, .ret (some (.call 0 [.var 2]))]⟩
def n_plus_tables : List Str := ["first", "second", "cells", "key", "number"]
def F_plus_tables : Fns := fun i => match i with | 0 => g_table_of | _ => fun _ => .bad
abbrev c_plus_tables : List Str := ["table_of"]
abbrev a_plus_tables : List Nat := [1]
def g_plus_tables : List D → Res D := runF F_plus_tables d_plus_tables
/-- times_tables(first, second) -/
def d_times_tables : Fd := ⟨2, 9, [.fresh 2 (.newT), .forS (.tup [.tup [.name 4, .name 5], .name 3]) (.seq (.var 0)) [.forS (.tup [.tup [.name 7, .name 8], .name 6]) (.seq (.var 1)) [.put 2 (.tup [.bin .add (.var 4) (.var 7), .bin .add (.var 5) (.var 8)]) (.bin .add (.get (.var 2) (.tup [.bin .add (.var 4) (.var 7), .bin .add (.var 5) (.var 8)]) (.lit (.int 0))) (.bin .mul (.var 3) (.var 6)))]], .frz 2, .ret (some (.call 0 [.var 2]))]⟩
def n_times_tables : List Str := ["first", "second", "cells", "number", "a", "b", "other", "c", "d"]
def F_times_tables : Fns := fun i => match i with | 0 => g_table_of | _ => fun _ => .bad
abbrev c_times_tables : List Str := ["table_of"]
abbrev a_times_tables : List Nat := [1]
def g_times_tables : List D → Res D := runF F_times_tables d_times_tables
/-- power_of_table(table, number) -/
def d_power_of_table : Fd := ⟨2, 4, [.asg (.name 2) (.tup [.tup [.tup [.lit (.int 0), .lit (.int 0)], .lit (.int 1)]]), .forS (.name 3) (.rng [.var 1]) [.asg (.name 2) (.call 0 [.var 2, .var 0])], .ret (some (.var 2))]⟩
def n_power_of_table : List Str := ["table", "number", "found", "step"]
def F_power_of_table : Fns := fun i => match i with | 0 => g_times_tables | _ => fun _ => .bad
abbrev c_power_of_table : List Str := ["times_tables"]
abbrev a_power_of_table : List Nat := [2]
def g_power_of_table : List D → Res D := runF F_power_of_table d_power_of_table
/-- to_power(number, times_now) -/
def d_to_power : Fd := ⟨2, 4, [.asg (.name 2) (.lit (.int 1)), .forS (.name 3) (.rng [.var 1]) [.asg (.name 2) (.bin .mul (.var 2) (.var 0))], .ret (some (.var 2))]⟩
def n_to_power : List Str := ["number", "times_now", "total", "step"]
def F_to_power : Fns := fun i => match i with  | _ => fun _ => .bad
abbrev c_to_power : List Str := []
abbrev a_to_power : List Nat := []
def g_to_power : List D → Res D := runF F_to_power d_to_power
/-- worth_of_table(table, x, y) -/
def d_worth_of_table : Fd := ⟨3, 6, [.expr (.call 0 [.var 0]), .ret (some (.bi .sum [.lc (.bin .mul (.bin .mul (.var 3) (.call 1 [.var 1, .var 4])) (.call 1 [.var 2, .var 5])) (.tup [.tup [.name 4, .name 5], .name 3]) (.seq (.var 0)) [] [3, 4, 5]]))]⟩
def n_worth_of_table : List Str := ["table", "x", "y", "number", "a", "b"]
def F_worth_of_table : Fns := fun i => match i with | 0 => g_check_table | 1 => g_to_power | _ => fun _ => .bad
abbrev c_worth_of_table : List Str := ["check_table", "to_power"]
abbrev a_worth_of_table : List Nat := [1, 2]
def g_worth_of_table : List D → Res D := runF F_worth_of_table d_worth_of_table
/-- swapped(table) -/
def d_swapped : Fd := ⟨1, 4, [.ret (some (.bi .tupleF [.bi .sorted [.lc (.tup [.tup [.var 3, .var 2], .var 1]) (.tup [.tup [.name 2, .name 3], .name 1]) (.seq (.var 0)) [] [1, 2, 3]]]))]⟩
def n_swapped : List Str := ["table", "number", "a", "b"]
def F_swapped : Fns := fun i => match i with  | _ => fun _ => .bad
abbrev c_swapped : List Str := []
abbrev a_swapped : List Nat := []
def g_swapped : List D → Res D := runF F_swapped d_swapped
/-- put_in_table(table, x, y) -/
def d_put_in_table : Fd := ⟨3, 7, [.asg (.name 3) (.tup []), .forS (.tup [.tup [.name 5, .name 6], .name 4]) (.seq (.var 0)) [.asg (.name 3) (.call 0 [.var 3, .call 1 [.call 2 [.call 3 [.var 1, .var 5], .call 3 [.var 2, .var 6]], .var 4]])], .ret (some (.var 3))]⟩
def n_put_in_table : List Str := ["table", "x", "y", "found", "number", "a", "b"]
def F_put_in_table : Fns := fun i => match i with | 0 => g_plus | 1 => g_scaled | 2 => g_times | 3 => g_power | _ => fun _ => .bad
abbrev c_put_in_table : List Str := ["plus", "scaled", "times", "power"]
abbrev a_put_in_table : List Nat := [2, 2, 2, 2]
def g_put_in_table : List D → Res D := runF F_put_in_table d_put_in_table
/-- word_of(number, letters, first) -/
def d_word_of : Fd := ⟨3, 5, [.asg (.name 3) (.ife (.e (.cmp .lt (.var 0) (.lit (.int 0)))) (.lit (.str "-")) (.ife (.e (.var 2)) (.lit (.str "")) (.lit (.str "+")))), .asg (.name 4) (.bi .abs [.var 0]), .ret (some (.bin .add (.var 3) (.ife (.and (.e (.cmp .eq (.var 4) (.lit (.int 1)))) (.e (.cmp .ne (.var 1) (.lit (.str ""))))) (.var 1) (.bin .add (.bi .str [.var 4]) (.var 1)))))]⟩
def n_word_of : List Str := ["number", "letters", "first", "sign", "size"]
def F_word_of : Fns := fun i => match i with  | _ => fun _ => .bad
abbrev c_word_of : List Str := []
abbrev a_word_of : List Nat := []
def g_word_of : List D → Res D := runF F_word_of d_word_of
/-- letter_of(letter, number) -/
def d_letter_of : Fd := ⟨2, 2, [.ifS (.e (.cmp .eq (.var 1) (.lit (.int 0)))) [.ret (some (.lit (.str "")))] [], .ret (some (.ife (.e (.cmp .eq (.var 1) (.lit (.int 1)))) (.var 0) (.bin .add (.bin .add (.var 0) (.lit (.str "^"))) (.bi .str [.var 1]))))]⟩
def n_letter_of : List Str := ["letter", "number"]
def F_letter_of : Fns := fun i => match i with  | _ => fun _ => .bad
abbrev c_letter_of : List Str := []
abbrev a_letter_of : List Nat := []
def g_letter_of : List D → Res D := runF F_letter_of d_letter_of
/-- text_of_row(row, letter) -/
def d_text_of_row : Fd := ⟨2, 4, [.fresh 2 (.lst []), .forS (.name 3) (.revR [.bi .len [.var 0]]) [.ifS (.e (.cmp .ne (.idx (.var 0) (.var 3)) (.lit (.int 0)))) [.app 2 (.call 0 [.idx (.var 0) (.var 3), .call 1 [.var 1, .var 3], .cmp .eq (.bi .len [.var 2]) (.lit (.int 0))])] []], .ret (some (.ife (.e (.cmp .gt (.bi .len [.var 2]) (.lit (.int 0)))) (.join (.lit (.str "")) (.var 2)) (.lit (.str "0"))))]⟩
def n_text_of_row : List Str := ["row", "letter", "words", "at"]
def F_text_of_row : Fns := fun i => match i with | 0 => g_word_of | 1 => g_letter_of | _ => fun _ => .bad
abbrev c_text_of_row : List Str := ["word_of", "letter_of"]
abbrev a_text_of_row : List Nat := [3, 2]
def g_text_of_row : List D → Res D := runF F_text_of_row d_text_of_row
/-- text_of_table(table) -/
def d_text_of_table : Fd := ⟨1, 6, [.expr (.call 0 [.var 0]), .fresh 1 (.lst []), .forS (.tup [.tup [.name 3, .name 4], .name 2]) (.seq (.sortK (.var 0) [5] 5 (.tup [.neg (.idx (.idx (.var 5) (.lit (.int 0))) (.lit (.int 0))), .neg (.idx (.idx (.var 5) (.lit (.int 0))) (.lit (.int 1)))]))) [.app 1 (.call 1 [.var 2, .bin .add (.call 2 [.lit (.str "x"), .var 3]) (.call 2 [.lit (.str "y"), .var 4]), .cmp .eq (.bi .len [.var 1]) (.lit (.int 0))])], .ret (some (.ife (.e (.cmp .gt (.bi .len [.var 1]) (.lit (.int 0)))) (.join (.lit (.str "")) (.var 1)) (.lit (.str "0"))))]⟩
def n_text_of_table : List Str := ["table", "words", "number", "a", "b", "cell"]
def F_text_of_table : Fns := fun i => match i with | 0 => g_check_table | 1 => g_word_of | 2 => g_letter_of | _ => fun _ => .bad
abbrev c_text_of_table : List Str := ["check_table", "word_of", "letter_of"]
abbrev a_text_of_table : List Nat := [1, 3, 2]
def g_text_of_table : List D → Res D := runF F_text_of_table d_text_of_table
/-- _law_cell(script, k) -/
def d__law_cell : Fd := ⟨2, 2, [.ifS (.e (.cmp .lt (.var 1) (.bi .len [.var 0]))) [.ret (some (.idx (.var 0) (.var 1)))] [], .ret (some (.lit (.int 0)))]⟩
def n__law_cell : List Str := ["script", "k"]
def F__law_cell : Fns := fun i => match i with  | _ => fun _ => .bad
abbrev c__law_cell : List Str := []
abbrev a__law_cell : List Nat := []
def g__law_cell : List D → Res D := runF F__law_cell d__law_cell
/-- _law_draws(cell, count) -/
def d__law_draws : Fd := ⟨2, 6, [.fresh 2 (.lst []), .asg (.name 3) (.bi .int [.var 0]), .forS (.name 4) (.rng [.var 1]) [.asg (.name 5) (.bin .mod (.bi .int [.bin .add (.bin .add (.bin .mul (.var 0) (.lit (.int 48271))) (.bin .mul (.var 4) (.lit (.int 69621)))) (.lit (.int 1))]) (.lit (.int 2147483647))), .ifS (.e (.cmp .ge (.var 0) (.bin .pow (.lit (.int 10)) (.lit (.int 18))))) [.app 2 (.bin .mod (.var 3) (.lit (.int 1009))), .asg (.name 3) (.bin .fdiv (.var 3) (.lit (.int 1009)))] [.app 2 (.bin .fdiv (.bin .mod (.bi .int [.bin .add (.bin .mul (.var 5) (.var 5)) (.bin .mul (.var 5) (.lit (.int 40692)))]) (.lit (.int 2147483399))) (.lit (.int 7)))]], .frz 2, .ret (some (.var 2))]⟩
def n__law_draws : List Str := ["cell", "count", "result", "rest", "k", "mixed"]
def F__law_draws : Fns := fun i => match i with  | _ => fun _ => .bad
abbrev c__law_draws : List Str := []
abbrev a__law_draws : List Nat := []
def g__law_draws : List D → Res D := runF F__law_draws d__law_draws
/-- _law_add(first, second) -/
def d__law_add : Fd := ⟨2, 4, [.fresh 2 (.bi .dict [.var 0]), .forS (.name 3) (.keys 1) [.put 2 (.var 3) (.bin .add (.get (.var 2) (.var 3) (.lit (.int 0))) (.idx (.var 1) (.var 3)))], .frz 2, .ret (some (.var 2))]⟩
def n__law_add : List Str := ["first", "second", "found", "key"]
def F__law_add : Fns := fun i => match i with  | _ => fun _ => .bad
abbrev c__law_add : List Str := []
abbrev a__law_add : List Nat := []
def g__law_add : List D → Res D := runF F__law_add d__law_add
/-- _law_mul(first, second) -/
def d__law_mul : Fd := ⟨2, 6, [.fresh 2 (.newT), .forS (.name 3) (.keys 0) [.forS (.name 4) (.keys 1) [.asg (.name 5) (.tup [.bin .add (.idx (.var 3) (.lit (.int 0))) (.idx (.var 4) (.lit (.int 0))), .bin .add (.idx (.var 3) (.lit (.int 1))) (.idx (.var 4) (.lit (.int 1)))]), .put 2 (.var 5) (.bin .add (.get (.var 2) (.var 5) (.lit (.int 0))) (.bin .mul (.idx (.var 0) (.var 3)) (.idx (.var 1) (.var 4))))]], .frz 2, .ret (some (.var 2))]⟩
def n__law_mul : List Str := ["first", "second", "found", "one", "two", "key"]
def F__law_mul : Fns := fun i => match i with  | _ => fun _ => .bad
abbrev c__law_mul : List Str := []
abbrev a__law_mul : List Nat := []
def g__law_mul : List D → Res D := runF F__law_mul d__law_mul
/-- _law_told(cells) -/
def d__law_told : Fd := ⟨1, 2, [.ret (some (.bi .tupleF [.bi .sorted [.lc (.tup [.var 1, .idx (.var 0) (.var 1)]) (.name 1) (.keys 0) [.e (.cmp .ne (.idx (.var 0) (.var 1)) (.lit (.int 0)))] [1]]]))]⟩
def n__law_told : List Str := ["cells", "key"]
def F__law_told : Fns := fun i => match i with  | _ => fun _ => .bad
abbrev c__law_told : List Str := []
abbrev a__law_told : List Nat := []
def g__law_told : List D → Res D := runF F__law_told d__law_told
/-- _law_worth(row, number) -/
def d__law_worth : Fd := ⟨2, 4, [.asg (.name 2) (.lit (.int 0)), .forS (.name 3) (.rev (.var 0)) [.asg (.name 2) (.bin .add (.bin .mul (.var 2) (.var 1)) (.var 3))], .ret (some (.var 2))]⟩
def n__law_worth : List Str := ["row", "number", "total", "one"]
def F__law_worth : Fns := fun i => match i with  | _ => fun _ => .bad
abbrev c__law_worth : List Str := []
abbrev a__law_worth : List Nat := []
def g__law_worth : List D → Res D := runF F__law_worth d__law_worth
/-- _law_power(number, times_now) -/
def d__law_power : Fd := ⟨2, 4, [.asg (.name 2) (.lit (.int 1)), .forS (.name 3) (.rng [.var 1]) [.asg (.name 2) (.bin .mul (.var 2) (.var 0))], .ret (some (.var 2))]⟩
def n__law_power : List Str := ["number", "times_now", "total", "step"]
def F__law_power : Fns := fun i => match i with  | _ => fun _ => .bad
abbrev c__law_power : List Str := []
abbrev a__law_power : List Nat := []
def g__law_power : List D → Res D := runF F__law_power d__law_power
/-- _law_at(table, x, y) -/
def d__law_at : Fd := ⟨3, 5, [.ret (some (.bi .sum [.lc (.bin .mul (.bin .mul (.var 4) (.call 0 [.var 1, .idx (.var 3) (.lit (.int 0))])) (.call 0 [.var 2, .idx (.var 3) (.lit (.int 1))])) (.tup [.name 3, .name 4]) (.seq (.var 0)) [] [3, 4]]))]⟩
def n__law_at : List Str := ["table", "x", "y", "key", "number"]
def F__law_at : Fns := fun i => match i with | 0 => g__law_power | _ => fun _ => .bad
abbrev c__law_at : List Str := ["_law_power"]
abbrev a__law_at : List Nat := [2]
def g__law_at : List D → Res D := runF F__law_at d__law_at
/-- _law_clean(row) -/
def d__law_clean : Fd := ⟨1, 1, [.ret (some (.andE (.bi .isTuple [.var 0]) (.orE (.cmp .eq (.var 0) (.tup [])) (.cmp .ne (.idx (.var 0) (.neg (.lit (.int 1)))) (.lit (.int 0))))))]⟩
def n__law_clean : List Str := ["row"]
def F__law_clean : Fns := fun i => match i with  | _ => fun _ => .bad
abbrev c__law_clean : List Str := []
abbrev a__law_clean : List Nat := []
def g__law_clean : List D → Res D := runF F__law_clean d__law_clean
/-- _law_word(number, letters, first) -/
def d__law_word : Fd := ⟨3, 4, [.asg (.name 3) (.ife (.e (.cmp .lt (.var 0) (.lit (.int 0)))) (.lit (.str "-")) (.ife (.e (.var 2)) (.lit (.str "")) (.lit (.str "+")))), .ret (some (.bin .add (.var 3) (.ife (.and (.e (.cmp .eq (.bi .abs [.var 0]) (.lit (.int 1)))) (.e (.cmp .ne (.var 1) (.lit (.str ""))))) (.var 1) (.bin .add (.bi .str [.bi .abs [.var 0]]) (.var 1)))))]⟩
def n__law_word : List Str := ["number", "letters", "first", "sign"]
def F__law_word : Fns := fun i => match i with  | _ => fun _ => .bad
abbrev c__law_word : List Str := []
abbrev a__law_word : List Nat := []
def g__law_word : List D → Res D := runF F__law_word d__law_word
/-- _law_letter(letter, number) -/
def d__law_letter : Fd := ⟨2, 2, [.ret (some (.ife (.e (.cmp .eq (.var 1) (.lit (.int 0)))) (.lit (.str "")) (.ife (.e (.cmp .eq (.var 1) (.lit (.int 1)))) (.var 0) (.bin .add (.bin .add (.var 0) (.lit (.str "^"))) (.bi .str [.var 1])))))]⟩
def n__law_letter : List Str := ["letter", "number"]
def F__law_letter : Fns := fun i => match i with  | _ => fun _ => .bad
abbrev c__law_letter : List Str := []
abbrev a__law_letter : List Nat := []
def g__law_letter : List D → Res D := runF F__law_letter d__law_letter
/-- law(script) -/
def d_law : Fd := ⟨1, 26, [.asg (.name 1) (.call 0 [.call 1 [.var 0, .lit (.int 0)], .lit (.int 60)]), .asg (.name 2) (.call 2 [.lc (.bin .sub (.bin .mod (.idx (.var 1) (.var 8)) (.lit (.int 7))) (.lit (.int 3))) (.name 8) (.rng [.bin .mod (.idx (.var 1) (.lit (.int 6))) (.lit (.int 6))]) [] [8]]), .asg (.name 3) (.call 2 [.lc (.bin .sub (.bin .mod (.idx (.var 1) (.bin .add (.lit (.int 7)) (.var 8))) (.lit (.int 7))) (.lit (.int 3))) (.name 8) (.rng [.bin .mod (.idx (.var 1) (.lit (.int 13))) (.lit (.int 6))]) [] [8]]), .ifS (.or (.not (.e (.call 3 [.var 2]))) (.or (.not (.e (.call 3 [.var 3]))) (.e (.cmp .ne (.call 2 [.bin .add (.bi .list [.var 2]) (.lst [.lit (.int 0), .lit (.int 0)])]) (.var 2))))) [.ret (some (.lit (.bl false)))] [], .asg (.name 4) (.bin .mod (.idx (.var 1) (.lit (.int 14))) (.lit (.int 4))), .asg (.name 5) (.tup [.call 4 [.var 2, .var 3], .call 5 [.var 2, .var 3], .call 6 [.var 2, .bin .sub (.bin .mod (.idx (.var 1) (.lit (.int 15))) (.lit (.int 5))) (.lit (.int 2))], .call 7 [.var 2, .var 4], .call 8 [.var 2, .var 3]]), .forS (.name 6) (.seq (.var 5)) [.ifS (.not (.e (.call 3 [.var 6]))) [.ret (some (.lit (.bl false)))] []], .forS (.name 7) (.seq (.tup [.neg (.lit (.int 3)), .neg (.lit (.int 2)), .neg (.lit (.int 1)), .lit (.int 0), .lit (.int 1), .lit (.int 2), .lit (.int 3), .lit (.int 5), .lit (.int 7)])) [.par [(24, false, .call 9 [.var 2, .var 7]), (25, false, .call 9 [.var 3, .var 7])], .asg (.name 14) (.lst [.bin .add (.var 24) (.var 25), .bin .mul (.var 24) (.var 25), .bin .mul (.var 24) (.bin .sub (.bin .mod (.idx (.var 1) (.lit (.int 15))) (.lit (.int 5))) (.lit (.int 2))), .call 10 [.var 24, .var 4], .call 9 [.var 2, .var 25]]), .ifS (.or (.e (.cmp .ne (.lc (.call 9 [.var 6, .var 7]) (.name 6) (.seq (.var 5)) [] [6]) (.var 14))) (.e (.cmp .ne (.call 11 [.var 2, .var 7]) (.var 24)))) [.ret (some (.lit (.bl false)))] []], .par [(15, true, .newT), (16, true, .newT), (17, true, .newT)], .forS (.name 8) (.rng [.bin .mod (.idx (.var 1) (.lit (.int 16))) (.lit (.int 4))]) [.put 15 (.tup [.bin .mod (.idx (.var 1) (.bin .add (.lit (.int 20)) (.bin .mul (.lit (.int 3)) (.var 8)))) (.lit (.int 3)), .bin .mod (.idx (.var 1) (.bin .add (.lit (.int 21)) (.bin .mul (.lit (.int 3)) (.var 8)))) (.lit (.int 3))]) (.bin .sub (.bin .mod (.idx (.var 1) (.bin .add (.lit (.int 22)) (.bin .mul (.lit (.int 3)) (.var 8)))) (.lit (.int 7))) (.lit (.int 3)))], .forS (.name 8) (.rng [.bin .mod (.idx (.var 1) (.lit (.int 17))) (.lit (.int 4))]) [.put 16 (.tup [.bin .mod (.idx (.var 1) (.bin .add (.lit (.int 34)) (.bin .mul (.lit (.int 3)) (.var 8)))) (.lit (.int 3)), .bin .mod (.idx (.var 1) (.bin .add (.lit (.int 35)) (.bin .mul (.lit (.int 3)) (.var 8)))) (.lit (.int 3))]) (.bin .sub (.bin .mod (.idx (.var 1) (.bin .add (.lit (.int 36)) (.bin .mul (.lit (.int 3)) (.var 8)))) (.lit (.int 7))) (.lit (.int 3)))], .frz 15, .forS (.name 9) (.keys 15) [.put 17 (.tup [.idx (.var 9) (.lit (.int 1)), .idx (.var 9) (.lit (.int 0))]) (.idx (.var 15) (.var 9))], .frz 15, .frz 16, .par [(18, false, .call 12 [.var 15]), (19, false, .call 12 [.var 16])], .frz 15, .frz 16, .frz 15, .frz 16, .ifS (.or (.e (.cmp .ne (.call 15 [.var 18, .var 19]) (.call 12 [.call 16 [.var 15, .var 16]]))) (.e (.cmp .ne (.call 13 [.var 18, .var 19]) (.call 12 [.call 14 [.var 15, .var 16]])))) [.ret (some (.lit (.bl false)))] [], .frz 17, .ifS (.or (.e (.cmp .ne (.call 18 [.var 18, .lit (.int 2)]) (.call 13 [.var 18, .var 18]))) (.or (.e (.cmp .ne (.call 18 [.var 18, .lit (.int 0)]) (.tup [.tup [.tup [.lit (.int 0), .lit (.int 0)], .lit (.int 1)]]))) (.e (.cmp .ne (.call 17 [.var 18]) (.call 12 [.var 17]))))) [.ret (some (.lit (.bl false)))] [], .par [(20, false, .bin .sub (.bin .mod (.idx (.var 1) (.lit (.int 50))) (.lit (.int 7))) (.lit (.int 3))), (21, false, .bin .sub (.bin .mod (.idx (.var 1) (.lit (.int 51))) (.lit (.int 7))) (.lit (.int 3)))], .ifS (.e (.cmp .ne (.call 19 [.var 18, .var 20, .var 21]) (.call 20 [.var 18, .var 20, .var 21]))) [.ret (some (.lit (.bl false)))] [], .asg (.name 10) (.call 21 [.var 18, .var 2, .var 3]), .forS (.name 7) (.seq (.tup [.neg (.lit (.int 2)), .neg (.lit (.int 1)), .lit (.int 0), .lit (.int 1), .lit (.int 2), .lit (.int 3), .lit (.int 4)])) [.ifS (.e (.cmp .ne (.call 9 [.var 10, .var 7]) (.call 20 [.var 18, .call 9 [.var 2, .var 7], .call 9 [.var 3, .var 7]]))) [.ret (some (.lit (.bl false)))] []], .asg (.name 11) (.lc (.call 22 [.lit (.str "t"), .var 8]) (.name 8) (.rng [.bi .len [.var 2]]) [] [8]), .asg (.name 12) (.lit (.str "")), .forS (.name 8) (.rng [.bin .sub (.bi .len [.var 2]) (.lit (.int 1)), .neg (.lit (.int 1)), .neg (.lit (.int 1))]) [.ifS (.e (.cmp .ne (.idx (.var 2) (.var 8)) (.lit (.int 0)))) [.asg (.name 12) (.bin .add (.var 12) (.call 23 [.idx (.var 2) (.var 8), .idx (.var 11) (.var 8), .cmp .eq (.var 12) (.lit (.str ""))]))] []], .ifS (.e (.cmp .ne (.call 24 [.var 2, .lit (.str "t")]) (.ife (.e (.cmp .ne (.var 12) (.lit (.str "")))) (.var 12) (.lit (.str "0"))))) [.ret (some (.lit (.bl false)))] [], .asg (.name 12) (.lit (.str "")), .forS (.tup [.name 22, .name 23, .name 7]) (.seq (.bi .sorted [.lc (.tup [.bin .sub (.lit (.int 0)) (.idx (.var 9) (.lit (.int 0))), .bin .sub (.lit (.int 0)) (.idx (.var 9) (.lit (.int 1))), .var 7]) (.tup [.name 9, .name 7]) (.seq (.var 18)) [] [9, 7]])) [.asg (.name 12) (.bin .add (.var 12) (.call 23 [.var 7, .bin .add (.call 22 [.lit (.str "x"), .bin .sub (.lit (.int 0)) (.var 22)]) (.call 22 [.lit (.str "y"), .bin .sub (.lit (.int 0)) (.var 23)]), .cmp .eq (.var 12) (.lit (.str ""))]))], .ifS (.or (.e (.cmp .ne (.call 26 [.var 18]) (.ife (.e (.cmp .ne (.var 12) (.lit (.str "")))) (.var 12) (.lit (.str "0"))))) (.not (.e (.call 25 [.var 18])))) [.ret (some (.lit (.bl false)))] [], .asg (.name 13) (.idx (.tup [.lit .non, .lst [.tup [.tup [.lit (.int 0), .lit (.int 0)], .lit (.int 1)]], .tup [.tup [.tup [.lit (.int 0), .lit (.int 0)], .lit (.int 0)]], .tup [.tup [.tup [.lit (.int 1), .lit (.int 0)], .lit (.int 1)], .tup [.tup [.lit (.int 0), .lit (.int 0)], .lit (.int 1)]], .tup [.tup [.tup [.lit (.int 0), .neg (.lit (.int 1))], .lit (.int 1)]], .tup [.tup [.tup [.lit (.int 0)], .lit (.int 1)]], .tup [.tup [.tup [.lit (.int 0), .lit (.int 0)], .lit (.bl true)]], .tup [.tup [.tup [.lit (.int 0), .lit (.int 0)], .lit (.int 1)], .tup [.tup [.lit (.int 0), .lit (.int 0)], .lit (.int 2)]]]) (.bin .mod (.idx (.var 1) (.lit (.int 52))) (.lit (.int 8)))), .ret (some (.not (.call 25 [.var 13])))]⟩
def n_law : List Str := ["script", "n", "one", "two", "size", "made", "row", "number", "k", "key", "told", "words", "text", "wrong", "due", "first", "second", "turned", "p", "q", "x", "y", "low", "less", "a", "b"]
def F_law : Fns := fun i => match i with | 0 => g__law_draws | 1 => g__law_cell | 2 => g_trimmed | 3 => g__law_clean | 4 => g_plus | 5 => g_times | 6 => g_scaled | 7 => g_power | 8 => g_put_in | 9 => g__law_worth | 10 => g__law_power | 11 => g_worth | 12 => g__law_told | 13 => g_times_tables | 14 => g__law_mul | 15 => g_plus_tables | 16 => g__law_add | 17 => g_swapped | 18 => g_power_of_table | 19 => g_worth_of_table | 20 => g__law_at | 21 => g_put_in_table | 22 => g__law_letter | 23 => g__law_word | 24 => g_text_of_row | 25 => g_is_table | 26 => g_text_of_table | _ => fun _ => .bad
abbrev c_law : List Str := ["_law_draws", "_law_cell", "trimmed", "_law_clean", "plus", "times", "scaled", "power", "put_in", "_law_worth", "_law_power", "worth", "_law_told", "times_tables", "_law_mul", "plus_tables", "_law_add", "swapped", "power_of_table", "worth_of_table", "_law_at", "put_in_table", "_law_letter", "_law_word", "text_of_row", "is_table", "text_of_table"]
abbrev a_law : List Nat := [2, 2, 1, 1, 2, 2, 2, 2, 2, 2, 2, 2, 1, 2, 2, 2, 2, 1, 2, 3, 3, 3, 2, 3, 2, 1, 1]
def g_law : List D → Res D := runF F_law d_law
end K26
set_option maxHeartbeats 4000000
namespace K26
open PySem PySem.Spec L2 Dx
def top (i : Nat) : PySem.Stmt := PySem.Challenge.pw_matroidworks_k26_polynomials.main.body.getD i (.Pass ⟨0, 0, 0, 0⟩)
def nmL : List ((Nat × Nat) × Str) := [((55, 15), "is_table.<locals>.<genexpr>"), ((48, 47), "is_table.<locals>.<genexpr>"), ((51, 67), "is_table.<locals>.<genexpr>"), ((107, 44), "text_of_table.<locals>.<lambda>")]
def nmF (l c : Nat) : Str := (nmL.lookup (l, c)).getD ""
instance : Nm := ⟨nmF⟩
abbrev excs : List Str := ["MatroidError", "BadNumber"]
abbrev consts : List (Str × Int) := []
abbrev s_is_number : PySem.Stmt := top 4
theorem sc_is_number : FnScope n_is_number ["value", "low"] (stScope s_is_number) := sc_of (by decide +kernel)
theorem ck_is_number : chkB ⟨n_is_number, (stScope s_is_number).names, true, c_is_number, okA a_is_number, false, "is_number", Nm.nm, consts⟩ excs d_is_number.body (stBody s_is_number) = true := by decide +kernel
abbrev s_trimmed : PySem.Stmt := top 6
theorem sc_trimmed : FnScope n_trimmed ["row"] (stScope s_trimmed) := sc_of (by decide +kernel)
theorem ck_trimmed : chkB ⟨n_trimmed, (stScope s_trimmed).names, true, c_trimmed, okA a_trimmed, false, "trimmed", Nm.nm, consts⟩ excs d_trimmed.body (stBody s_trimmed) = true := by decide +kernel
abbrev s_plus : PySem.Stmt := top 7
theorem sc_plus : FnScope n_plus ["first", "second"] (stScope s_plus) := sc_of (by decide +kernel)
theorem ck_plus : chkB ⟨n_plus, (stScope s_plus).names, true, c_plus, okA a_plus, false, "plus", Nm.nm, consts⟩ excs d_plus.body (stBody s_plus) = true := by decide +kernel
abbrev s_scaled : PySem.Stmt := top 8
theorem sc_scaled : FnScope n_scaled ["row", "number"] (stScope s_scaled) := sc_of (by decide +kernel)
theorem ck_scaled : chkB ⟨n_scaled, (stScope s_scaled).names, true, c_scaled, okA a_scaled, false, "scaled", Nm.nm, consts⟩ excs d_scaled.body (stBody s_scaled) = true := by decide +kernel
abbrev s_times : PySem.Stmt := top 9
theorem sc_times : FnScope n_times ["first", "second"] (stScope s_times) := sc_of (by decide +kernel)
theorem ck_times : chkB ⟨n_times, (stScope s_times).names, true, c_times, okA a_times, false, "times", Nm.nm, consts⟩ excs d_times.body (stBody s_times) = true := by decide +kernel
abbrev s_power : PySem.Stmt := top 10
theorem sc_power : FnScope n_power ["row", "number"] (stScope s_power) := sc_of (by decide +kernel)
theorem ck_power : chkB ⟨n_power, (stScope s_power).names, true, c_power, okA a_power, false, "power", Nm.nm, consts⟩ excs d_power.body (stBody s_power) = true := by decide +kernel
abbrev s_worth : PySem.Stmt := top 11
theorem sc_worth : FnScope n_worth ["row", "number"] (stScope s_worth) := sc_of (by decide +kernel)
theorem ck_worth : chkB ⟨n_worth, (stScope s_worth).names, true, c_worth, okA a_worth, false, "worth", Nm.nm, consts⟩ excs d_worth.body (stBody s_worth) = true := by decide +kernel
abbrev s_put_in : PySem.Stmt := top 12
theorem sc_put_in : FnScope n_put_in ["row", "other"] (stScope s_put_in) := sc_of (by decide +kernel)
theorem ck_put_in : chkB ⟨n_put_in, (stScope s_put_in).names, true, c_put_in, okA a_put_in, false, "put_in", Nm.nm, consts⟩ excs d_put_in.body (stBody s_put_in) = true := by decide +kernel
abbrev s_table_of : PySem.Stmt := top 13
theorem sc_table_of : FnScope n_table_of ["cells"] (stScope s_table_of) := sc_of (by decide +kernel)
theorem ck_table_of : chkB ⟨n_table_of, (stScope s_table_of).names, true, c_table_of, okA a_table_of, false, "table_of", Nm.nm, consts⟩ excs d_table_of.body (stBody s_table_of) = true := by decide +kernel
abbrev s_is_table : PySem.Stmt := top 14
theorem sc_is_table : FnScope n_is_table ["table"] (stScope s_is_table) := sc_of (by decide +kernel)
theorem ck_is_table : chkB ⟨n_is_table, (stScope s_is_table).names, true, c_is_table, okA a_is_table, true, "is_table.<locals>.", Nm.nm, consts⟩ excs d_is_table.body (stBody s_is_table) = true := by decide +kernel
abbrev s_check_table : PySem.Stmt := top 15
theorem sc_check_table : FnScope n_check_table ["table"] (stScope s_check_table) := sc_of (by decide +kernel)
theorem ck_check_table : chkB ⟨n_check_table, (stScope s_check_table).names, true, c_check_table, okA a_check_table, false, "check_table", Nm.nm, consts⟩ excs d_check_table.body (stBody s_check_table) = true := by decide +kernel
abbrev s_plus_tables : PySem.Stmt := top 16
theorem sc_plus_tables : FnScope n_plus_tables ["first", "second"] (stScope s_plus_tables) := sc_of (by decide +kernel)
theorem ck_plus_tables : chkB ⟨n_plus_tables, (stScope s_plus_tables).names, true, c_plus_tables, okA a_plus_tables, false, "plus_tables", Nm.nm, consts⟩ excs d_plus_tables.body (stBody s_plus_tables) = true := by decide +kernel
abbrev s_times_tables : PySem.Stmt := top 17
theorem sc_times_tables : FnScope n_times_tables ["first", "second"] (stScope s_times_tables) := sc_of (by decide +kernel)
theorem ck_times_tables : chkB ⟨n_times_tables, (stScope s_times_tables).names, true, c_times_tables, okA a_times_tables, false, "times_tables", Nm.nm, consts⟩ excs d_times_tables.body (stBody s_times_tables) = true := by decide +kernel
abbrev s_power_of_table : PySem.Stmt := top 18
theorem sc_power_of_table : FnScope n_power_of_table ["table", "number"] (stScope s_power_of_table) := sc_of (by decide +kernel)
theorem ck_power_of_table : chkB ⟨n_power_of_table, (stScope s_power_of_table).names, true, c_power_of_table, okA a_power_of_table, false, "power_of_table", Nm.nm, consts⟩ excs d_power_of_table.body (stBody s_power_of_table) = true := by decide +kernel
abbrev s_to_power : PySem.Stmt := top 19
theorem sc_to_power : FnScope n_to_power ["number", "times_now"] (stScope s_to_power) := sc_of (by decide +kernel)
theorem ck_to_power : chkB ⟨n_to_power, (stScope s_to_power).names, true, c_to_power, okA a_to_power, false, "to_power", Nm.nm, consts⟩ excs d_to_power.body (stBody s_to_power) = true := by decide +kernel
abbrev s_worth_of_table : PySem.Stmt := top 20
theorem sc_worth_of_table : FnScope n_worth_of_table ["table", "x", "y"] (stScope s_worth_of_table) := sc_of (by decide +kernel)
theorem ck_worth_of_table : chkB ⟨n_worth_of_table, (stScope s_worth_of_table).names, true, c_worth_of_table, okA a_worth_of_table, false, "worth_of_table", Nm.nm, consts⟩ excs d_worth_of_table.body (stBody s_worth_of_table) = true := by decide +kernel
abbrev s_swapped : PySem.Stmt := top 21
theorem sc_swapped : FnScope n_swapped ["table"] (stScope s_swapped) := sc_of (by decide +kernel)
theorem ck_swapped : chkB ⟨n_swapped, (stScope s_swapped).names, true, c_swapped, okA a_swapped, false, "swapped", Nm.nm, consts⟩ excs d_swapped.body (stBody s_swapped) = true := by decide +kernel
abbrev s_put_in_table : PySem.Stmt := top 22
theorem sc_put_in_table : FnScope n_put_in_table ["table", "x", "y"] (stScope s_put_in_table) := sc_of (by decide +kernel)
theorem ck_put_in_table : chkB ⟨n_put_in_table, (stScope s_put_in_table).names, true, c_put_in_table, okA a_put_in_table, false, "put_in_table", Nm.nm, consts⟩ excs d_put_in_table.body (stBody s_put_in_table) = true := by decide +kernel
abbrev s_word_of : PySem.Stmt := top 25
theorem sc_word_of : FnScope n_word_of ["number", "letters", "first"] (stScope s_word_of) := sc_of (by decide +kernel)
theorem ck_word_of : chkB ⟨n_word_of, (stScope s_word_of).names, true, c_word_of, okA a_word_of, false, "word_of", Nm.nm, consts⟩ excs d_word_of.body (stBody s_word_of) = true := by decide +kernel
abbrev s_letter_of : PySem.Stmt := top 24
theorem sc_letter_of : FnScope n_letter_of ["letter", "number"] (stScope s_letter_of) := sc_of (by decide +kernel)
theorem ck_letter_of : chkB ⟨n_letter_of, (stScope s_letter_of).names, true, c_letter_of, okA a_letter_of, false, "letter_of", Nm.nm, consts⟩ excs d_letter_of.body (stBody s_letter_of) = true := by decide +kernel
abbrev s_text_of_row : PySem.Stmt := top 23
theorem sc_text_of_row : FnScope n_text_of_row ["row", "letter"] (stScope s_text_of_row) := sc_of (by decide +kernel)
theorem ck_text_of_row : chkB ⟨n_text_of_row, (stScope s_text_of_row).names, true, c_text_of_row, okA a_text_of_row, false, "text_of_row", Nm.nm, consts⟩ excs d_text_of_row.body (stBody s_text_of_row) = true := by decide +kernel
abbrev s_text_of_table : PySem.Stmt := top 26
theorem sc_text_of_table : FnScope n_text_of_table ["table"] (stScope s_text_of_table) := sc_of (by decide +kernel)
theorem ck_text_of_table : chkB ⟨n_text_of_table, (stScope s_text_of_table).names, true, c_text_of_table, okA a_text_of_table, true, "text_of_table.<locals>.", Nm.nm, consts⟩ excs d_text_of_table.body (stBody s_text_of_table) = true := by decide +kernel
abbrev s__law_cell : PySem.Stmt := top 28
theorem sc__law_cell : FnScope n__law_cell ["script", "k"] (stScope s__law_cell) := sc_of (by decide +kernel)
theorem ck__law_cell : chkB ⟨n__law_cell, (stScope s__law_cell).names, true, c__law_cell, okA a__law_cell, false, "_law_cell", Nm.nm, consts⟩ excs d__law_cell.body (stBody s__law_cell) = true := by decide +kernel
abbrev s__law_draws : PySem.Stmt := top 29
theorem sc__law_draws : FnScope n__law_draws ["cell", "count"] (stScope s__law_draws) := sc_of (by decide +kernel)
theorem ck__law_draws : chkB ⟨n__law_draws, (stScope s__law_draws).names, true, c__law_draws, okA a__law_draws, false, "_law_draws", Nm.nm, consts⟩ excs d__law_draws.body (stBody s__law_draws) = true := by decide +kernel
abbrev s__law_add : PySem.Stmt := top 30
theorem sc__law_add : FnScope n__law_add ["first", "second"] (stScope s__law_add) := sc_of (by decide +kernel)
theorem ck__law_add : chkB ⟨n__law_add, (stScope s__law_add).names, true, c__law_add, okA a__law_add, false, "_law_add", Nm.nm, consts⟩ excs d__law_add.body (stBody s__law_add) = true := by decide +kernel
abbrev s__law_mul : PySem.Stmt := top 31
theorem sc__law_mul : FnScope n__law_mul ["first", "second"] (stScope s__law_mul) := sc_of (by decide +kernel)
theorem ck__law_mul : chkB ⟨n__law_mul, (stScope s__law_mul).names, true, c__law_mul, okA a__law_mul, false, "_law_mul", Nm.nm, consts⟩ excs d__law_mul.body (stBody s__law_mul) = true := by decide +kernel
abbrev s__law_told : PySem.Stmt := top 32
theorem sc__law_told : FnScope n__law_told ["cells"] (stScope s__law_told) := sc_of (by decide +kernel)
theorem ck__law_told : chkB ⟨n__law_told, (stScope s__law_told).names, true, c__law_told, okA a__law_told, false, "_law_told", Nm.nm, consts⟩ excs d__law_told.body (stBody s__law_told) = true := by decide +kernel
abbrev s__law_worth : PySem.Stmt := top 33
theorem sc__law_worth : FnScope n__law_worth ["row", "number"] (stScope s__law_worth) := sc_of (by decide +kernel)
theorem ck__law_worth : chkB ⟨n__law_worth, (stScope s__law_worth).names, true, c__law_worth, okA a__law_worth, false, "_law_worth", Nm.nm, consts⟩ excs d__law_worth.body (stBody s__law_worth) = true := by decide +kernel
abbrev s__law_power : PySem.Stmt := top 34
theorem sc__law_power : FnScope n__law_power ["number", "times_now"] (stScope s__law_power) := sc_of (by decide +kernel)
theorem ck__law_power : chkB ⟨n__law_power, (stScope s__law_power).names, true, c__law_power, okA a__law_power, false, "_law_power", Nm.nm, consts⟩ excs d__law_power.body (stBody s__law_power) = true := by decide +kernel
abbrev s__law_at : PySem.Stmt := top 35
theorem sc__law_at : FnScope n__law_at ["table", "x", "y"] (stScope s__law_at) := sc_of (by decide +kernel)
theorem ck__law_at : chkB ⟨n__law_at, (stScope s__law_at).names, true, c__law_at, okA a__law_at, false, "_law_at", Nm.nm, consts⟩ excs d__law_at.body (stBody s__law_at) = true := by decide +kernel
abbrev s__law_clean : PySem.Stmt := top 36
theorem sc__law_clean : FnScope n__law_clean ["row"] (stScope s__law_clean) := sc_of (by decide +kernel)
theorem ck__law_clean : chkB ⟨n__law_clean, (stScope s__law_clean).names, true, c__law_clean, okA a__law_clean, false, "_law_clean", Nm.nm, consts⟩ excs d__law_clean.body (stBody s__law_clean) = true := by decide +kernel
abbrev s__law_word : PySem.Stmt := top 37
theorem sc__law_word : FnScope n__law_word ["number", "letters", "first"] (stScope s__law_word) := sc_of (by decide +kernel)
theorem ck__law_word : chkB ⟨n__law_word, (stScope s__law_word).names, true, c__law_word, okA a__law_word, false, "_law_word", Nm.nm, consts⟩ excs d__law_word.body (stBody s__law_word) = true := by decide +kernel
abbrev s__law_letter : PySem.Stmt := top 38
theorem sc__law_letter : FnScope n__law_letter ["letter", "number"] (stScope s__law_letter) := sc_of (by decide +kernel)
theorem ck__law_letter : chkB ⟨n__law_letter, (stScope s__law_letter).names, true, c__law_letter, okA a__law_letter, false, "_law_letter", Nm.nm, consts⟩ excs d__law_letter.body (stBody s__law_letter) = true := by decide +kernel
abbrev s_law : PySem.Stmt := top 39
theorem sc_law : FnScope n_law ["script"] (stScope s_law) := sc_of (by decide +kernel)
theorem ck_law : chkB ⟨n_law, (stScope s_law).names, true, c_law, okA a_law, false, "law", Nm.nm, consts⟩ excs d_law.body (stBody s_law) = true := by decide +kernel
end K26
set_option maxHeartbeats 0
namespace K26
open PySem PySem.Spec PyProof.Rows L2 Dx
def D_is_number : He.DefD := ⟨("is_number", none), "is_number", "is_number", stArgs s_is_number, stBody s_is_number, stScope s_is_number, [.non], []⟩
def D_trimmed : He.DefD := ⟨("trimmed", none), "trimmed", "trimmed", stArgs s_trimmed, stBody s_trimmed, stScope s_trimmed, [], []⟩
def D_plus : He.DefD := ⟨("plus", none), "plus", "plus", stArgs s_plus, stBody s_plus, stScope s_plus, [], []⟩
def D_scaled : He.DefD := ⟨("scaled", none), "scaled", "scaled", stArgs s_scaled, stBody s_scaled, stScope s_scaled, [], []⟩
def D_times : He.DefD := ⟨("times", none), "times", "times", stArgs s_times, stBody s_times, stScope s_times, [], []⟩
def D_power : He.DefD := ⟨("power", none), "power", "power", stArgs s_power, stBody s_power, stScope s_power, [], []⟩
def D_worth : He.DefD := ⟨("worth", none), "worth", "worth", stArgs s_worth, stBody s_worth, stScope s_worth, [], []⟩
def D_put_in : He.DefD := ⟨("put_in", none), "put_in", "put_in", stArgs s_put_in, stBody s_put_in, stScope s_put_in, [], []⟩
def D_table_of : He.DefD := ⟨("table_of", none), "table_of", "table_of", stArgs s_table_of, stBody s_table_of, stScope s_table_of, [], []⟩
def D_is_table : He.DefD := ⟨("is_table", none), "is_table", "is_table", stArgs s_is_table, stBody s_is_table, stScope s_is_table, [], []⟩
def D_check_table : He.DefD := ⟨("check_table", none), "check_table", "check_table", stArgs s_check_table, stBody s_check_table, stScope s_check_table, [], []⟩
def D_plus_tables : He.DefD := ⟨("plus_tables", none), "plus_tables", "plus_tables", stArgs s_plus_tables, stBody s_plus_tables, stScope s_plus_tables, [], []⟩
def D_times_tables : He.DefD := ⟨("times_tables", none), "times_tables", "times_tables", stArgs s_times_tables, stBody s_times_tables, stScope s_times_tables, [], []⟩
def D_power_of_table : He.DefD := ⟨("power_of_table", none), "power_of_table", "power_of_table", stArgs s_power_of_table, stBody s_power_of_table, stScope s_power_of_table, [], []⟩
def D_to_power : He.DefD := ⟨("to_power", none), "to_power", "to_power", stArgs s_to_power, stBody s_to_power, stScope s_to_power, [], []⟩
def D_worth_of_table : He.DefD := ⟨("worth_of_table", none), "worth_of_table", "worth_of_table", stArgs s_worth_of_table, stBody s_worth_of_table, stScope s_worth_of_table, [], []⟩
def D_swapped : He.DefD := ⟨("swapped", none), "swapped", "swapped", stArgs s_swapped, stBody s_swapped, stScope s_swapped, [], []⟩
def D_put_in_table : He.DefD := ⟨("put_in_table", none), "put_in_table", "put_in_table", stArgs s_put_in_table, stBody s_put_in_table, stScope s_put_in_table, [], []⟩
def D_word_of : He.DefD := ⟨("word_of", none), "word_of", "word_of", stArgs s_word_of, stBody s_word_of, stScope s_word_of, [], []⟩
def D_letter_of : He.DefD := ⟨("letter_of", none), "letter_of", "letter_of", stArgs s_letter_of, stBody s_letter_of, stScope s_letter_of, [], []⟩
def D_text_of_row : He.DefD := ⟨("text_of_row", none), "text_of_row", "text_of_row", stArgs s_text_of_row, stBody s_text_of_row, stScope s_text_of_row, [], []⟩
def D_text_of_table : He.DefD := ⟨("text_of_table", none), "text_of_table", "text_of_table", stArgs s_text_of_table, stBody s_text_of_table, stScope s_text_of_table, [], []⟩
def D__law_cell : He.DefD := ⟨("_law_cell", none), "_law_cell", "_law_cell", stArgs s__law_cell, stBody s__law_cell, stScope s__law_cell, [], []⟩
def D__law_draws : He.DefD := ⟨("_law_draws", none), "_law_draws", "_law_draws", stArgs s__law_draws, stBody s__law_draws, stScope s__law_draws, [], []⟩
def D__law_add : He.DefD := ⟨("_law_add", none), "_law_add", "_law_add", stArgs s__law_add, stBody s__law_add, stScope s__law_add, [], []⟩
def D__law_mul : He.DefD := ⟨("_law_mul", none), "_law_mul", "_law_mul", stArgs s__law_mul, stBody s__law_mul, stScope s__law_mul, [], []⟩
def D__law_told : He.DefD := ⟨("_law_told", none), "_law_told", "_law_told", stArgs s__law_told, stBody s__law_told, stScope s__law_told, [], []⟩
def D__law_worth : He.DefD := ⟨("_law_worth", none), "_law_worth", "_law_worth", stArgs s__law_worth, stBody s__law_worth, stScope s__law_worth, [], []⟩
def D__law_power : He.DefD := ⟨("_law_power", none), "_law_power", "_law_power", stArgs s__law_power, stBody s__law_power, stScope s__law_power, [], []⟩
def D__law_at : He.DefD := ⟨("_law_at", none), "_law_at", "_law_at", stArgs s__law_at, stBody s__law_at, stScope s__law_at, [], []⟩
def D__law_clean : He.DefD := ⟨("_law_clean", none), "_law_clean", "_law_clean", stArgs s__law_clean, stBody s__law_clean, stScope s__law_clean, [], []⟩
def D__law_word : He.DefD := ⟨("_law_word", none), "_law_word", "_law_word", stArgs s__law_word, stBody s__law_word, stScope s__law_word, [], []⟩
def D__law_letter : He.DefD := ⟨("_law_letter", none), "_law_letter", "_law_letter", stArgs s__law_letter, stBody s__law_letter, stScope s__law_letter, [], []⟩
def D_law : He.DefD := ⟨("law", none), "law", "law", stArgs s_law, stBody s_law, stScope s_law, [], []⟩
abbrev fn : List He.DefD := [D_is_number, D_trimmed, D_plus, D_scaled, D_times, D_power, D_worth, D_put_in, D_table_of, D_is_table, D_check_table, D_plus_tables, D_times_tables, D_power_of_table, D_to_power, D_worth_of_table, D_swapped, D_put_in_table, D_word_of, D_letter_of, D_text_of_row, D_text_of_table, D__law_cell, D__law_draws, D__law_add, D__law_mul, D__law_told, D__law_worth, D__law_power, D__law_at, D__law_clean, D__law_word, D__law_letter, D_law]
abbrev tf : List He.Defn := [("is_table", none), ("text_of_table", none)]
abbrev fa : List He.Fa := (bltNames.map He.Fa.free) ++ (excs.map He.Fa.glo) ++ (excs.map He.Fa.exc) ++ (fn.map fun d => He.Fa.glo d.name) ++ (consts.map fun c => He.Fa.int c.1 c.2)
abbrev R : PySem.W.OpenRow := PySem.W.OpenLaw.row PySem.Challenge.rw_matroidworks_k26_polynomials
abbrev hk : PySem.W.Hook := He.hookX 4 fa fn [] tf fun _ => true
def ob (s : PySem.W.SharedT) : He.AlX := He.obsX 4 fa fn [] tf (fun _ => true) (HandSHeadRun.getT s)
theorem ob_eq (s : PySem.W.SharedT) : ob s = hk.obs s.abs := He.obsX_eq (HandSHeadRun.getT_eq s)
def loose0 : List Str := ["MatroidError", "BadNumber", "is_number", "trimmed", "plus", "scaled", "times", "power", "worth", "put_in", "table_of", "is_table", "check_table", "plus_tables", "times_tables", "power_of_table", "to_power", "worth_of_table", "swapped", "put_in_table", "text_of_row", "letter_of", "word_of", "text_of_table", "_law_cell", "_law_draws", "_law_add", "_law_mul", "_law_told", "_law_worth"]
def loose1 : List Str := ["_law_power", "_law_at", "_law_clean", "_law_word", "_law_letter"]
def loose : List Str := loose0 ++ loose1
theorem run (w : World) : HandSHeadRun.RunEq R (PySem.W.view R.prog [39]) hk ob 6000 loose w := by
  intro os
  kernel_rfl
theorem facts (plain : ∀ ns : List Int, ns.length ≤ 63 → g_law [.scr (ns.map .int)] = .ok (.bl true)) {w : World} {K : PySem.W.Frag} {h : Heap} {mg : Str → Option Value} {f : Addr} (X : K.In h) (G : h.Ns mainGlobals mg) (hfa : mg ("law" : Str) = some (.ref f)) (c : He.SaysX fa fn [] tf (fun _ => true) w h K) :
    LamX.LawAtS PySem.Challenge.rw_matroidworks_k26_polynomials w K (L2.CX (PySem.Challenge.rw_matroidworks_k26_polynomials).prog w) 7 63 "script" mg f h := by
  have cd := c.t.d
  obtain ⟨fd_is_number, FD_is_number⟩ := cd.def_ 0 (d := D_is_number) rfl
  have gl_is_number := He.glo_ok X G (cd.facts (f := .glo "is_number") (List.mem_append_left _ (List.mem_append_right _ (List.mem_map.mpr ⟨D_is_number, List.mem_of_getElem? (i := 0) rfl, rfl⟩))))
  obtain ⟨fd_trimmed, FD_trimmed⟩ := cd.def_ 1 (d := D_trimmed) rfl
  have gl_trimmed := He.glo_ok X G (cd.facts (f := .glo "trimmed") (List.mem_append_left _ (List.mem_append_right _ (List.mem_map.mpr ⟨D_trimmed, List.mem_of_getElem? (i := 1) rfl, rfl⟩))))
  obtain ⟨fd_plus, FD_plus⟩ := cd.def_ 2 (d := D_plus) rfl
  have gl_plus := He.glo_ok X G (cd.facts (f := .glo "plus") (List.mem_append_left _ (List.mem_append_right _ (List.mem_map.mpr ⟨D_plus, List.mem_of_getElem? (i := 2) rfl, rfl⟩))))
  obtain ⟨fd_scaled, FD_scaled⟩ := cd.def_ 3 (d := D_scaled) rfl
  have gl_scaled := He.glo_ok X G (cd.facts (f := .glo "scaled") (List.mem_append_left _ (List.mem_append_right _ (List.mem_map.mpr ⟨D_scaled, List.mem_of_getElem? (i := 3) rfl, rfl⟩))))
  obtain ⟨fd_times, FD_times⟩ := cd.def_ 4 (d := D_times) rfl
  have gl_times := He.glo_ok X G (cd.facts (f := .glo "times") (List.mem_append_left _ (List.mem_append_right _ (List.mem_map.mpr ⟨D_times, List.mem_of_getElem? (i := 4) rfl, rfl⟩))))
  obtain ⟨fd_power, FD_power⟩ := cd.def_ 5 (d := D_power) rfl
  have gl_power := He.glo_ok X G (cd.facts (f := .glo "power") (List.mem_append_left _ (List.mem_append_right _ (List.mem_map.mpr ⟨D_power, List.mem_of_getElem? (i := 5) rfl, rfl⟩))))
  obtain ⟨fd_worth, FD_worth⟩ := cd.def_ 6 (d := D_worth) rfl
  have gl_worth := He.glo_ok X G (cd.facts (f := .glo "worth") (List.mem_append_left _ (List.mem_append_right _ (List.mem_map.mpr ⟨D_worth, List.mem_of_getElem? (i := 6) rfl, rfl⟩))))
  obtain ⟨fd_put_in, FD_put_in⟩ := cd.def_ 7 (d := D_put_in) rfl
  have gl_put_in := He.glo_ok X G (cd.facts (f := .glo "put_in") (List.mem_append_left _ (List.mem_append_right _ (List.mem_map.mpr ⟨D_put_in, List.mem_of_getElem? (i := 7) rfl, rfl⟩))))
  obtain ⟨fd_table_of, FD_table_of⟩ := cd.def_ 8 (d := D_table_of) rfl
  have gl_table_of := He.glo_ok X G (cd.facts (f := .glo "table_of") (List.mem_append_left _ (List.mem_append_right _ (List.mem_map.mpr ⟨D_table_of, List.mem_of_getElem? (i := 8) rfl, rfl⟩))))
  obtain ⟨fd_is_table, FD_is_table⟩ := cd.def_ 9 (d := D_is_table) rfl
  have gl_is_table := He.glo_ok X G (cd.facts (f := .glo "is_table") (List.mem_append_left _ (List.mem_append_right _ (List.mem_map.mpr ⟨D_is_table, List.mem_of_getElem? (i := 9) rfl, rfl⟩))))
  obtain ⟨fd_check_table, FD_check_table⟩ := cd.def_ 10 (d := D_check_table) rfl
  have gl_check_table := He.glo_ok X G (cd.facts (f := .glo "check_table") (List.mem_append_left _ (List.mem_append_right _ (List.mem_map.mpr ⟨D_check_table, List.mem_of_getElem? (i := 10) rfl, rfl⟩))))
  obtain ⟨fd_plus_tables, FD_plus_tables⟩ := cd.def_ 11 (d := D_plus_tables) rfl
  have gl_plus_tables := He.glo_ok X G (cd.facts (f := .glo "plus_tables") (List.mem_append_left _ (List.mem_append_right _ (List.mem_map.mpr ⟨D_plus_tables, List.mem_of_getElem? (i := 11) rfl, rfl⟩))))
  obtain ⟨fd_times_tables, FD_times_tables⟩ := cd.def_ 12 (d := D_times_tables) rfl
  have gl_times_tables := He.glo_ok X G (cd.facts (f := .glo "times_tables") (List.mem_append_left _ (List.mem_append_right _ (List.mem_map.mpr ⟨D_times_tables, List.mem_of_getElem? (i := 12) rfl, rfl⟩))))
  obtain ⟨fd_power_of_table, FD_power_of_table⟩ := cd.def_ 13 (d := D_power_of_table) rfl
  have gl_power_of_table := He.glo_ok X G (cd.facts (f := .glo "power_of_table") (List.mem_append_left _ (List.mem_append_right _ (List.mem_map.mpr ⟨D_power_of_table, List.mem_of_getElem? (i := 13) rfl, rfl⟩))))
  obtain ⟨fd_to_power, FD_to_power⟩ := cd.def_ 14 (d := D_to_power) rfl
  have gl_to_power := He.glo_ok X G (cd.facts (f := .glo "to_power") (List.mem_append_left _ (List.mem_append_right _ (List.mem_map.mpr ⟨D_to_power, List.mem_of_getElem? (i := 14) rfl, rfl⟩))))
  obtain ⟨fd_worth_of_table, FD_worth_of_table⟩ := cd.def_ 15 (d := D_worth_of_table) rfl
  have gl_worth_of_table := He.glo_ok X G (cd.facts (f := .glo "worth_of_table") (List.mem_append_left _ (List.mem_append_right _ (List.mem_map.mpr ⟨D_worth_of_table, List.mem_of_getElem? (i := 15) rfl, rfl⟩))))
  obtain ⟨fd_swapped, FD_swapped⟩ := cd.def_ 16 (d := D_swapped) rfl
  have gl_swapped := He.glo_ok X G (cd.facts (f := .glo "swapped") (List.mem_append_left _ (List.mem_append_right _ (List.mem_map.mpr ⟨D_swapped, List.mem_of_getElem? (i := 16) rfl, rfl⟩))))
  obtain ⟨fd_put_in_table, FD_put_in_table⟩ := cd.def_ 17 (d := D_put_in_table) rfl
  have gl_put_in_table := He.glo_ok X G (cd.facts (f := .glo "put_in_table") (List.mem_append_left _ (List.mem_append_right _ (List.mem_map.mpr ⟨D_put_in_table, List.mem_of_getElem? (i := 17) rfl, rfl⟩))))
  obtain ⟨fd_word_of, FD_word_of⟩ := cd.def_ 18 (d := D_word_of) rfl
  have gl_word_of := He.glo_ok X G (cd.facts (f := .glo "word_of") (List.mem_append_left _ (List.mem_append_right _ (List.mem_map.mpr ⟨D_word_of, List.mem_of_getElem? (i := 18) rfl, rfl⟩))))
  obtain ⟨fd_letter_of, FD_letter_of⟩ := cd.def_ 19 (d := D_letter_of) rfl
  have gl_letter_of := He.glo_ok X G (cd.facts (f := .glo "letter_of") (List.mem_append_left _ (List.mem_append_right _ (List.mem_map.mpr ⟨D_letter_of, List.mem_of_getElem? (i := 19) rfl, rfl⟩))))
  obtain ⟨fd_text_of_row, FD_text_of_row⟩ := cd.def_ 20 (d := D_text_of_row) rfl
  have gl_text_of_row := He.glo_ok X G (cd.facts (f := .glo "text_of_row") (List.mem_append_left _ (List.mem_append_right _ (List.mem_map.mpr ⟨D_text_of_row, List.mem_of_getElem? (i := 20) rfl, rfl⟩))))
  obtain ⟨fd_text_of_table, FD_text_of_table⟩ := cd.def_ 21 (d := D_text_of_table) rfl
  have gl_text_of_table := He.glo_ok X G (cd.facts (f := .glo "text_of_table") (List.mem_append_left _ (List.mem_append_right _ (List.mem_map.mpr ⟨D_text_of_table, List.mem_of_getElem? (i := 21) rfl, rfl⟩))))
  obtain ⟨fd__law_cell, FD__law_cell⟩ := cd.def_ 22 (d := D__law_cell) rfl
  have gl__law_cell := He.glo_ok X G (cd.facts (f := .glo "_law_cell") (List.mem_append_left _ (List.mem_append_right _ (List.mem_map.mpr ⟨D__law_cell, List.mem_of_getElem? (i := 22) rfl, rfl⟩))))
  obtain ⟨fd__law_draws, FD__law_draws⟩ := cd.def_ 23 (d := D__law_draws) rfl
  have gl__law_draws := He.glo_ok X G (cd.facts (f := .glo "_law_draws") (List.mem_append_left _ (List.mem_append_right _ (List.mem_map.mpr ⟨D__law_draws, List.mem_of_getElem? (i := 23) rfl, rfl⟩))))
  obtain ⟨fd__law_add, FD__law_add⟩ := cd.def_ 24 (d := D__law_add) rfl
  have gl__law_add := He.glo_ok X G (cd.facts (f := .glo "_law_add") (List.mem_append_left _ (List.mem_append_right _ (List.mem_map.mpr ⟨D__law_add, List.mem_of_getElem? (i := 24) rfl, rfl⟩))))
  obtain ⟨fd__law_mul, FD__law_mul⟩ := cd.def_ 25 (d := D__law_mul) rfl
  have gl__law_mul := He.glo_ok X G (cd.facts (f := .glo "_law_mul") (List.mem_append_left _ (List.mem_append_right _ (List.mem_map.mpr ⟨D__law_mul, List.mem_of_getElem? (i := 25) rfl, rfl⟩))))
  obtain ⟨fd__law_told, FD__law_told⟩ := cd.def_ 26 (d := D__law_told) rfl
  have gl__law_told := He.glo_ok X G (cd.facts (f := .glo "_law_told") (List.mem_append_left _ (List.mem_append_right _ (List.mem_map.mpr ⟨D__law_told, List.mem_of_getElem? (i := 26) rfl, rfl⟩))))
  obtain ⟨fd__law_worth, FD__law_worth⟩ := cd.def_ 27 (d := D__law_worth) rfl
  have gl__law_worth := He.glo_ok X G (cd.facts (f := .glo "_law_worth") (List.mem_append_left _ (List.mem_append_right _ (List.mem_map.mpr ⟨D__law_worth, List.mem_of_getElem? (i := 27) rfl, rfl⟩))))
  obtain ⟨fd__law_power, FD__law_power⟩ := cd.def_ 28 (d := D__law_power) rfl
  have gl__law_power := He.glo_ok X G (cd.facts (f := .glo "_law_power") (List.mem_append_left _ (List.mem_append_right _ (List.mem_map.mpr ⟨D__law_power, List.mem_of_getElem? (i := 28) rfl, rfl⟩))))
  obtain ⟨fd__law_at, FD__law_at⟩ := cd.def_ 29 (d := D__law_at) rfl
  have gl__law_at := He.glo_ok X G (cd.facts (f := .glo "_law_at") (List.mem_append_left _ (List.mem_append_right _ (List.mem_map.mpr ⟨D__law_at, List.mem_of_getElem? (i := 29) rfl, rfl⟩))))
  obtain ⟨fd__law_clean, FD__law_clean⟩ := cd.def_ 30 (d := D__law_clean) rfl
  have gl__law_clean := He.glo_ok X G (cd.facts (f := .glo "_law_clean") (List.mem_append_left _ (List.mem_append_right _ (List.mem_map.mpr ⟨D__law_clean, List.mem_of_getElem? (i := 30) rfl, rfl⟩))))
  obtain ⟨fd__law_word, FD__law_word⟩ := cd.def_ 31 (d := D__law_word) rfl
  have gl__law_word := He.glo_ok X G (cd.facts (f := .glo "_law_word") (List.mem_append_left _ (List.mem_append_right _ (List.mem_map.mpr ⟨D__law_word, List.mem_of_getElem? (i := 31) rfl, rfl⟩))))
  obtain ⟨fd__law_letter, FD__law_letter⟩ := cd.def_ 32 (d := D__law_letter) rfl
  have gl__law_letter := He.glo_ok X G (cd.facts (f := .glo "_law_letter") (List.mem_append_left _ (List.mem_append_right _ (List.mem_map.mpr ⟨D__law_letter, List.mem_of_getElem? (i := 32) rfl, rfl⟩))))
  obtain ⟨fd_law, FD_law⟩ := cd.def_ 33 (d := D_law) rfl
  have gl_law := He.glo_ok X G (cd.facts (f := .glo "law") (List.mem_append_left _ (List.mem_append_right _ (List.mem_map.mpr ⟨D_law, List.mem_of_getElem? (i := 33) rfl, rfl⟩))))
  have e := hfa.symm.trans gl_law
  cases e
  have bA := FunD.bindsA (ps := ["script"]) FD_law fun _ _ _ _ _ _ us hl => match us, hl with | [_], _ => rfl
  obtain ⟨cc_is_table, hc_is_table⟩ := code_of FD_is_table
  obtain ⟨cc_text_of_table, hc_text_of_table⟩ := code_of FD_text_of_table
  refine ⟨fd_law, tf.map (He.cT K), spD ⟨K, w, 0⟩ ((tf.map (He.cT K)).map (·.2)) (fun n => He.ga K ((excs[n]?).getD "")) 1 g_law, fun p hp => ?_, fun p hp => ?_, fun p hp => ?_, fun s u => bA s [u] rfl, fun H a ns hl _ hT hS => law_sp hT hS (plain ns hl), fun base hK hbn hTB => ?_⟩
  · obtain ⟨q, hq, rfl⟩ := List.mem_map.mp hp
    exact c.empty q hq
  · obtain ⟨q, hq, rfl⟩ := List.mem_map.mp hp
    exact c.out q hq
  · obtain ⟨q, hq, rfl⟩ := List.mem_map.mp hp
    exact PySem.W.codeHd_of_K X (c.hd q hq)
  have mo : Mo (PySem.Challenge.rw_matroidworks_k26_polynomials).prog w K mg base ⟨K, w, 0⟩ ((tf.map (He.cT K)).map (·.2)) (fun n => He.ga K ((excs[n]?).getD "")) excs := mo_of cd X G (fun x hx => List.mem_append_left _ (List.mem_append_left _ (List.mem_append_left _ (List.mem_append_left _ (List.mem_map.mpr ⟨x, hx, rfl⟩))))) (fun x hx => ⟨List.mem_append_left _ (List.mem_append_left _ (List.mem_append_left _ (List.mem_append_right _ (List.mem_map.mpr ⟨x, hx, rfl⟩)))), List.mem_append_left _ (List.mem_append_left _ (List.mem_append_right _ (List.mem_map.mpr ⟨x, hx, rfl⟩)))⟩) (by decide)
  have hcs : ∀ (x : Str) (i : Int), consts.lookup x = some i → ∃ t, mg x = some (.int i t) := fun x i hx => He.int_ok X G (cd.facts (List.mem_append_right _ (List.mem_map.mpr ⟨(x, i), lookup_mem hx, rfl⟩)))
  have ok_is_number := fn_ok (fd := d_is_number) (F := F_is_number) (k := 0) (excs := excs) (fns := c_is_number) (okA := okA a_is_number) mo FD_is_number sc_is_number rfl rfl hf_nil consts hcs ck_is_number
  obtain ⟨dv_is_number_1, rv_is_number_1, b_is_number_1⟩ := FD_is_number.binds1 (ps := ["value", "low"]) 1 0 (fun z => nomatch z) rfl fun _ _ _ _ _ _ _ us its hu hi => match us, its, hu, hi with | [_], [_], _, _ => ⟨_, rfl, rfl⟩
  have A_is_number_1 : FnAt _ _ _ _ _ _ _ _ _ 1 "is_number" 1 (fun ds => runF F_is_number d_is_number (ds ++ [.non])) := fnAt_dfl ok_is_number gl_is_number FD_is_number.kp b_is_number_1 rv_is_number_1 fun H => .cons rp_non .nil
  obtain ⟨dv_is_number_2, rv_is_number_2, b_is_number_2⟩ := FD_is_number.binds1 (ps := ["value", "low"]) 2 1 (fun z => nomatch z) rfl fun _ _ _ _ _ _ _ us its hu hi => match us, its, hu, hi with | [_, _], [_], _, _ => ⟨_, rfl, rfl⟩
  cases rv_is_number_2
  have A_is_number : FnAt _ _ _ _ _ _ _ _ _ 1 "is_number" 2 g_is_number := fnAt_full ok_is_number gl_is_number FD_is_number.kp b_is_number_2
  have ok_trimmed := fn_ok (fd := d_trimmed) (F := F_trimmed) (k := 0) (excs := excs) (fns := c_trimmed) (okA := okA a_trimmed) mo FD_trimmed sc_trimmed rfl rfl hf_nil consts hcs ck_trimmed
  have A_trimmed : FnAt _ _ _ _ _ _ _ _ _ 1 "trimmed" 1 g_trimmed := fnAt_full ok_trimmed gl_trimmed FD_trimmed.kp (FD_trimmed.bindsN fun _ _ _ _ _ _ us hl => match us, hl with | [_], _ => rfl)
  have ok_plus := fn_ok (fd := d_plus) (F := F_plus) (k := 1) (excs := excs) (fns := c_plus) (okA := okA a_plus) mo FD_plus sc_plus rfl rfl (hf_cons (A_trimmed.mono (by decide)) hf_nil) consts hcs ck_plus
  have A_plus : FnAt _ _ _ _ _ _ _ _ _ 2 "plus" 2 g_plus := fnAt_full ok_plus gl_plus FD_plus.kp (FD_plus.bindsN fun _ _ _ _ _ _ us hl => match us, hl with | [_, _], _ => rfl)
  have ok_scaled := fn_ok (fd := d_scaled) (F := F_scaled) (k := 1) (excs := excs) (fns := c_scaled) (okA := okA a_scaled) mo FD_scaled sc_scaled rfl rfl (hf_cons (A_trimmed.mono (by decide)) hf_nil) consts hcs ck_scaled
  have A_scaled : FnAt _ _ _ _ _ _ _ _ _ 2 "scaled" 2 g_scaled := fnAt_full ok_scaled gl_scaled FD_scaled.kp (FD_scaled.bindsN fun _ _ _ _ _ _ us hl => match us, hl with | [_, _], _ => rfl)
  have ok_times := fn_ok (fd := d_times) (F := F_times) (k := 1) (excs := excs) (fns := c_times) (okA := okA a_times) mo FD_times sc_times rfl rfl (hf_cons (A_trimmed.mono (by decide)) hf_nil) consts hcs ck_times
  have A_times : FnAt _ _ _ _ _ _ _ _ _ 2 "times" 2 g_times := fnAt_full ok_times gl_times FD_times.kp (FD_times.bindsN fun _ _ _ _ _ _ us hl => match us, hl with | [_, _], _ => rfl)
  have ok_power := fn_ok (fd := d_power) (F := F_power) (k := 2) (excs := excs) (fns := c_power) (okA := okA a_power) mo FD_power sc_power rfl rfl (hf_cons (A_times.mono (by decide)) hf_nil) consts hcs ck_power
  have A_power : FnAt _ _ _ _ _ _ _ _ _ 3 "power" 2 g_power := fnAt_full ok_power gl_power FD_power.kp (FD_power.bindsN fun _ _ _ _ _ _ us hl => match us, hl with | [_, _], _ => rfl)
  have ok_worth := fn_ok (fd := d_worth) (F := F_worth) (k := 0) (excs := excs) (fns := c_worth) (okA := okA a_worth) mo FD_worth sc_worth rfl rfl hf_nil consts hcs ck_worth
  have A_worth : FnAt _ _ _ _ _ _ _ _ _ 1 "worth" 2 g_worth := fnAt_full ok_worth gl_worth FD_worth.kp (FD_worth.bindsN fun _ _ _ _ _ _ us hl => match us, hl with | [_, _], _ => rfl)
  have ok_put_in := fn_ok (fd := d_put_in) (F := F_put_in) (k := 2) (excs := excs) (fns := c_put_in) (okA := okA a_put_in) mo FD_put_in sc_put_in rfl rfl (hf_cons (A_plus.mono (by decide)) (hf_cons (A_times.mono (by decide)) hf_nil)) consts hcs ck_put_in
  have A_put_in : FnAt _ _ _ _ _ _ _ _ _ 3 "put_in" 2 g_put_in := fnAt_full ok_put_in gl_put_in FD_put_in.kp (FD_put_in.bindsN fun _ _ _ _ _ _ us hl => match us, hl with | [_, _], _ => rfl)
  have ok_table_of := fn_ok (fd := d_table_of) (F := F_table_of) (k := 0) (excs := excs) (fns := c_table_of) (okA := okA a_table_of) mo FD_table_of sc_table_of rfl rfl hf_nil consts hcs ck_table_of
  have A_table_of : FnAt _ _ _ _ _ _ _ _ _ 1 "table_of" 1 g_table_of := fnAt_full ok_table_of gl_table_of FD_table_of.kp (FD_table_of.bindsN fun _ _ _ _ _ _ us hl => match us, hl with | [_], _ => rfl)
  have ok_is_table := fn_okG (fd := d_is_table) (F := F_is_table) (k := 1) (excs := excs) (fns := c_is_table) (okA := okA a_is_table) mo FD_is_table sc_is_table rfl rfl hc_is_table (tab_of (q := ("is_table", none)) FD_is_table hc_is_table (by decide) hTB) (tab_in (q := ("is_table", none)) (by decide)) (hf_cons (A_is_number.mono (by decide)) (hf_cons (A_is_number_1.mono (by decide)) hf_nil)) consts hcs ck_is_table
  have A_is_table : FnAt _ _ _ _ _ _ _ _ _ 3 "is_table" 1 g_is_table := fnAt_full ok_is_table gl_is_table FD_is_table.kp (FD_is_table.bindsN fun _ _ _ _ _ _ us hl => match us, hl with | [_], _ => rfl)
  have ok_check_table := fn_ok (fd := d_check_table) (F := F_check_table) (k := 3) (excs := excs) (fns := c_check_table) (okA := okA a_check_table) mo FD_check_table sc_check_table rfl rfl (hf_cons (A_is_table.mono (by decide)) hf_nil) consts hcs ck_check_table
  have A_check_table : FnAt _ _ _ _ _ _ _ _ _ 4 "check_table" 1 g_check_table := fnAt_full ok_check_table gl_check_table FD_check_table.kp (FD_check_table.bindsN fun _ _ _ _ _ _ us hl => match us, hl with | [_], _ => rfl)
  have ok_plus_tables := fn_ok (fd := d_plus_tables) (F := F_plus_tables) (k := 1) (excs := excs) (fns := c_plus_tables) (okA := okA a_plus_tables) mo FD_plus_tables sc_plus_tables rfl rfl (hf_cons (A_table_of.mono (by decide)) hf_nil) consts hcs ck_plus_tables
  have A_plus_tables : FnAt _ _ _ _ _ _ _ _ _ 2 "plus_tables" 2 g_plus_tables := fnAt_full ok_plus_tables gl_plus_tables FD_plus_tables.kp (FD_plus_tables.bindsN fun _ _ _ _ _ _ us hl => match us, hl with | [_, _], _ => rfl)
  have ok_times_tables := fn_ok (fd := d_times_tables) (F := F_times_tables) (k := 1) (excs := excs) (fns := c_times_tables) (okA := okA a_times_tables) mo FD_times_tables sc_times_tables rfl rfl (hf_cons (A_table_of.mono (by decide)) hf_nil) consts hcs ck_times_tables
  have A_times_tables : FnAt _ _ _ _ _ _ _ _ _ 2 "times_tables" 2 g_times_tables := fnAt_full ok_times_tables gl_times_tables FD_times_tables.kp (FD_times_tables.bindsN fun _ _ _ _ _ _ us hl => match us, hl with | [_, _], _ => rfl)
  have ok_power_of_table := fn_ok (fd := d_power_of_table) (F := F_power_of_table) (k := 2) (excs := excs) (fns := c_power_of_table) (okA := okA a_power_of_table) mo FD_power_of_table sc_power_of_table rfl rfl (hf_cons (A_times_tables.mono (by decide)) hf_nil) consts hcs ck_power_of_table
  have A_power_of_table : FnAt _ _ _ _ _ _ _ _ _ 3 "power_of_table" 2 g_power_of_table := fnAt_full ok_power_of_table gl_power_of_table FD_power_of_table.kp (FD_power_of_table.bindsN fun _ _ _ _ _ _ us hl => match us, hl with | [_, _], _ => rfl)
  have ok_to_power := fn_ok (fd := d_to_power) (F := F_to_power) (k := 0) (excs := excs) (fns := c_to_power) (okA := okA a_to_power) mo FD_to_power sc_to_power rfl rfl hf_nil consts hcs ck_to_power
  have A_to_power : FnAt _ _ _ _ _ _ _ _ _ 1 "to_power" 2 g_to_power := fnAt_full ok_to_power gl_to_power FD_to_power.kp (FD_to_power.bindsN fun _ _ _ _ _ _ us hl => match us, hl with | [_, _], _ => rfl)
  have ok_worth_of_table := fn_ok (fd := d_worth_of_table) (F := F_worth_of_table) (k := 4) (excs := excs) (fns := c_worth_of_table) (okA := okA a_worth_of_table) mo FD_worth_of_table sc_worth_of_table rfl rfl (hf_cons (A_check_table.mono (by decide)) (hf_cons (A_to_power.mono (by decide)) hf_nil)) consts hcs ck_worth_of_table
  have A_worth_of_table : FnAt _ _ _ _ _ _ _ _ _ 5 "worth_of_table" 3 g_worth_of_table := fnAt_full ok_worth_of_table gl_worth_of_table FD_worth_of_table.kp (FD_worth_of_table.bindsN fun _ _ _ _ _ _ us hl => match us, hl with | [_, _, _], _ => rfl)
  have ok_swapped := fn_ok (fd := d_swapped) (F := F_swapped) (k := 0) (excs := excs) (fns := c_swapped) (okA := okA a_swapped) mo FD_swapped sc_swapped rfl rfl hf_nil consts hcs ck_swapped
  have A_swapped : FnAt _ _ _ _ _ _ _ _ _ 1 "swapped" 1 g_swapped := fnAt_full ok_swapped gl_swapped FD_swapped.kp (FD_swapped.bindsN fun _ _ _ _ _ _ us hl => match us, hl with | [_], _ => rfl)
  have ok_put_in_table := fn_ok (fd := d_put_in_table) (F := F_put_in_table) (k := 3) (excs := excs) (fns := c_put_in_table) (okA := okA a_put_in_table) mo FD_put_in_table sc_put_in_table rfl rfl (hf_cons (A_plus.mono (by decide)) (hf_cons (A_scaled.mono (by decide)) (hf_cons (A_times.mono (by decide)) (hf_cons (A_power.mono (by decide)) hf_nil)))) consts hcs ck_put_in_table
  have A_put_in_table : FnAt _ _ _ _ _ _ _ _ _ 4 "put_in_table" 3 g_put_in_table := fnAt_full ok_put_in_table gl_put_in_table FD_put_in_table.kp (FD_put_in_table.bindsN fun _ _ _ _ _ _ us hl => match us, hl with | [_, _, _], _ => rfl)
  have ok_word_of := fn_ok (fd := d_word_of) (F := F_word_of) (k := 0) (excs := excs) (fns := c_word_of) (okA := okA a_word_of) mo FD_word_of sc_word_of rfl rfl hf_nil consts hcs ck_word_of
  have A_word_of : FnAt _ _ _ _ _ _ _ _ _ 1 "word_of" 3 g_word_of := fnAt_full ok_word_of gl_word_of FD_word_of.kp (FD_word_of.bindsN fun _ _ _ _ _ _ us hl => match us, hl with | [_, _, _], _ => rfl)
  have ok_letter_of := fn_ok (fd := d_letter_of) (F := F_letter_of) (k := 0) (excs := excs) (fns := c_letter_of) (okA := okA a_letter_of) mo FD_letter_of sc_letter_of rfl rfl hf_nil consts hcs ck_letter_of
  have A_letter_of : FnAt _ _ _ _ _ _ _ _ _ 1 "letter_of" 2 g_letter_of := fnAt_full ok_letter_of gl_letter_of FD_letter_of.kp (FD_letter_of.bindsN fun _ _ _ _ _ _ us hl => match us, hl with | [_, _], _ => rfl)
  have ok_text_of_row := fn_ok (fd := d_text_of_row) (F := F_text_of_row) (k := 1) (excs := excs) (fns := c_text_of_row) (okA := okA a_text_of_row) mo FD_text_of_row sc_text_of_row rfl rfl (hf_cons (A_word_of.mono (by decide)) (hf_cons (A_letter_of.mono (by decide)) hf_nil)) consts hcs ck_text_of_row
  have A_text_of_row : FnAt _ _ _ _ _ _ _ _ _ 2 "text_of_row" 2 g_text_of_row := fnAt_full ok_text_of_row gl_text_of_row FD_text_of_row.kp (FD_text_of_row.bindsN fun _ _ _ _ _ _ us hl => match us, hl with | [_, _], _ => rfl)
  have ok_text_of_table := fn_okG (fd := d_text_of_table) (F := F_text_of_table) (k := 4) (excs := excs) (fns := c_text_of_table) (okA := okA a_text_of_table) mo FD_text_of_table sc_text_of_table rfl rfl hc_text_of_table (tab_of (q := ("text_of_table", none)) FD_text_of_table hc_text_of_table (by decide) hTB) (tab_in (q := ("text_of_table", none)) (by decide)) (hf_cons (A_check_table.mono (by decide)) (hf_cons (A_word_of.mono (by decide)) (hf_cons (A_letter_of.mono (by decide)) hf_nil))) consts hcs ck_text_of_table
  have A_text_of_table : FnAt _ _ _ _ _ _ _ _ _ 6 "text_of_table" 1 g_text_of_table := fnAt_full ok_text_of_table gl_text_of_table FD_text_of_table.kp (FD_text_of_table.bindsN fun _ _ _ _ _ _ us hl => match us, hl with | [_], _ => rfl)
  have ok__law_cell := fn_ok (fd := d__law_cell) (F := F__law_cell) (k := 0) (excs := excs) (fns := c__law_cell) (okA := okA a__law_cell) mo FD__law_cell sc__law_cell rfl rfl hf_nil consts hcs ck__law_cell
  have A__law_cell : FnAt _ _ _ _ _ _ _ _ _ 1 "_law_cell" 2 g__law_cell := fnAt_full ok__law_cell gl__law_cell FD__law_cell.kp (FD__law_cell.bindsN fun _ _ _ _ _ _ us hl => match us, hl with | [_, _], _ => rfl)
  have ok__law_draws := fn_ok (fd := d__law_draws) (F := F__law_draws) (k := 0) (excs := excs) (fns := c__law_draws) (okA := okA a__law_draws) mo FD__law_draws sc__law_draws rfl rfl hf_nil consts hcs ck__law_draws
  have A__law_draws : FnAt _ _ _ _ _ _ _ _ _ 1 "_law_draws" 2 g__law_draws := fnAt_full ok__law_draws gl__law_draws FD__law_draws.kp (FD__law_draws.bindsN fun _ _ _ _ _ _ us hl => match us, hl with | [_, _], _ => rfl)
  have ok__law_add := fn_ok (fd := d__law_add) (F := F__law_add) (k := 0) (excs := excs) (fns := c__law_add) (okA := okA a__law_add) mo FD__law_add sc__law_add rfl rfl hf_nil consts hcs ck__law_add
  have A__law_add : FnAt _ _ _ _ _ _ _ _ _ 1 "_law_add" 2 g__law_add := fnAt_full ok__law_add gl__law_add FD__law_add.kp (FD__law_add.bindsN fun _ _ _ _ _ _ us hl => match us, hl with | [_, _], _ => rfl)
  have ok__law_mul := fn_ok (fd := d__law_mul) (F := F__law_mul) (k := 0) (excs := excs) (fns := c__law_mul) (okA := okA a__law_mul) mo FD__law_mul sc__law_mul rfl rfl hf_nil consts hcs ck__law_mul
  have A__law_mul : FnAt _ _ _ _ _ _ _ _ _ 1 "_law_mul" 2 g__law_mul := fnAt_full ok__law_mul gl__law_mul FD__law_mul.kp (FD__law_mul.bindsN fun _ _ _ _ _ _ us hl => match us, hl with | [_, _], _ => rfl)
  have ok__law_told := fn_ok (fd := d__law_told) (F := F__law_told) (k := 0) (excs := excs) (fns := c__law_told) (okA := okA a__law_told) mo FD__law_told sc__law_told rfl rfl hf_nil consts hcs ck__law_told
  have A__law_told : FnAt _ _ _ _ _ _ _ _ _ 1 "_law_told" 1 g__law_told := fnAt_full ok__law_told gl__law_told FD__law_told.kp (FD__law_told.bindsN fun _ _ _ _ _ _ us hl => match us, hl with | [_], _ => rfl)
  have ok__law_worth := fn_ok (fd := d__law_worth) (F := F__law_worth) (k := 0) (excs := excs) (fns := c__law_worth) (okA := okA a__law_worth) mo FD__law_worth sc__law_worth rfl rfl hf_nil consts hcs ck__law_worth
  have A__law_worth : FnAt _ _ _ _ _ _ _ _ _ 1 "_law_worth" 2 g__law_worth := fnAt_full ok__law_worth gl__law_worth FD__law_worth.kp (FD__law_worth.bindsN fun _ _ _ _ _ _ us hl => match us, hl with | [_, _], _ => rfl)
  have ok__law_power := fn_ok (fd := d__law_power) (F := F__law_power) (k := 0) (excs := excs) (fns := c__law_power) (okA := okA a__law_power) mo FD__law_power sc__law_power rfl rfl hf_nil consts hcs ck__law_power
  have A__law_power : FnAt _ _ _ _ _ _ _ _ _ 1 "_law_power" 2 g__law_power := fnAt_full ok__law_power gl__law_power FD__law_power.kp (FD__law_power.bindsN fun _ _ _ _ _ _ us hl => match us, hl with | [_, _], _ => rfl)
  have ok__law_at := fn_ok (fd := d__law_at) (F := F__law_at) (k := 1) (excs := excs) (fns := c__law_at) (okA := okA a__law_at) mo FD__law_at sc__law_at rfl rfl (hf_cons (A__law_power.mono (by decide)) hf_nil) consts hcs ck__law_at
  have A__law_at : FnAt _ _ _ _ _ _ _ _ _ 2 "_law_at" 3 g__law_at := fnAt_full ok__law_at gl__law_at FD__law_at.kp (FD__law_at.bindsN fun _ _ _ _ _ _ us hl => match us, hl with | [_, _, _], _ => rfl)
  have ok__law_clean := fn_ok (fd := d__law_clean) (F := F__law_clean) (k := 0) (excs := excs) (fns := c__law_clean) (okA := okA a__law_clean) mo FD__law_clean sc__law_clean rfl rfl hf_nil consts hcs ck__law_clean
  have A__law_clean : FnAt _ _ _ _ _ _ _ _ _ 1 "_law_clean" 1 g__law_clean := fnAt_full ok__law_clean gl__law_clean FD__law_clean.kp (FD__law_clean.bindsN fun _ _ _ _ _ _ us hl => match us, hl with | [_], _ => rfl)
  have ok__law_word := fn_ok (fd := d__law_word) (F := F__law_word) (k := 0) (excs := excs) (fns := c__law_word) (okA := okA a__law_word) mo FD__law_word sc__law_word rfl rfl hf_nil consts hcs ck__law_word
  have A__law_word : FnAt _ _ _ _ _ _ _ _ _ 1 "_law_word" 3 g__law_word := fnAt_full ok__law_word gl__law_word FD__law_word.kp (FD__law_word.bindsN fun _ _ _ _ _ _ us hl => match us, hl with | [_, _, _], _ => rfl)
  have ok__law_letter := fn_ok (fd := d__law_letter) (F := F__law_letter) (k := 0) (excs := excs) (fns := c__law_letter) (okA := okA a__law_letter) mo FD__law_letter sc__law_letter rfl rfl hf_nil consts hcs ck__law_letter
  have A__law_letter : FnAt _ _ _ _ _ _ _ _ _ 1 "_law_letter" 2 g__law_letter := fnAt_full ok__law_letter gl__law_letter FD__law_letter.kp (FD__law_letter.bindsN fun _ _ _ _ _ _ us hl => match us, hl with | [_, _], _ => rfl)
  have ok_law := fn_ok (fd := d_law) (F := F_law) (k := 6) (excs := excs) (fns := c_law) (okA := okA a_law) mo FD_law sc_law rfl rfl (hf_cons (A__law_draws.mono (by decide)) (hf_cons (A__law_cell.mono (by decide)) (hf_cons (A_trimmed.mono (by decide)) (hf_cons (A__law_clean.mono (by decide)) (hf_cons (A_plus.mono (by decide)) (hf_cons (A_times.mono (by decide)) (hf_cons (A_scaled.mono (by decide)) (hf_cons (A_power.mono (by decide)) (hf_cons (A_put_in.mono (by decide)) (hf_cons (A__law_worth.mono (by decide)) (hf_cons (A__law_power.mono (by decide)) (hf_cons (A_worth.mono (by decide)) (hf_cons (A__law_told.mono (by decide)) (hf_cons (A_times_tables.mono (by decide)) (hf_cons (A__law_mul.mono (by decide)) (hf_cons (A_plus_tables.mono (by decide)) (hf_cons (A__law_add.mono (by decide)) (hf_cons (A_swapped.mono (by decide)) (hf_cons (A_power_of_table.mono (by decide)) (hf_cons (A_worth_of_table.mono (by decide)) (hf_cons (A__law_at.mono (by decide)) (hf_cons (A_put_in_table.mono (by decide)) (hf_cons (A__law_letter.mono (by decide)) (hf_cons (A__law_word.mono (by decide)) (hf_cons (A_text_of_row.mono (by decide)) (hf_cons (A_is_table.mono (by decide)) (hf_cons (A_text_of_table.mono (by decide)) hf_nil))))))))))))))))))))))))))) consts hcs ck_law
  exact ok_law
end K26
open PySem PySem.W PySem.Calls PyProof.Rows
theorem K26.holds (plain : ∀ ns : List Int, ns.length ≤ 63 → K26.g_law [.scr (ns.map .int)] = .ok (.bl true)) : PySem.Challenge.rw_matroidworks_k26_polynomials.Holds := by
  w_on; o_law
  refine HandSHeadRun.head_any (r := OpenLaw.row PySem.Challenge.rw_matroidworks_k26_polynomials) (q := view (OpenLaw.row PySem.Challenge.rw_matroidworks_k26_polynomials).prog [39]) (H := K26.hk) (ob := K26.ob) (M := 6000) (loose := K26.loose) (d := HandSHeadRun.topDef (OpenLaw.row PySem.Challenge.rw_matroidworks_k26_polynomials).prog 39) (kwd := []) K26.ob_eq
    (by kernel_rfl) (fun s => by kernel_rfl) K26.run (by kernel_rfl) (by kernel_rfl) (by kernel_rfl) (by rfl) (by first | assumption | decide +kernel) (by decide +kernel) ⟨rfl, rfl, rfl, rfl, rfl, by decide +kernel⟩ ?hw ?hc
  case hw => w_witness2
  case hc =>
    refine Dx.walk_ofX (l := PySem.Challenge.rw_matroidworks_k26_polynomials) (n := 63) (k := 7) (x := "script") (CX := fun w => L2.CX (PySem.Challenge.rw_matroidworks_k26_polynomials).prog w) rfl (by decide) (by kernel_rfl) ⟨rfl, by decide, by decide⟩ ?F fun w H s e s' z => ?_
    · intro w mg fa h Y G hmg0
      obtain ⟨K, KX, c⟩ := Y
      have hmg : mg ("law" : PySem.Str) = some (.ref fa) := by
        have e : (HandSHeadRun.topDef (OpenLaw.row PySem.Challenge.rw_matroidworks_k26_polynomials).prog 39).name = ("law" : PySem.Str) := by kernel_rfl
        rw [← e]
        exact hmg0
      exact ⟨K, KX, K26.facts plain KX G hmg c⟩
    · obtain ⟨a, B, H', cls, d, _, _, _, _, _, _, _, z⟩ := z
      exact z
namespace K26
open Dx
/-- without noughts at its end -/
def trim : List Int → List Int
  | [] => []
  | c :: l => if trim l = [] ∧ c = 0 then [] else c :: trim l
theorem trim_nil : trim [] = [] := rfl
theorem trim_cons (c : Int) (l : List Int) : trim (c :: l) = if trim l = [] ∧ c = 0 then [] else c :: trim l := rfl
theorem trim_zero : ∀ l : List Int, trim (l ++ [0]) = trim l
  | [] => rfl
  | c :: l => by rw [List.cons_append, trim_cons, trim_cons, trim_zero l]
def clean (l : List Int) : Prop := l = [] ∨ ∃ l' c, l = l' ++ [c] ∧ c ≠ 0
theorem trim_keep : ∀ (l : List Int) (c : Int), c ≠ 0 → trim (l ++ [c]) = l ++ [c]
  | [], c, h => by rw [List.nil_append, trim_cons, if_neg fun z => h z.2]; rfl
  | a :: l, c, h => by rw [List.cons_append, trim_cons, trim_keep l c h, if_neg (fun z => by simp at z)]
theorem trim_of_clean {l : List Int} (h : clean l) : trim l = l := by
  rcases h with rfl | ⟨l', c, rfl, h⟩
  · rfl
  · exact trim_keep l' c h
theorem clean_trim : ∀ l : List Int, clean (trim l)
  | [] => .inl rfl
  | c :: l => by
    rw [trim_cons]
    split
    · exact .inl rfl
    · rename_i n
      rcases clean_trim l with h | ⟨l', d, h, hd⟩
      · rw [h]
        refine .inr ⟨[], c, rfl, fun z => n ⟨h, z⟩⟩
      · rw [h]
        exact .inr ⟨c :: l', d, rfl, hd⟩
theorem trim_trim (l : List Int) : trim (trim l) = trim l := trim_of_clean (clean_trim l)
theorem trim_len : ∀ l : List Int, (trim l).length ≤ l.length
  | [] => Nat.le_refl _
  | c :: l => by
    rw [trim_cons]
    have := trim_len l
    split
    · simp
    · simp; exact this
/-- the value at a number -/
def val (x : Int) : List Int → Int
  | [] => 0
  | c :: l => val x l * x + c
theorem val_trim (x : Int) : ∀ l : List Int, val x (trim l) = val x l
  | [] => rfl
  | c :: l => by
    rw [trim_cons]
    have ih := val_trim x l
    split
    · rename_i h
      rw [h.1] at ih
      show 0 = val x l * x + c
      rw [← ih, h.2]; simp [val]
    · show val x (trim l) * x + c = val x l * x + c
      rw [ih]
theorem val_app (x : Int) : ∀ (l m : List Int), val x (l ++ m) = val x l + x ^ l.length * val x m
  | [], m => by simp [val]
  | c :: l, m => by
    show val x (l ++ m) * x + c = (val x l * x + c) + x ^ (l.length + 1) * val x m
    rw [val_app x l m, Int.pow_succ, Int.add_mul]
    have : x ^ l.length * val x m * x = x ^ l.length * x * val x m := by rw [Int.mul_assoc, Int.mul_comm (val x m), ← Int.mul_assoc]
    rw [this]; omega
theorem val_zeros (x : Int) : ∀ n : Nat, val x (List.replicate n 0) = 0
  | 0 => rfl
  | n + 1 => by
    show val x (List.replicate n 0) * x + 0 = 0
    rw [val_zeros x n]; simp
/-! trimmed -/
theorem dInts_app (a b : List Int) : dInts (a ++ b) = dInts a ++ dInts b := List.map_append
theorem dropLast_app (a : List D) (d : D) : (a ++ [d]).dropLast = a := by simp
theorem len_dInts (a : List Int) : (dInts a).length = a.length := List.length_map _
theorem trimmed_run (l : List Int) (h : l.length ≤ 10000) : whileL (evT F_trimmed (.and (.e (.cmp .gt (.bi .len [.var 0]) (.lit (.int 0)))) (.e (.cmp .eq (.idx (.var 0) (.neg (.lit (.int 1)))) (.lit (.int 0)))))) (exB F_trimmed [.pop 0]) fuel [.own (dInts l)] = .ok (.nx [.own (dInts (trim l))]) := by
  have := whileL_run (β := List Int) (c := evT F_trimmed (.and (.e (.cmp .gt (.bi .len [.var 0]) (.lit (.int 0)))) (.e (.cmp .eq (.idx (.var 0) (.neg (.lit (.int 1)))) (.lit (.int 0)))))) (f := exB F_trimmed [.pop 0])
    (fun b env => env = [.own (dInts b)] ∧ trim b = trim l) List.length (fun b => !b.isEmpty && decide (b.getLast? = some 0)) List.dropLast ?_ ?_ fuel l [.own (dInts l)] ⟨rfl, rfl⟩ (by unfold fuel; omega)
  · obtain ⟨e, b, h1, ⟨rfl, h2⟩, h3⟩ := this
    rw [h1, ← h2]
    have : trim b = b := by
      rcases List.eq_nil_or_concat b with rfl | ⟨b', c, rfl⟩
      · rfl
      · rw [List.concat_eq_append] at h3 ⊢
        refine trim_keep b' c fun z => ?_
        subst z
        simp at h3
    rw [this]
  · intro b env ⟨e, _⟩
    subst e
    rcases List.eq_nil_or_concat b with rfl | ⟨b', c, rfl⟩
    · simp [getS, biD, litD]
    · simp [getS, biD, litD, g1I, dInts_app, L2.atI_last, len_dInts]
  · intro b env ⟨e, h2⟩ hg
    subst e
    rcases List.eq_nil_or_concat b with rfl | ⟨b', c, rfl⟩
    · simp at hg
    · rw [List.concat_eq_append] at hg h2 ⊢
      simp at hg
      subst hg
      refine ⟨⟨_, ?_, rfl, ?_⟩, ?_⟩
      · simp [exB_cons, exB_nil, exS_pop, popG, dInts_app]
      · simp [← h2, trim_zero]
      · simp
theorem g_trimmed_lst (l : List Int) (h : l.length ≤ 10000) : g_trimmed [.lst (dInts l)] = .ok (.tup (dInts (trim l))) := by
  have := trimmed_run l h
  simp [g_trimmed, runF, d_trimmed, Dx.start, exB_cons, exS_fresh, newG, getS, biD, Dx.ownOf, exS_while, this, exS_ret, retG]
theorem g_trimmed_tup (l : List Int) (h : l.length ≤ 10000) : g_trimmed [.tup (dInts l)] = .ok (.tup (dInts (trim l))) := by
  have := trimmed_run l h
  simp [g_trimmed, runF, d_trimmed, Dx.start, exB_cons, exS_fresh, newG, getS, biD, Dx.ownOf, exS_while, this, exS_ret, retG]
end K26
namespace K26
open Dx
/-! worth -/
theorem val_foldr (x : Int) : ∀ (l : List Int), l.foldr (fun c t => t * x + c) 0 = val x l
  | [] => rfl
  | c :: l => by rw [List.foldr_cons, val_foldr x l]; rfl
theorem g_worth_eq (l : List Int) (x : Int) (hx : small x = true) : g_worth [.tup (dInts l), .int x] = .ok (.int (val x l)) := by
  refine run_ret rfl ?_
  simp [d_worth, Dx.start, exB_cons, exS_asg, asgG]
  refine for_k D.int l.reverse (fun t c => t * x + c) 0 (fun t s => [.sh (.tup (dInts l)), .sh (.int x), .sh (.int t), s]) .none rfl rfl (by simp [revG]) rfl ?_ ?_
  · intro t c s _
    exact ⟨.sh (.int c), by simp [exB_cons, exS_asg, asgG, hx]⟩
  · intro s
    simp [val_foldr, exB_cons, exS_ret, retG]
theorem g_law_worth_eq (l : List Int) (x : Int) (hx : small x = true) : g__law_worth [.tup (dInts l), .int x] = .ok (.int (val x l)) := by
  refine run_ret rfl ?_
  simp [d__law_worth, Dx.start, exB_cons, exS_asg, asgG]
  refine for_k D.int l.reverse (fun t c => t * x + c) 0 (fun t s => [.sh (.tup (dInts l)), .sh (.int x), .sh (.int t), s]) .none rfl rfl (by simp [revG]) rfl ?_ ?_
  · intro t c s _
    exact ⟨.sh (.int c), by simp [exB_cons, exS_asg, asgG, hx]⟩
  · intro s
    simp [val_foldr, exB_cons, exS_ret, retG]
/-! plus -/
def pad (m : Nat) (l : List Int) : List Int := l ++ List.replicate (m - l.length) 0
def plusR (a b : List Int) : List Int := trim (((pad (max a.length b.length) a).zip (pad (max a.length b.length) b)).map fun p => p.1 + p.2)
theorem val_pad (x : Int) (m : Nat) (l : List Int) : val x (pad m l) = val x l := by
  unfold pad
  rw [val_app, val_zeros]; simp
theorem pad_len {m : Nat} {l : List Int} (h : l.length ≤ m) : (pad m l).length = m := by
  unfold pad; simp; omega
theorem val_zip (x : Int) : ∀ (a b : List Int), a.length = b.length → val x ((a.zip b).map fun p => p.1 + p.2) = val x a + val x b
  | [], [], _ => by simp [val]
  | [], _ :: _, h => by simp at h
  | _ :: _, [], h => by simp at h
  | c :: a, d :: b, h => by
    have ih := val_zip x a b (by simpa using h)
    show val x ((a.zip b).map fun p => p.1 + p.2) * x + (c + d) = (val x a * x + c) + (val x b * x + d)
    rw [ih, Int.add_mul]; omega
theorem val_plus (x : Int) (a b : List Int) : val x (plusR a b) = val x a + val x b := by
  unfold plusR
  rw [val_trim, val_zip, val_pad, val_pad]
  rw [pad_len (by omega), pad_len (by omega)]
theorem plus_len (a b : List Int) : (plusR a b).length ≤ max a.length b.length := by
  unfold plusR
  refine Nat.le_trans (trim_len _) ?_
  rw [List.length_map, List.length_zip, pad_len (by omega), pad_len (by omega)]; omega
theorem mul_tup (n : Nat) (h : n ≤ 1000) : opD .mul (.tup [.int 0]) (.int (n : Int)) = .ok (.tup (dInts (List.replicate n 0))) := by
  have e : (List.replicate n [D.int 0]).flatten = dInts (List.replicate n 0) := by
    induction n with
    | zero => rfl
    | succ n ih => rw [List.replicate_succ, List.flatten_cons, ih (by omega)]; rfl
  show (if _ then _ else _) = _
  rw [if_pos (by simp; omega)]
  rw [Int.toNat_natCast, e]
theorem mul_lst (n : Nat) (h : n ≤ 1000) : opD .mul (.lst [.int 0]) (.int (n : Int)) = .ok (.lst (dInts (List.replicate n 0))) := by
  have e : (List.replicate n [D.int 0]).flatten = dInts (List.replicate n 0) := by
    induction n with
    | zero => rfl
    | succ n ih => rw [List.replicate_succ, List.flatten_cons, ih (by omega)]; rfl
  show (if _ then _ else _) = _
  rw [if_pos (by simp; omega)]
  rw [Int.toNat_natCast, e]
theorem zipL_ints (a b : List Int) : zipL (dInts a) (dInts b) = (a.zip b).map fun p => .tup [.int p.1, .int p.2] := by
  unfold zipL
  rw [List.zip_map, List.map_map]
  rfl
theorem map_int {α : Type} (l : List α) (f : α → Int) : l.map (fun a => D.int (f a)) = dInts (l.map f) := by
  simp
theorem plus_zip_len (a b : List Int) : ((pad (max a.length b.length) a).zip (pad (max a.length b.length) b)).length = max a.length b.length := by
  rw [List.length_zip, pad_len (by omega), pad_len (by omega)]; omega
theorem pad_ev {F : Fns} {i : Nat} {env : DEnv} {l : List Int} {m : Nat} (hi : getS env i = .ok (.tup (dInts l))) (hm : getS env 2 = .ok (.int (m : Int))) (h : l.length ≤ m) (h2 : m ≤ 500) :
    evE F (.bin .add (.bi .tuple [.var i]) (.bin .mul (.tup [.lit (.int 0)]) (.bin .sub (.var 2) (.bi .len [.var i])))) env = .ok (.tup (dInts (pad m l))) := by
  have e1 : (m : Int) - (l.length : Int) = ((m - l.length : Nat) : Int) := by omega
  have f1 := mul_tup (m - l.length) (by omega)
  have w1 : fits (l.length + (m - l.length)) = true := fits_of (by omega)
  simp [hi, hm, tupG, show fits 1 = true from rfl, e1, f1, w1]
  unfold pad
  simp
theorem g_plus_eq (a b : List Int) (ha : a.length ≤ 500) (hb : b.length ≤ 500) : g_plus [.tup (dInts a), .tup (dInts b)] = .ok (.tup (dInts (plusR a b))) := by
  refine run_ret rfl ?_
  refine st_name (.int (max a.length b.length : Nat)) rfl ?_ ?_
  · simp [Dx.start, d_plus]; split <;> omega
  refine st_name _ rfl (pad_ev rfl rfl (Nat.le_max_left _ _) (by omega)) ?_
  refine st_name _ rfl (pad_ev rfl rfl (Nat.le_max_right _ _) (by omega)) ?_
  refine st_ret rfl (ev_call1 (.lst (dInts (((pad (max a.length b.length) a).zip (pad (max a.length b.length) b)).map fun p => p.1 + p.2))) rfl ?_ ?_)
  · rw [← map_int]
    refine lc_map (fun p : Int × Int => .tup [.int p.1, .int p.2]) _ _ ?_ (by rw [plus_zip_len]; omega) ?_
    · simp [Dx.start, d_plus, zipG, sameKind, ← zipL_ints]
    · intro p _
      simp [lcT, Dx.start, d_plus]
  · exact g_trimmed_lst _ (by rw [List.length_map, plus_zip_len]; omega)
end K26
namespace K26
open Dx
/-! scaled -/
def scaleR (a : List Int) (n : Int) : List Int := trim (a.map (· * n))
theorem val_scale (x n : Int) (a : List Int) : val x (scaleR a n) = val x a * n := by
  unfold scaleR
  rw [val_trim]
  induction a with
  | nil => simp [val]
  | cons c a ih =>
    show val x (a.map (· * n)) * x + c * n = (val x a * x + c) * n
    rw [ih, Int.add_mul, Int.mul_assoc, Int.mul_assoc, Int.mul_comm n x]
theorem scale_len (a : List Int) (n : Int) : (scaleR a n).length ≤ a.length := by
  unfold scaleR
  refine Nat.le_trans (trim_len _) ?_
  simp
theorem g_scaled_eq (a : List Int) (n : Int) (ha : a.length ≤ 1000) (hn : small n = true) : g_scaled [.tup (dInts a), .int n] = .ok (.tup (dInts (scaleR a n))) := by
  refine run_ret rfl ?_
  refine st_ret rfl (ev_call1 (.lst (dInts (a.map (· * n)))) rfl ?_ ?_)
  · rw [← map_int]
    refine lc_map D.int _ _ (by simp [Dx.start, d_scaled, seqG]) (by omega) ?_
    intro p _
    simp [lcT, Dx.start, d_scaled, hn]
  · exact g_trimmed_lst _ (by rw [List.length_map]; omega)
/-! powers of a number -/
theorem pow_fold (x : Int) : ∀ (n : Nat) (t : Int), (List.range n).foldl (fun t _ => t * x) t = t * x ^ n
  | 0, t => by simp
  | n + 1, t => by rw [List.range_succ, List.foldl_append, pow_fold x n t, List.foldl_cons, List.foldl_nil, Int.pow_succ, Int.mul_assoc]
theorem g_law_power_eq (x : Int) (n : Nat) (hx : small x = true) (hn : n ≤ 1000000) : g__law_power [.int x, .int n] = .ok (.int (x ^ n)) := by
  refine run_ret rfl ?_
  refine st_name (.int 1) rfl rfl ?_
  refine st_for ?_
  refine for_k (fun i : Nat => D.int i) (List.range n) (fun t _ => t * x) 1 (fun t s => [.sh (.int x), .sh (.int n), .sh (.int t), s]) .none rfl rfl (ev_rng1 rfl hn) rfl ?_ ?_
  · intro t c s _
    exact ⟨.sh (.int c), by simp [exB_cons, exS_asg, asgG, hx]⟩
  · intro s
    simp [pow_fold, exB_cons, exS_ret, retG]
theorem g_to_power_eq (x : Int) (n : Nat) (hx : small x = true) (hn : n ≤ 1000000) : g_to_power [.int x, .int n] = .ok (.int (x ^ n)) := by
  refine run_ret rfl ?_
  refine st_name (.int 1) rfl rfl ?_
  refine st_for ?_
  refine for_k (fun i : Nat => D.int i) (List.range n) (fun t _ => t * x) 1 (fun t s => [.sh (.int x), .sh (.int n), .sh (.int t), s]) .none rfl rfl (ev_rng1 rfl hn) rfl ?_ ?_
  · intro t c s _
    exact ⟨.sh (.int c), by simp [exB_cons, exS_asg, asgG, hx]⟩
  · intro s
    simp [pow_fold, exB_cons, exS_ret, retG]
/-! times -/
def addAt (r : List Int) (j : Nat) (v : Int) : List Int := r.set j (r[j]?.getD 0 + v)
def inner (i : Nat) (c : Int) (b : List Int) (r : List Int) : List Int := b.zipIdx.foldl (fun r p => addAt r (i + p.2) (c * p.1)) r
def outer (a b : List Int) (r : List Int) : List Int := a.zipIdx.foldl (fun r p => inner p.2 p.1 b r) r
def timesR (a b : List Int) : List Int := if a = [] ∨ b = [] then [] else trim (outer a b (List.replicate (a.length + b.length - 1) 0))
theorem addAt_len (r : List Int) (j : Nat) (v : Int) : (addAt r j v).length = r.length := List.length_set
theorem val_addAt (x : Int) : ∀ (r : List Int) (j : Nat) (v : Int), j < r.length → val x (addAt r j v) = val x r + v * x ^ j
  | [], j, v, h => absurd h (by simp)
  | c :: r, 0, v, h => by
    show val x r * x + (c + v) = (val x r * x + c) + v * x ^ 0
    simp; omega
  | c :: r, j + 1, v, h => by
    have ih := val_addAt x r j v (by simpa using h)
    have e : addAt (c :: r) (j + 1) v = c :: addAt r j v := by simp [addAt]
    rw [e]
    show val x (addAt r j v) * x + c = (val x r * x + c) + v * x ^ (j + 1)
    rw [ih, Int.add_mul, Int.pow_succ, Int.mul_assoc]; omega
theorem zipIdx_cons {α : Type} (a : α) (l : List α) (k : Nat) : (a :: l).zipIdx k = (a, k) :: l.zipIdx (k + 1) := rfl
theorem val_inner (x : Int) (i : Nat) (c : Int) : ∀ (b : List Int) (k : Nat) (r : List Int), i + k + b.length ≤ r.length →
    val x ((b.zipIdx k).foldl (fun r p => addAt r (i + p.2) (c * p.1)) r) = val x r + c * x ^ (i + k) * val x b ∧ ((b.zipIdx k).foldl (fun r p => addAt r (i + p.2) (c * p.1)) r).length = r.length
  | [], k, r, _ => by simp [val]
  | d :: b, k, r, h => by
    rw [zipIdx_cons, List.foldl_cons]
    obtain ⟨h1, h2⟩ := val_inner x i c b (k + 1) (addAt r (i + k) (c * d)) (by rw [addAt_len]; simp at h; omega)
    rw [h1, h2, addAt_len, val_addAt x r (i + k) (c * d) (by simp at h; omega)]
    refine ⟨?_, rfl⟩
    show _ = val x r + c * x ^ (i + k) * (val x b * x + d)
    rw [show i + (k + 1) = i + k + 1 from rfl, Int.pow_succ, Int.mul_add]
    have e1 : c * (x ^ (i + k) * x) * val x b = c * x ^ (i + k) * (val x b * x) := by
      simp only [Int.mul_assoc, Int.mul_comm, Int.mul_left_comm]
    have e2 : c * d * x ^ (i + k) = c * x ^ (i + k) * d := by
      simp only [Int.mul_assoc, Int.mul_comm, Int.mul_left_comm]
    rw [e1, e2]; omega
theorem val_outer (x : Int) (b : List Int) (hb : 0 < b.length) : ∀ (a : List Int) (k : Nat) (r : List Int), k + a.length + b.length ≤ r.length + 1 →
    val x ((a.zipIdx k).foldl (fun r p => inner p.2 p.1 b r) r) = val x r + x ^ k * val x a * val x b ∧ ((a.zipIdx k).foldl (fun r p => inner p.2 p.1 b r) r).length = r.length
  | [], k, r, _ => by simp [val]
  | c :: a, k, r, h => by
    rw [zipIdx_cons, List.foldl_cons]
    simp only [List.length_cons] at h
    obtain ⟨g1, g2⟩ := val_inner x k c b 0 r (by omega)
    have g1 : val x (inner k c b r) = _ := g1
    have g2 : (inner k c b r).length = _ := g2
    obtain ⟨h1, h2⟩ := val_outer x b hb a (k + 1) (inner k c b r) (by rw [g2]; omega)
    rw [h1, h2, g1, g2]
    refine ⟨?_, rfl⟩
    show _ = val x r + x ^ k * (val x a * x + c) * val x b
    rw [Int.pow_succ, Nat.add_zero, Int.mul_add, Int.add_mul]
    have e1 : c * x ^ k * val x b = x ^ k * c * val x b := by
      simp only [Int.mul_assoc, Int.mul_comm, Int.mul_left_comm]
    have e2 : x ^ k * x * val x a * val x b = x ^ k * (val x a * x) * val x b := by
      simp only [Int.mul_assoc, Int.mul_comm, Int.mul_left_comm]
    rw [e1, e2]; omega
theorem val_times (x : Int) (a b : List Int) : val x (timesR a b) = val x a * val x b := by
  unfold timesR
  split
  · rename_i h
    rcases h with rfl | rfl <;> simp [val]
  · rename_i h
    have ha : 0 < a.length := by
      cases a with
      | nil => exact absurd (.inl rfl) h
      | cons => simp
    have hb : 0 < b.length := by
      cases b with
      | nil => exact absurd (.inr rfl) h
      | cons => simp
    rw [val_trim]
    have := (val_outer x b hb a 0 (List.replicate (a.length + b.length - 1) 0) (by simp; omega)).1
    rw [show outer a b _ = _ from rfl]
    unfold outer
    rw [this, val_zeros]; simp
theorem inner_len (i : Nat) (c : Int) (b : List Int) : ∀ (k : Nat) (r : List Int), ((b.zipIdx k).foldl (fun r p => addAt r (i + p.2) (c * p.1)) r).length = r.length := by
  induction b with
  | nil => intro k r; rfl
  | cons d b ih => intro k r; rw [zipIdx_cons, List.foldl_cons, ih, addAt_len]
theorem outer_len (b : List Int) (a : List Int) : ∀ (k : Nat) (r : List Int), ((a.zipIdx k).foldl (fun r p => inner p.2 p.1 b r) r).length = r.length := by
  induction a with
  | nil => intro k r; rfl
  | cons d a ih => intro k r; rw [zipIdx_cons, List.foldl_cons, ih]; exact inner_len _ _ _ _ _
theorem times_len (a b : List Int) : (timesR a b).length ≤ a.length + b.length - 1 := by
  unfold timesR
  split
  · simp
  · refine Nat.le_trans (trim_len _) ?_
    unfold outer
    rw [outer_len]; simp
theorem clean_times (a b : List Int) : clean (timesR a b) := by
  unfold timesR
  split
  · exact .inl rfl
  · exact clean_trim _
theorem enumL_ints (a : List Int) : enumL (dInts a) = a.zipIdx.map fun p => .tup [.int p.2, .int p.1] := by
  have : ∀ (a : List Int) (k : Nat), (dInts a).zipIdx k = (a.zipIdx k).map fun p => (D.int p.1, p.2) := by
    intro a
    induction a with
    | nil => intro k; rfl
    | cons c a ih => intro k; rw [zipIdx_cons, List.map_cons, ← ih (k + 1)]; rfl
  unfold enumL
  rw [this, List.map_map]; rfl
theorem mem_zipIdx_lt {α : Type} {l : List α} {p : α × Nat} (h : p ∈ l.zipIdx) : p.2 < l.length ∧ p.1 ∈ l := by
  have := List.mem_zipIdx h
  refine ⟨by omega, ?_⟩
  rw [this.2.2]; exact List.getElem_mem _
theorem dInts_set (r : List Int) (j : Nat) (v : Int) : (dInts r).set j (.int v) = dInts (r.set j v) := by
  simp [dInts]
def smalls (l : List Int) : Prop := ∀ c ∈ l, small c = true
theorem g_times_eq (a b : List Int) (ha : a.length ≤ 400) (hb : b.length ≤ 400) (hs : smalls a ∨ smalls b) : g_times [.tup (dInts a), .tup (dInts b)] = .ok (.tup (dInts (timesR a b))) := by
  refine run_ret rfl ?_
  by_cases h0 : a = [] ∨ b = []
  · have e : timesR a b = [] := by unfold timesR; rw [if_pos h0]
    rw [e]
    refine st_ifT ?_ ?_
    · rcases h0 with rfl | rfl <;> simp [Dx.start, d_times]
    · rfl
  · have hla : 0 < a.length := by
      cases a with
      | nil => exact absurd (.inl rfl) h0
      | cons => simp
    have hlb : 0 < b.length := by
      cases b with
      | nil => exact absurd (.inr rfl) h0
      | cons => simp
    have e : timesR a b = trim (outer a b (List.replicate (a.length + b.length - 1) 0)) := by unfold timesR; rw [if_neg h0]
    rw [e]
    refine st_ifF0 ?_ ?_
    · simp [Dx.start, d_times]; simp at h0; simp [h0]
    have e1 : (a.length : Int) + (b.length : Int) - 1 = ((a.length + b.length - 1 : Nat) : Int) := by omega
    refine st_fresh (.lst (dInts (List.replicate (a.length + b.length - 1) 0))) (.own (dInts (List.replicate (a.length + b.length - 1) 0))) ?_ rfl ?_
    · have := mul_lst (a.length + b.length - 1) (by omega)
      simp [Dx.start, d_times, lstG, show fits 1 = true from rfl, e1, this]
    refine st_for ?_
    refine for_kI (fun p : Int × Nat => .tup [.int p.2, .int p.1]) a.zipIdx (fun r p => inner p.2 p.1 b r) (List.replicate (a.length + b.length - 1) 0)
      (fun r (s : Slot × Slot × Slot × Slot) => [.sh (.tup (dInts a)), .sh (.tup (dInts b)), .own (dInts r), s.1, s.2.1, s.2.2.1, s.2.2.2]) (.none, .none, .none, .none) (fun r => r.length = a.length + b.length - 1) rfl rfl ?_ rfl (by simp) ?_ ?_
    · simp [Dx.start, d_times, enumG, ← enumL_ints]
    · intro r p s hp hr
      refine ⟨?_, (inner_len _ _ _ _ _).trans hr⟩
      have hp2 := mem_zipIdx_lt hp
      have key : ∀ s1 s2 : Slot, ∃ s' : Slot × Slot, exB F_times [.forS (.tup [.name 5, .name 6]) (.enum (.var 1)) [.augI 2 (.bin .add (.var 3) (.var 5)) (.bin .mul (.var 4) (.var 6))]] [.sh (.tup (dInts a)), .sh (.tup (dInts b)), .own (dInts r), .sh (.int p.2), .sh (.int p.1), s1, s2] =
          .ok (.nx [.sh (.tup (dInts a)), .sh (.tup (dInts b)), .own (dInts (inner p.2 p.1 b r)), .sh (.int p.2), .sh (.int p.1), s'.1, s'.2]) := by
        intro s1 s2
        obtain ⟨e1, h1, ⟨s1, rfl⟩, h3⟩ := forL_fold (f := fun d env => tgD (.tup [.name 5, .name 6]) d env >>= exB F_times [.augI 2 (.bin .add (.var 3) (.var 5)) (.bin .mul (.var 4) (.var 6))]) (enc := fun q : Int × Nat => .tup [.int q.2, .int q.1]) (step := fun r q => addAt r (p.2 + q.2) (p.1 * q.1))
          (fun r env => (∃ s : Slot × Slot, env = [.sh (.tup (dInts a)), .sh (.tup (dInts b)), .own (dInts r), .sh (.int p.2), .sh (.int p.1), s.1, s.2]) ∧ r.length = a.length + b.length - 1) (l := b.zipIdx) (b := r) (env := [.sh (.tup (dInts a)), .sh (.tup (dInts b)), .own (dInts r), .sh (.int p.2), .sh (.int p.1), s1, s2]) ⟨⟨(s1, s2), rfl⟩, hr⟩ (by
          rintro r q _ hq ⟨⟨s, rfl⟩, hr⟩
          have hq2 := mem_zipIdx_lt hq
          refine ⟨_, ?_, ⟨(.sh (.int q.2), .sh (.int q.1)), rfl⟩, by rw [addAt_len]; exact hr⟩
          have hj : p.2 + q.2 < r.length := by omega
          have hm : (small p.1 || small q.1) = true := by
            rcases hs with hs | hs
            · rw [hs _ hp2.2]; rfl
            · rw [hs _ hq2.2]; simp
          simp only [tgD_tup, tgL_cons, tgD_name, Res.bind_ok, tgL_nil, List.set_cons_succ, List.set_cons_zero]
          refine st_augI (dInts r) (p.2 + q.2) r[p.2 + q.2] (p.1 * q.1) rfl (by simp) ?_ (by simp only [evE_bin, evE_var, getS_S, getS_0, Res.bind_ok, opD_mul, hm, if_true]) ?_
          · rw [List.getElem?_map, List.getElem?_eq_getElem hj]; rfl
          · rw [dInts_set]
            unfold addAt
            rw [List.getElem?_eq_getElem hj]; rfl)
        refine ⟨s1, ?_⟩
        rw [exB_cons, exS_for]
        simp only [forX, forG]
        rw [if_pos (show kpIt (.enum (.var 1)) [.sh (.tup (dInts a)), .sh (.tup (dInts b)), .own (dInts r), .sh (.int p.2), .sh (.int p.1), _, _] = true from rfl)]
        rw [show evIt F_times (.enum (.var 1)) [.sh (.tup (dInts a)), .sh (.tup (dInts b)), .own (dInts r), .sh (.int p.2), .sh (.int p.1), _, _] = .ok (b.zipIdx.map fun q => .tup [.int q.2, .int q.1]) by simp [enumG, ← enumL_ints]]
        show (forL (fun d env => tgD (.tup [.name 5, .name 6]) d env >>= exB F_times [.augI 2 (.bin .add (.var 3) (.var 5)) (.bin .mul (.var 4) (.var 6))]) _ _ >>= _) = _
        rw [h1]; rfl
      obtain ⟨s', hk⟩ := key s.2.2.1 s.2.2.2
      exact ⟨(.sh (.int p.2), .sh (.int p.1), s'.1, s'.2), hk⟩
    · intro s hr
      refine st_frz ?_
      refine st_ret rfl (ev_call1 (.lst (dInts (outer a b (List.replicate (a.length + b.length - 1) 0)))) rfl rfl ?_)
      exact g_trimmed_lst _ (by unfold outer; rw [hr]; omega)
end K26
namespace K26
open Dx
def powR (a : List Int) : Nat → List Int
  | 0 => [1]
  | n + 1 => timesR (powR a n) a
theorem val_pow (x : Int) (a : List Int) : ∀ n, val x (powR a n) = val x a ^ n
  | 0 => by simp [powR, val]
  | n + 1 => by rw [powR, val_times, val_pow x a n, Int.pow_succ]
theorem pow_len (a : List Int) (B : Nat) (h : a.length ≤ B) : ∀ n, (powR a n).length ≤ 1 + n * B
  | 0 => by simp [powR]
  | n + 1 => by
    rw [powR]
    have := times_len (powR a n) a
    have := pow_len a B h n
    have e : (n + 1) * B = n * B + B := Nat.succ_mul n B
    omega
theorem clean_pow (a : List Int) : ∀ n, clean (powR a n)
  | 0 => .inr ⟨[], 1, rfl, by decide⟩
  | n + 1 => clean_times _ _
theorem powR_fold (a : List Int) : ∀ n, (List.range n).foldl (fun t _ => timesR t a) [1] = powR a n
  | 0 => rfl
  | n + 1 => by rw [List.range_succ, List.foldl_append, powR_fold a n]; rfl
theorem g_power_eq (a : List Int) (n : Nat) (ha : a.length ≤ 50) (hn : n ≤ 5) (hs : smalls a) : g_power [.tup (dInts a), .int n] = .ok (.tup (dInts (powR a n))) := by
  refine run_ret rfl ?_
  refine st_name (.tup (dInts [1])) rfl rfl ?_
  refine st_for ?_
  refine for_kN (fun i : Nat => D.int i) (List.range n) (fun t _ => timesR t a) [1] (fun t s => [.sh (.tup (dInts a)), .sh (.int n), .sh (.tup (dInts t)), s]) .none (fun j t => t.length ≤ 1 + j * 50) rfl rfl (ev_rng1 rfl (by omega)) rfl (by simp) ?_ ?_
  · intro j t c s hj h
    have hj : j < n := by
      have := (List.getElem?_eq_some_iff.mp hj).1
      simpa using this
    refine ⟨⟨.sh (.int c), ?_⟩, ?_⟩
    · simp only [tgD_name, Res.bind_ok, List.set_cons_succ, List.set_cons_zero]
      exact st_name _ rfl (ev_call2 (.tup (dInts t)) (.tup (dInts a)) rfl rfl rfl rfl (g_times_eq t a (by omega) (by omega) (.inr hs))) rfl
    · have := times_len t a
      have e : (j + 1) * 50 = j * 50 + 50 := Nat.succ_mul j 50
      omega
  · intro s h
    rw [powR_fold]
    exact st_ret rfl rfl
/-! put_in -/
def one1 (c : Int) : List Int := if c = 0 then [] else [c]
def putR (o : List Int) : List Int → List Int
  | [] => []
  | c :: l => plusR (timesR (putR o l) o) (one1 c)
theorem val_put (x : Int) (o : List Int) : ∀ l, val x (putR o l) = val (val x o) l
  | [] => rfl
  | c :: l => by
    have e : val x (one1 c) = c := by
      unfold one1
      split
      · rename_i h; rw [h]; rfl
      · simp [val]
    rw [putR, val_plus, val_times, val_put x o l, e]; rfl
theorem clean_put (o : List Int) : ∀ l, clean (putR o l)
  | [] => .inl rfl
  | c :: l => clean_trim _
theorem putR_fold (o : List Int) : ∀ l : List Int, l.reverse.foldl (fun t c => plusR (timesR t o) (one1 c)) [] = putR o l
  | [] => rfl
  | c :: l => by rw [List.reverse_cons, List.foldl_append, putR_fold o l]; rfl
theorem one1_len (c : Int) : (one1 c).length ≤ 1 := by unfold one1; split <;> simp
theorem put_len (o : List Int) (B : Nat) (h : o.length ≤ B) : ∀ l, (putR o l).length ≤ 1 + l.length * B
  | [] => by simp [putR]
  | c :: l => by
    rw [putR]
    have h1 := times_len (putR o l) o
    have h2 := plus_len (timesR (putR o l) o) (one1 c)
    have h3 := put_len o B h l
    have h4 := one1_len c
    have e : (c :: l).length * B = l.length * B + B := by rw [List.length_cons, Nat.succ_mul]
    omega
theorem g_put_in_eq (a o : List Int) (ha : a.length ≤ 7) (ho : o.length ≤ 50) (hs : smalls o) : g_put_in [.tup (dInts a), .tup (dInts o)] = .ok (.tup (dInts (putR o a))) := by
  refine run_ret rfl ?_
  refine st_name (.tup (dInts [])) rfl rfl ?_
  refine st_for ?_
  refine for_kN D.int a.reverse (fun t c => plusR (timesR t o) (one1 c)) [] (fun t s => [.sh (.tup (dInts a)), .sh (.tup (dInts o)), .sh (.tup (dInts t)), s]) .none (fun j t => t.length ≤ 1 + j * 50) rfl rfl (by simp [Dx.start, d_put_in, revG]) rfl (by simp) ?_ ?_
  · intro j t c s hj h
    have hj : j < a.length := by
      have := (List.getElem?_eq_some_iff.mp hj).1
      simpa using this
    have h1 := times_len t o
    refine ⟨⟨.sh (.int c), ?_⟩, ?_⟩
    · simp only [tgD_name, Res.bind_ok, List.set_cons_succ, List.set_cons_zero]
      refine st_name _ rfl (ev_call2 (.tup (dInts (timesR t o))) (.tup (dInts (one1 c))) rfl rfl (ev_call2 (.tup (dInts t)) (.tup (dInts o)) rfl rfl rfl rfl (g_times_eq t o (by omega) (by omega) (.inr hs))) ?_ (g_plus_eq _ _ (by omega) (Nat.le_trans (one1_len c) (by omega)))) rfl
      unfold one1
      by_cases hc : c = 0
      · simp [hc, tupG, show fits 0 = true from rfl]
      · simp [hc, tupG, show fits 1 = true from rfl]
    · have h2 := plus_len (timesR t o) (one1 c)
      have h4 := one1_len c
      have e : (j + 1) * 50 = j * 50 + 50 := Nat.succ_mul j 50
      omega
  · intro s h
    rw [putR_fold]
    exact st_ret rfl rfl
/-! smalls of a power -/
def nrm : List Int → Nat
  | [] => 0
  | c :: l => c.natAbs + nrm l
theorem nrm_mem {c : Int} : ∀ {l : List Int}, c ∈ l → c.natAbs ≤ nrm l
  | d :: l, h => by
    show c.natAbs ≤ d.natAbs + nrm l
    rcases List.mem_cons.mp h with rfl | h
    · omega
    · have := nrm_mem h; omega
theorem nrm_trim : ∀ l : List Int, nrm (trim l) ≤ nrm l
  | [] => Nat.le_refl _
  | c :: l => by
    rw [trim_cons]
    have := nrm_trim l
    split
    · simp [nrm]
    · show c.natAbs + nrm (trim l) ≤ c.natAbs + nrm l; omega
theorem nrm_addAt : ∀ (r : List Int) (j : Nat) (v : Int), nrm (addAt r j v) ≤ nrm r + v.natAbs
  | [], j, v => by simp [addAt, nrm]
  | c :: r, 0, v => by
    show (c + v).natAbs + nrm r ≤ c.natAbs + nrm r + v.natAbs
    omega
  | c :: r, j + 1, v => by
    have ih := nrm_addAt r j v
    have e : addAt (c :: r) (j + 1) v = c :: addAt r j v := by simp [addAt]
    rw [e]
    show c.natAbs + nrm (addAt r j v) ≤ c.natAbs + nrm r + v.natAbs
    omega
theorem nrm_inner (i : Nat) (c : Int) : ∀ (b : List Int) (k : Nat) (r : List Int), nrm ((b.zipIdx k).foldl (fun r p => addAt r (i + p.2) (c * p.1)) r) ≤ nrm r + c.natAbs * nrm b
  | [], k, r => by simp
  | d :: b, k, r => by
    rw [zipIdx_cons, List.foldl_cons]
    have h1 := nrm_inner i c b (k + 1) (addAt r (i + k) (c * d))
    have h2 := nrm_addAt r (i + k) (c * d)
    rw [Int.natAbs_mul] at h2
    show _ ≤ nrm r + c.natAbs * (d.natAbs + nrm b)
    rw [Nat.mul_add]
    refine Nat.le_trans h1 ?_
    omega
theorem nrm_outer (b : List Int) : ∀ (a : List Int) (k : Nat) (r : List Int), nrm ((a.zipIdx k).foldl (fun r p => inner p.2 p.1 b r) r) ≤ nrm r + nrm a * nrm b
  | [], k, r => by simp
  | c :: a, k, r => by
    rw [zipIdx_cons, List.foldl_cons]
    have h1 := nrm_outer b a (k + 1) (inner k c b r)
    have h2 := nrm_inner k c b 0 r
    show _ ≤ nrm r + (c.natAbs + nrm a) * nrm b
    have h2 : nrm (inner k c b r) ≤ nrm r + c.natAbs * nrm b := h2
    rw [Nat.add_mul]
    refine Nat.le_trans h1 ?_
    omega
theorem nrm_zeros : ∀ n, nrm (List.replicate n 0) = 0
  | 0 => rfl
  | n + 1 => by
    rw [List.replicate_succ]
    show 0 + nrm (List.replicate n 0) = 0
    rw [nrm_zeros n]
theorem nrm_times (a b : List Int) : nrm (timesR a b) ≤ nrm a * nrm b := by
  unfold timesR
  split
  · simp [nrm]
  · refine Nat.le_trans (nrm_trim _) ?_
    have := nrm_outer b a 0 (List.replicate (a.length + b.length - 1) 0)
    rw [nrm_zeros] at this
    unfold outer
    omega
theorem smalls_nrm {l : List Int} (h : nrm l ≤ 2 ^ 60) : smalls l := fun c hc => small_of (by have := nrm_mem hc; omega) (by have := nrm_mem hc; omega)
theorem nrm_pow (a : List Int) (B : Nat) (h : nrm a ≤ B) : ∀ n, nrm (powR a n) ≤ B ^ n
  | 0 => by simp [powR, nrm]
  | n + 1 => by
    rw [powR, Nat.pow_succ]
    exact Nat.le_trans (nrm_times _ _) (Nat.mul_le_mul (nrm_pow a B h n) h)
end K26
/-! dicts as lists of pairs: plain -/
namespace Tb
open Dx
section
variable {K : Type} [DecidableEq K]
abbrev T (K : Type) := List (K × Int)
def lk : T K → K → Option Int
  | [], _ => none
  | x :: d, k => if x.1 = k then some x.2 else lk d k
def co (d : T K) (k : K) : Int := (lk d k).getD 0
def has (d : T K) (k : K) : Bool := d.any fun x => decide (x.1 = k)
def put (d : T K) (k : K) (v : Int) : T K := if has d k = true then d.map (fun x => if x.1 = k then (x.1, v) else x) else d ++ [(k, v)]
abbrev ks (d : T K) : List K := d.map (·.1)
theorem has_iff {d : T K} {k : K} : has d k = true ↔ k ∈ ks d := by
  unfold has
  rw [List.any_eq_true, List.mem_map]
  constructor
  · rintro ⟨x, h1, h2⟩; exact ⟨x, h1, of_decide_eq_true h2⟩
  · rintro ⟨x, h1, h2⟩; exact ⟨x, h1, decide_eq_true h2⟩
theorem ks_put (d : T K) (k : K) (v : Int) : ks (put d k v) = if has d k = true then ks d else ks d ++ [k] := by
  unfold put
  split
  · rw [ks, List.map_map]
    apply List.map_congr_left
    intro x _
    show (if x.1 = k then (x.1, v) else x).1 = x.1
    split <;> rfl
  · simp [ks]
theorem nd_put {d : T K} {k : K} {v : Int} (h : (ks d).Nodup) : (ks (put d k v)).Nodup := by
  rw [ks_put]
  split
  · exact h
  · rename_i n
    rw [List.nodup_append]
    refine ⟨h, by simp, ?_⟩
    intro a ha b hb
    simp at hb
    subst hb
    intro z
    subst z
    exact n (has_iff.mpr ha)
theorem lk_app {d e : T K} {k : K} : lk (d ++ e) k = match lk d k with | some v => some v | none => lk e k := by
  induction d with
  | nil => rfl
  | cons x d ih =>
    show (if x.1 = k then some x.2 else lk (d ++ e) k) = match (if x.1 = k then some x.2 else lk d k) with | some v => some v | none => lk e k
    split
    · rfl
    · exact ih
theorem lk_none {d : T K} {k : K} : lk d k = none ↔ k ∉ ks d := by
  induction d with
  | nil => simp [lk, ks]
  | cons x d ih =>
    show (if x.1 = k then some x.2 else lk d k) = none ↔ _
    split
    · rename_i h; simp [ks, h]
    · rename_i h
      rw [ih]
      simp [ks]
      intro _ z; exact h z.symm
theorem lk_upd {d : T K} {k : K} {v : Int} (k' : K) : lk (d.map fun x => if x.1 = k then (x.1, v) else x) k' = if k' = k then (lk d k').map fun _ => v else lk d k' := by
  induction d with
  | nil => simp [lk]
  | cons x d ih =>
    show (if (if x.1 = k then (x.1, v) else x).1 = k' then some (if x.1 = k then (x.1, v) else x).2 else lk (d.map fun x => if x.1 = k then (x.1, v) else x) k') = if k' = k then (if x.1 = k' then some x.2 else lk d k').map fun _ => v else (if x.1 = k' then some x.2 else lk d k')
    rw [ih]
    by_cases h1 : x.1 = k
    · rw [if_pos h1]
      show (if x.1 = k' then some v else _) = _
      by_cases h3 : x.1 = k'
      · rw [if_pos h3, if_pos h3, if_pos (h3.symm.trans h1)]; rfl
      · rw [if_neg h3, if_neg h3]
    · rw [if_neg h1]
      by_cases h3 : x.1 = k'
      · rw [if_pos h3, if_pos h3, if_neg (fun z => h1 (h3.trans z))]
      · rw [if_neg h3, if_neg h3]
theorem lk_put (d : T K) (k : K) (v : Int) (k' : K) : lk (put d k v) k' = if k' = k then some v else lk d k' := by
  unfold put
  split
  · rename_i h
    rw [lk_upd]
    by_cases e : k' = k
    · subst e
      rw [if_pos rfl, if_pos rfl]
      cases q : lk d k' with
      | none => exact absurd (has_iff.mp h) (lk_none.mp q)
      | some u => rfl
    · rw [if_neg e, if_neg e]
  · rename_i h
    rw [lk_app]
    by_cases e : k' = k
    · subst e
      rw [if_pos rfl]
      have : lk d k' = none := lk_none.mpr fun z => h (has_iff.mpr z)
      rw [this]
      show (if k' = k' then some v else none) = some v
      rw [if_pos rfl]
    · rw [if_neg e]
      cases lk d k' with
      | some u => rfl
      | none =>
        show (if k = k' then some v else none) = none
        rw [if_neg (Ne.symm e)]
theorem co_put (d : T K) (k : K) (v : Int) (k' : K) : co (put d k v) k' = if k' = k then v else co d k' := by
  unfold co
  rw [lk_put]
  split <;> rfl
theorem lk_mem {d : T K} (h : (ks d).Nodup) {k : K} {v : Int} : lk d k = some v ↔ (k, v) ∈ d := by
  induction d with
  | nil => simp [lk]
  | cons x d ih =>
    have h1 : x.1 ∉ ks d := (List.nodup_cons.mp h).1
    have h2 := (List.nodup_cons.mp h).2
    show (if x.1 = k then some x.2 else lk d k) = some v ↔ _
    split
    · rename_i e
      constructor
      · intro q
        have : x = (k, v) := Prod.ext e (Option.some.inj q)
        rw [this]; exact List.mem_cons_self
      · intro q
        rcases List.mem_cons.mp q with q | q
        · rw [← q]
        · exact absurd (List.mem_map.mpr ⟨_, q, rfl⟩) (e ▸ h1)
    · rename_i e
      rw [ih h2]
      constructor
      · exact List.mem_cons_of_mem _
      · intro q
        rcases List.mem_cons.mp q with q | q
        · exact absurd (by rw [← q]) e
        · exact q
theorem co_mem {d : T K} (h : (ks d).Nodup) {k : K} {v : Int} (hv : v ≠ 0) : co d k = v ↔ (k, v) ∈ d := by
  rw [← lk_mem h]
  unfold co
  cases lk d k with
  | none =>
    constructor
    · intro q; exact absurd q.symm hv
    · intro q; cases q
  | some u => simp
theorem co_ext {d e : T K} (hd : (ks d).Nodup) (he : (ks e).Nodup) (h : ∀ k v, v ≠ 0 → ((k, v) ∈ d ↔ (k, v) ∈ e)) (k : K) : co d k = co e k := by
  by_cases q : co d k = 0
  · by_cases r : co e k = 0
    · rw [q, r]
    · have := (h k _ r).mpr ((co_mem he r).mp rfl)
      rw [(co_mem hd r).mpr this]
  · have := (h k _ q).mp ((co_mem hd q).mp rfl)
    exact ((co_mem he q).mpr this).symm
theorem nd_of {d : T K} (h : (ks d).Nodup) : d.Nodup := by
  induction d with
  | nil => exact List.nodup_nil
  | cons x d ih =>
    have h1 := (List.nodup_cons.mp h)
    exact List.nodup_cons.mpr ⟨fun z => h1.1 (List.mem_map.mpr ⟨x, z, rfl⟩), ih h1.2⟩
def nz (d : T K) : T K := d.filter fun x => decide (x.2 ≠ 0)
theorem nd_nz {d : T K} (h : (ks d).Nodup) : (ks (nz d)).Nodup := by
  have : (ks (nz d)).Sublist (ks d) := List.Sublist.map _ List.filter_sublist
  exact this.nodup h
theorem nz_perm {d e : T K} (hd : (ks d).Nodup) (he : (ks e).Nodup) (h : ∀ k, co d k = co e k) : (nz d).Perm (nz e) := by
  rw [List.perm_ext_iff_of_nodup (nd_of (nd_nz hd)) (nd_of (nd_nz he))]
  rintro ⟨k, v⟩
  unfold nz
  rw [List.mem_filter, List.mem_filter]
  constructor
  · rintro ⟨h1, h2⟩
    refine ⟨?_, h2⟩
    have h2 : v ≠ 0 := of_decide_eq_true h2
    exact (co_mem he h2).mp ((h k).symm.trans ((co_mem hd h2).mpr h1))
  · rintro ⟨h1, h2⟩
    refine ⟨?_, h2⟩
    have h2 : v ≠ 0 := of_decide_eq_true h2
    exact (co_mem hd h2).mp ((h k).trans ((co_mem he h2).mpr h1))
/-! sums -/
def sumBy (f : K × Int → Int) : T K → Int
  | [] => 0
  | x :: d => f x + sumBy f d
theorem sumBy_perm (f : K × Int → Int) {d e : T K} (h : d.Perm e) : sumBy f d = sumBy f e := by
  induction h with
  | nil => rfl
  | cons x _ ih => show f x + _ = f x + _; rw [ih]
  | swap x y l => show f y + (f x + _) = f x + (f y + _); omega
  | trans _ _ h1 h2 => rw [h1, h2]
theorem sumBy_nz (f : K × Int → Int) (hf : ∀ x, x.2 = 0 → f x = 0) : ∀ d : T K, sumBy f (nz d) = sumBy f d
  | [] => rfl
  | x :: d => by
    have ih := sumBy_nz f hf d
    unfold nz at ih ⊢
    rw [List.filter_cons]
    by_cases h : x.2 = 0
    · rw [if_neg (by simp [h]), ih]
      show _ = f x + _
      rw [hf x h]; omega
    · rw [if_pos (by simp [h])]
      show f x + _ = f x + _
      rw [ih]
theorem sumBy_congr {f g : K × Int → Int} : ∀ {d : T K}, (∀ x ∈ d, f x = g x) → sumBy f d = sumBy g d
  | [], _ => rfl
  | x :: d, h => by
    show f x + _ = g x + _
    rw [h x List.mem_cons_self, sumBy_congr fun y hy => h y (List.mem_cons_of_mem _ hy)]
theorem sumBy_map {L : Type} [DecidableEq L] (f : K × Int → Int) (g : L × Int → K × Int) : ∀ d : T L, sumBy f (d.map g) = sumBy (fun x => f (g x)) d
  | [] => rfl
  | x :: d => by
    show f (g x) + _ = f (g x) + _
    rw [sumBy_map f g d]
def atK (k : K) (x : K × Int) : Int := if x.1 = k then x.2 else 0
theorem sumBy_co {d : T K} (h : (ks d).Nodup) (k : K) : sumBy (atK k) d = co d k := by
  induction d with
  | nil => rfl
  | cons x d ih =>
    have h1 : x.1 ∉ ks d := (List.nodup_cons.mp h).1
    have ih := ih (List.nodup_cons.mp h).2
    show (if x.1 = k then x.2 else 0) + sumBy (atK k) d = ((if x.1 = k then some x.2 else lk d k)).getD 0
    rw [ih]
    split
    · rename_i e
      have : lk d k = none := lk_none.mpr (e ▸ h1)
      unfold co
      rw [this]; simp
    · simp [co]
def addAll (d ps : T K) : T K := ps.foldl (fun d x => put d x.1 (co d x.1 + x.2)) d
theorem nd_addAll : ∀ (ps d : T K), (ks d).Nodup → (ks (addAll d ps)).Nodup
  | [], d, h => h
  | x :: ps, d, h => nd_addAll ps _ (nd_put h)
theorem co_addAll (k : K) : ∀ (ps d : T K), co (addAll d ps) k = co d k + sumBy (atK k) ps
  | [], d => by simp [addAll, sumBy]
  | x :: ps, d => by
    show co (addAll (put d x.1 (co d x.1 + x.2)) ps) k = co d k + (atK k x + sumBy (atK k) ps)
    rw [co_addAll k ps, co_put]
    unfold atK
    by_cases h : k = x.1
    · rw [if_pos h, if_pos h.symm, h]; omega
    · rw [if_neg h, if_neg (Ne.symm h)]; omega
theorem len_put (d : T K) (k : K) (v : Int) : (put d k v).length ≤ d.length + 1 := by
  unfold put
  split <;> simp
theorem put_new {d : T K} {k : K} (v : Int) (h : k ∉ ks d) : put d k v = d ++ [(k, v)] := by
  unfold put
  rw [if_neg fun z => h (has_iff.mp z)]
/-- a dict made of pairs with different keys -/
theorem foldl_put : ∀ (ps d : T K), (ks (d ++ ps)).Nodup → ps.foldl (fun d x => put d x.1 x.2) d = d ++ ps
  | [], d, _ => by simp
  | x :: ps, d, h => by
    have h0 : x.1 ∉ ks d := by
      intro z
      have h : (ks d ++ x.1 :: ks ps).Nodup := by simpa [ks] using h
      exact (List.nodup_append.mp h).2.2 _ z _ List.mem_cons_self rfl
    rw [List.foldl_cons, put_new _ h0]
    rw [foldl_put ps (d ++ [(x.1, x.2)]) (by simpa using h)]
    simp
end
end Tb
namespace K26
open Dx Tb
abbrev Ky := Int × Int
abbrev Cl := Ky × Int
def eK (k : Ky) : D := .tup [.int k.1, .int k.2]
def eC (x : Cl) : D := .tup [.tup [.int x.1.1, .int x.1.2], .int x.2]
def dk (d : T Ky) : List D := d.map fun x => eK x.1
def dv (d : T Ky) : List D := d.map fun x => D.int x.2
def dd (d : T Ky) : D := .dct true (dk d) (dv d)
def dt (d : T Ky) : D := .ftup (d.map eC)
def told (d : T Ky) : T Ky := (nz d).mergeSort leO
theorem told_perm (d : T Ky) : (told d).Perm (nz d) := List.mergeSort_perm _ _
theorem told_congr {d e : T Ky} (hd : (ks d).Nodup) (he : (ks e).Nodup) (h : ∀ k, co d k = co e k) : told d = told e := sort_perm (nz_perm hd he h)
theorem nd_told {d : T Ky} (h : (ks d).Nodup) : (ks (told d)).Nodup := ((told_perm d).map _).nodup_iff.mpr (nd_nz h)
theorem sumBy_told (f : Cl → Int) (hf : ∀ x : Cl, x.2 = 0 → f x = 0) (d : T Ky) : sumBy f (told d) = sumBy f d := (sumBy_perm f (told_perm d)).trans (sumBy_nz f hf d)
theorem atK0 (k : Ky) (x : Cl) (h : x.2 = 0) : atK k x = 0 := by unfold atK; rw [h]; split <;> rfl
theorem co_told {d : T Ky} (h : (ks d).Nodup) (k : Ky) : co (told d) k = co d k := by
  rw [← sumBy_co (nd_told h), ← sumBy_co h, sumBy_told _ (atK0 k)]
theorem mem_told {d : T Ky} {x : Cl} : x ∈ told d ↔ x ∈ d ∧ x.2 ≠ 0 := by
  rw [(told_perm d).mem_iff]
  unfold nz
  rw [List.mem_filter]; simp
theorem len_told (d : T Ky) : (told d).length ≤ d.length := by
  rw [(told_perm d).length_eq]
  exact List.length_filter_le _ _
/-! the encoding -/
theorem keyEq_enc (a b : Ky) : keyEq (eK a) (eK b) = decide (a = b) := by
  show (decide (a.1 = b.1) && (decide (a.2 = b.2) && true)) = _
  rw [Bool.and_true, ← Bool.decide_and]
  exact decide_eq_decide.mpr ⟨fun h => Prod.ext h.1 h.2, fun h => by rw [h]; exact ⟨rfl, rfl⟩⟩
theorem fitK_enc (a : Ky) : fitK true (eK a) = true := rfl
theorem putL_enc (d : T Ky) (k : Ky) (v : Int) : putL (dk d) (dv d) (eK k) (.int v) = (dk (put d k v), dv (put d k v)) := by
  have h : ((dk d).any fun q => keyEq q (eK k)) = has d k := by
    unfold dk has
    rw [List.any_map]
    congr 1
    funext x
    exact keyEq_enc x.1 k
  unfold Dx.putL put
  rw [h]
  split
  · refine Prod.ext ?_ ?_
    · show dk d = dk _
      unfold dk
      rw [List.map_map]
      apply List.map_congr_left
      intro x _
      show eK x.1 = eK (if x.1 = k then (x.1, v) else x).1
      split <;> rfl
    · show ((dk d).zip (dv d)).map _ = dv _
      unfold dk dv
      rw [List.zip_map', List.map_map, List.map_map]
      apply List.map_congr_left
      intro x _
      show (if keyEq (eK x.1) (eK k) = true then D.int v else D.int x.2) = D.int (if x.1 = k then (x.1, v) else x).2
      rw [keyEq_enc]
      by_cases e : x.1 = k <;> simp [e]
  · refine Prod.ext ?_ ?_ <;> simp [dk, dv]
theorem find_enc : ∀ (d : T Ky) (k : Ky), match findK (dk d) (eK k) with | some i => ∃ v, lk d k = some v ∧ (dv d)[i]? = some (D.int v) | none => lk d k = none
  | [], k => rfl
  | x :: d, k => by
    have ih := find_enc d k
    show match (dk (x :: d)).findIdx? (fun q => keyEq q (eK k)) with | some i => ∃ v, lk (x :: d) k = some v ∧ (dv (x :: d))[i]? = some (D.int v) | none => lk (x :: d) k = none
    have ih : match (dk d).findIdx? (fun q => keyEq q (eK k)) with | some i => ∃ v, lk d k = some v ∧ (dv d)[i]? = some (D.int v) | none => lk d k = none := ih
    rw [show dk (x :: d) = eK x.1 :: dk d from rfl, List.findIdx?_cons, keyEq_enc]
    have hl : lk (x :: d) k = if x.1 = k then some x.2 else lk d k := rfl
    rw [hl]
    by_cases e : x.1 = k
    · simp only [e, decide_true, if_true]
      exact ⟨x.2, rfl, rfl⟩
    · simp only [e, decide_false, Bool.false_eq_true, if_false]
      cases q : (dk d).findIdx? (fun q => keyEq q (eK k)) with
      | none => rw [q] at ih; exact ih
      | some i =>
        rw [q] at ih
        obtain ⟨v, h1, h2⟩ := ih
        exact ⟨v, h1, h2⟩
theorem ev_get {F : Fns} {d k x : E} {env : DEnv} {t : T Ky} {key : Ky} {z : Int} (hk : kp x env = true) (h1 : evE F d env = .ok (dd t)) (h2 : evE F k env = .ok (eK key)) (h3 : evE F x env = .ok (.int z)) : evE F (.get d k x) env = .ok (.int ((lk t key).getD z)) := by
  rw [evE_get]
  unfold getG
  rw [if_pos hk, h1]
  show (evE F k env >>= fun y => evE F x env >>= fun z => _) = _
  rw [h2, h3]
  show (match findK (dk t) (eK key) with | some i => optR (dv t)[i]? | none => Res.ok (D.int z)) = _
  have := find_enc t key
  cases q : findK (dk t) (eK key) with
  | none => rw [q] at this; have this : lk t key = none := this; rw [this]; rfl
  | some i =>
    rw [q] at this
    obtain ⟨v, h4, h5⟩ := this
    show optR (dv t)[i]? = _
    rw [h5, h4]; rfl
theorem ev_idx {t : T Ky} {key : Ky} (h : key ∈ ks t) : idxD (dd t) (eK key) = .ok (.int (co t key)) := by
  show (match findK (dk t) (eK key) with | some i => optR (dv t)[i]? | none => Res.bad) = _
  have := find_enc t key
  cases q : findK (dk t) (eK key) with
  | none =>
    rw [q] at this
    exact absurd h (lk_none.mp this)
  | some i =>
    rw [q] at this
    obtain ⟨v, h4, h5⟩ := this
    show optR (dv t)[i]? = _
    unfold co
    rw [h5, h4]; rfl
theorem dict_enc (p : T Ky) (hp : (ks p).Nodup) (hl : p.length ≤ 1000000) : biD .dict [dt p] = .ok (dd p) := by
  have e1 : ∀ p : T Ky, pairsD (p.map eC) = some (p.map fun x => (eK x.1, D.int x.2)) := by
    intro p
    induction p with
    | nil => rfl
    | cons x p ih =>
      show (if keyT (eK x.1) = true then (pairsD (p.map eC)).map ((eK x.1, D.int x.2) :: ·) else none) = _
      rw [ih]; rfl
  have e2 : ∀ (p d : T Ky), (p.map fun x => (eK x.1, D.int x.2)).foldl (fun acc p => putL acc.1 acc.2 p.1 p.2) (dk d, dv d) = (dk (p.foldl (fun d x => put d x.1 x.2) d), dv (p.foldl (fun d x => put d x.1 x.2) d)) := by
    intro p
    induction p with
    | nil => intro d; rfl
    | cons x p ih =>
      intro d
      rw [List.map_cons, List.foldl_cons, List.foldl_cons]
      show List.foldl _ (putL (dk d) (dv d) (eK x.1) (.int x.2)) _ = _
      rw [putL_enc, ih]
  show (match pairsD (p.map eC) with | some ps => if fits ps.length = true then Res.ok (D.dct true (dictL ps).1 (dictL ps).2) else .bad | none => .bad) = _
  rw [e1]
  show (if fits (p.map fun x => (eK x.1, D.int x.2)).length = true then Res.ok (D.dct true (dictL (p.map fun x => (eK x.1, D.int x.2))).1 (dictL (p.map fun x => (eK x.1, D.int x.2))).2) else .bad) = _
  rw [if_pos (fits_of (by rw [List.length_map]; exact hl))]
  have e3 := e2 p []
  rw [foldl_put p [] (by simpa using hp), List.nil_append] at e3
  have e3 : dictL (p.map fun x => (eK x.1, D.int x.2)) = (dk p, dv p) := e3
  rw [e3]; rfl
/-! hashes -/
def hK (k : Ky) : Int := PySem.reduceHash (PySem.Builtin.Tuple.tupleHashOf ([k.1, k.2].map PySem.hashInt))
theorem hash_enc : ∀ l : List Ky, hashesD (l.map eK) = some (l.map hK)
  | [] => rfl
  | k :: l => by
    show (match hashD (eK k), hashesD (l.map eK) with | some h, some hs => some (h :: hs) | _, _ => none) = _
    rw [hash_enc l]; rfl
def low (k : Ky) : Prop := 0 ≤ k.1 ∧ k.1 ≤ 2 ∧ 0 ≤ k.2 ∧ k.2 ≤ 2
theorem low_mem {k : Ky} (h : low k) : k ∈ [((0:Int),(0:Int)),(0,1),(0,2),(1,0),(1,1),(1,2),(2,0),(2,1),(2,2)] := by
  obtain ⟨a, b⟩ := k
  obtain ⟨h1, h2, h3, h4⟩ := h
  have h1 : 0 ≤ a := h1
  have h2 : a ≤ 2 := h2
  have h3 : 0 ≤ b := h3
  have h4 : b ≤ 2 := h4
  have ha : a = 0 ∨ a = 1 ∨ a = 2 := by omega
  have hb : b = 0 ∨ b = 1 ∨ b = 2 := by omega
  rcases ha with rfl | rfl | rfl <;> rcases hb with rfl | rfl | rfl <;> simp
theorem hash_low : ∀ a ∈ [((0:Int),(0:Int)),(0,1),(0,2),(1,0),(1,1),(1,2),(2,0),(2,1),(2,2)], ∀ b ∈ [((0:Int),(0:Int)),(0,1),(0,2),(1,0),(1,1),(1,2),(2,0),(2,1),(2,2)], hK a = hK b → a = b := by decide +kernel
theorem nodup_map_on {α β : Type} {f : α → β} : ∀ {l : List α}, (∀ a ∈ l, ∀ b ∈ l, f a = f b → a = b) → l.Nodup → (l.map f).Nodup
  | [], _, _ => by simp
  | x :: l, h, n => by
    have n := List.nodup_cons.mp n
    rw [List.map_cons, List.nodup_cons]
    refine ⟨?_, nodup_map_on (fun a ha b hb => h a (List.mem_cons_of_mem _ ha) b (List.mem_cons_of_mem _ hb)) n.2⟩
    intro z
    obtain ⟨y, h1, h2⟩ := List.mem_map.mp z
    exact n.1 (h y (List.mem_cons_of_mem _ h1) x List.mem_cons_self h2 ▸ h1)
theorem dict_dict (d : T Ky) (hd : (ks d).Nodup) (hl : d.length ≤ 1000000) (hk : ∀ k ∈ ks d, low k) : biD .dict [dd d] = .ok (dd d) := by
  have e : dk d = (ks d).map eK := by unfold dk ks; rw [List.map_map]; rfl
  have h : hashOk (dk d) = true := by
    unfold hashOk
    rw [e, hash_enc]
    show (decide ((ks d).map hK).Nodup && fits ((ks d).map eK).length) = true
    rw [decide_eq_true (nodup_map_on (fun a ha b hb => hash_low a (low_mem (hk a ha)) b (low_mem (hk b hb))) hd), fits_of (by simpa [ks] using hl)]; rfl
  show (if hashOk (dk d) = true then _ else _) = _
  rw [if_pos h]; rfl
theorem sort_cells (l : T Ky) (hl : l.length ≤ 1000000) : sortD (l.map eC) = some ((l.mergeSort leO).map eC) := sortD_enc l hl (by decide) (.inl fun _ _ => rfl)
theorem eq_dt (p q : T Ky) : eqD (dt p) (dt q) = some (decide (p = q)) := eqD_ftup p q (by decide)
theorem eq_dt_tup (p q : T Ky) : eqD (dt p) (.tup (q.map eC)) = some (decide (p = q)) := eqD_ftup_tup p q (by decide)
end K26
namespace K26
open Dx Tb
theorem g_table_of_eq (d : T Ky) (hl : d.length ≤ 1000000) : g_table_of [dd d] = .ok (dt (told d)) := by
  refine run_ret rfl (st_ret rfl ?_)
  have h : evE F_table_of (.lc (.tup [.var 1, .var 2]) (.tup [.name 1, .name 2]) (.items 0) [.e (.cmp .ne (.var 2) (.lit (.int 0)))] [1, 2]) [.sh (dd d), .none, .none] = .ok (.lst ((nz d).map eC)) := by
    refine lc_filter eC d (fun x => decide (x.2 ≠ 0)) eC ?_ hl ?_
    · show Res.ok (zipL (dk d) (dv d)) = _
      unfold zipL dk dv
      rw [List.zip_map', List.map_map]; rfl
    · rintro ⟨⟨a, b⟩, n⟩ _
      by_cases h : n = 0 <;> simp [lcT, h, eC, tupG, show fits 2 = true from rfl]
  exact ev_bi1 _ (ev_bi1 _ h (bi_sorted (sort_cells _ (Nat.le_trans (List.length_filter_le _ _) hl)))) rfl
theorem g_law_told_eq (d : T Ky) (hd : (ks d).Nodup) (hl : d.length ≤ 1000000) : g__law_told [dd d] = .ok (dt (told d)) := by
  refine run_ret rfl (st_ret rfl ?_)
  have h : evE F__law_told (.lc (.tup [.var 1, .idx (.var 0) (.var 1)]) (.name 1) (.keys 0) [.e (.cmp .ne (.idx (.var 0) (.var 1)) (.lit (.int 0)))] [1]) [.sh (dd d), .none] = .ok (.lst ((nz d).map eC)) := by
    refine lc_filter (fun x => eK x.1) d (fun x => decide (x.2 ≠ 0)) eC rfl hl ?_
    rintro ⟨k, n⟩ hm
    have e : idxD (dd d) (eK k) = .ok (.int n) := by
      rw [ev_idx (List.mem_map.mpr ⟨_, hm, rfl⟩)]
      unfold co
      rw [(lk_mem hd).mpr hm]; rfl
    by_cases h : n = 0 <;> simp [lcT, h, eC, tupG, show fits 2 = true from rfl, e] <;> simp [eK]
  exact ev_bi1 _ (ev_bi1 _ h (bi_sorted (sort_cells _ (Nat.le_trans (List.length_filter_le _ _) hl)))) rfl
theorem addAll_len : ∀ (ps d : T Ky), (addAll d ps).length ≤ d.length + ps.length
  | [], d => Nat.le_refl _
  | x :: ps, d => by
    have h1 := addAll_len ps (put d x.1 (co d x.1 + x.2))
    have h2 := len_put d x.1 (co d x.1 + x.2)
    have h3 : addAll d (x :: ps) = addAll (put d x.1 (co d x.1 + x.2)) ps := rfl
    rw [h3]
    simp only [List.length_cons]; omega
theorem g_plus_tables_eq (p q : T Ky) (hp : (ks p).Nodup) (h1 : p.length ≤ 1000) (h2 : q.length ≤ 1000) : g_plus_tables [dt p, dt q] = .ok (dt (told (addAll p q))) := by
  refine run_ret rfl ?_
  refine st_fresh (dd p) (.ownD true (dk p) (dv p)) ?_ rfl ?_
  · rw [evE_bi]; exact dict_enc p hp (by omega)
  refine st_for ?_
  refine for_kN eC q (fun d x => put d x.1 (co d x.1 + x.2)) p (fun d (s : Slot × Slot) => [.sh (dt p), .sh (dt q), .ownD true (dk d) (dv d), s.1, s.2]) (.none, .none) (fun j d => d.length ≤ p.length + j) rfl rfl rfl rfl (by simp) ?_ ?_
  · intro j d x s hj hd
    have hj : j < q.length := (List.getElem?_eq_some_iff.mp hj).1
    have h3 := len_put d x.1 (co d x.1 + x.2)
    refine ⟨⟨(.sh (eK x.1), .sh (.int x.2)), ?_⟩, by omega⟩
    refine st_put (dk d) (dv d) (eK x.1) (.int (co d x.1 + x.2)) rfl rfl ?_ rfl rfl (by unfold dk; rw [List.length_map]; omega) ?_
    · rw [evE_bin, ev_get (t := d) (key := x.1) (z := 0) rfl rfl rfl rfl]; rfl
    · rw [putL_enc]; rfl
  · intro s hd
    refine st_frz (st_ret rfl (ev_call1 (dd (addAll p q)) rfl rfl ?_))
    exact g_table_of_eq _ (Nat.le_trans hd (by omega))
theorem g_law_add_eq (p q : T Ky) (hp : (ks p).Nodup) (hq : (ks q).Nodup) (hk : ∀ k ∈ ks p, low k) (h1 : p.length ≤ 1000) (h2 : q.length ≤ 1000) : g__law_add [dd p, dd q] = .ok (dd (addAll p q)) := by
  refine run_ret rfl ?_
  refine st_fresh (dd p) (.ownD true (dk p) (dv p)) ?_ rfl ?_
  · rw [evE_bi]; exact dict_dict p hp (by omega) hk
  refine st_more (dct_ex (tt := true) (items := false) (i := 1) (ks := dk q) (vs := dv q) (.keys 1) (fun x : Cl => eK x.1) q (fun d x => put d x.1 (co d x.1 + x.2)) p (fun d (s : Slot) => [.sh (dd p), .sh (dd q), .ownD true (dk d) (dv d), s]) .none (fun j d => d.length ≤ p.length + j) rfl rfl rfl rfl (by simp) ?_).choose_spec.1 ?_
  · intro j d x s hj hd
    have hm := List.mem_of_getElem? hj
    have hj : j < q.length := (List.getElem?_eq_some_iff.mp hj).1
    have h3 := len_put d x.1 (co d x.1 + x.2)
    refine ⟨⟨.sh (eK x.1), ?_⟩, by omega⟩
    refine st_put (dk d) (dv d) (eK x.1) (.int (co d x.1 + x.2)) rfl rfl ?_ rfl rfl (by unfold dk; rw [List.length_map]; omega) ?_
    · have e : idxD (dd q) (eK x.1) = .ok (.int x.2) := by
        rw [ev_idx (List.mem_map.mpr ⟨_, hm, rfl⟩)]
        unfold co
        rw [(lk_mem (v := x.2) hq).mpr hm]; rfl
      rw [evE_bin, ev_get (t := d) (key := x.1) (z := 0) rfl rfl rfl rfl, evE_idx]
      show (idxD (dd q) (eK x.1) >>= _) = _
      rw [e]; rfl
    · rw [putL_enc]; rfl
  · exact st_frz (st_ret rfl rfl)
/-! products -/
def kadd (a b : Ky) : Ky := (a.1 + b.1, a.2 + b.2)
def mulC (x y : Cl) : Cl := (kadd x.1 y.1, x.2 * y.2)
def mulAll (p q : T Ky) : T Ky := p.foldl (fun d x => addAll d (q.map (mulC x))) []
theorem addAll_fold (x : Cl) : ∀ (q d : T Ky), q.foldl (fun d y => put d (kadd x.1 y.1) (co d (kadd x.1 y.1) + x.2 * y.2)) d = addAll d (q.map (mulC x))
  | [], d => rfl
  | y :: q, d => by rw [List.foldl_cons, addAll_fold x q]; rfl
theorem nd_mulAll (q : T Ky) : ∀ (p d : T Ky), (ks d).Nodup → (ks (p.foldl (fun d x => addAll d (q.map (mulC x))) d)).Nodup
  | [], d, h => h
  | x :: p, d, h => nd_mulAll q p _ (nd_addAll _ _ h)
theorem co_mulAll (q : T Ky) (k : Ky) : ∀ (p d : T Ky), co (p.foldl (fun d x => addAll d (q.map (mulC x))) d) k = co d k + sumBy (fun x => sumBy (fun y => atK k (mulC x y)) q) p
  | [], d => by simp [sumBy]
  | x :: p, d => by
    rw [List.foldl_cons, co_mulAll q k p, co_addAll, sumBy_map]
    show _ = co d k + (sumBy (fun y => atK k (mulC x y)) q + sumBy (fun x => sumBy (fun y => atK k (mulC x y)) q) p)
    omega
theorem sumBy_zero {f : Cl → Int} (h : ∀ x, f x = 0) : ∀ d : T Ky, sumBy f d = 0
  | [] => rfl
  | x :: d => by
    show f x + sumBy f d = 0
    rw [h x, sumBy_zero h d]; rfl
/-- the product of told tables is that of the dicts -/
theorem told_mul (p q : T Ky) : told (mulAll (told p) (told q)) = told (mulAll p q) := by
  refine told_congr (nd_mulAll _ _ _ List.nodup_nil) (nd_mulAll _ _ _ List.nodup_nil) fun k => ?_
  unfold mulAll
  rw [co_mulAll, co_mulAll]
  congr 1
  have e1 : ∀ x : Cl, sumBy (fun y => atK k (mulC x y)) (told q) = sumBy (fun y => atK k (mulC x y)) q := fun x => by
    refine sumBy_told _ (fun y hy => ?_) q
    unfold atK mulC
    rw [hy]; simp
  rw [sumBy_told]
  · exact sumBy_congr fun x _ => e1 x
  · intro x hx
    refine sumBy_zero (fun y => ?_) _
    unfold atK mulC
    rw [hx]; simp
def oneT : T Ky := [((0, 0), 1)]
theorem kadd0 (k : Ky) : kadd (0, 0) k = k := by unfold kadd; simp
theorem told_one (d : T Ky) (hd : (ks d).Nodup) : told (mulAll oneT (told d)) = told d := by
  refine told_congr (nd_mulAll _ _ _ List.nodup_nil) hd fun k => ?_
  unfold mulAll
  rw [co_mulAll]
  show co [] k + (sumBy (fun y => atK k (mulC ((0, 0), 1) y)) (told d) + 0) = co d k
  have e : ∀ y : Cl, mulC ((0, 0), 1) y = y := fun y => by unfold mulC; rw [kadd0]; simp
  simp only [e]
  rw [sumBy_co (nd_told hd), co_told hd]
  show 0 + (co d k + 0) = co d k
  omega
theorem mulAll_len (q : T Ky) : ∀ (p d : T Ky), (p.foldl (fun d x => addAll d (q.map (mulC x))) d).length ≤ d.length + p.length * q.length
  | [], d => by simp
  | x :: p, d => by
    have h1 := mulAll_len q p (addAll d (q.map (mulC x)))
    have h2 := addAll_len (q.map (mulC x)) d
    rw [List.length_map] at h2
    rw [List.foldl_cons, List.length_cons, Nat.succ_mul]
    omega
theorem g_times_tables_at (X : D) (p q : T Ky) (hX : items? X = some (p.map eC)) (h1 : p.length ≤ 100) (h2 : q.length ≤ 100) (hs : ∀ y ∈ q, small y.2 = true) : g_times_tables [X, dt q] = .ok (dt (told (mulAll p q))) := by
  refine run_ret rfl ?_
  refine st_fresh (dd []) (.ownD true (dk []) (dv [])) rfl rfl ?_
  refine st_for ?_
  refine for_kN eC p (fun d x => addAll d (q.map (mulC x))) [] (fun d (s : Slot × Slot × Slot × Slot × Slot × Slot) => [.sh X, .sh (dt q), .ownD true (dk d) (dv d), s.1, s.2.1, s.2.2.1, s.2.2.2.1, s.2.2.2.2.1, s.2.2.2.2.2]) (.none, .none, .none, .none, .none, .none) (fun j d => d.length ≤ j * 100) rfl rfl (by rw [evIt_seq]; show seqG X = _; unfold seqG; rw [hX]; rfl) rfl (by simp) ?_ ?_
  · intro j d x s hj hd
    have hj : j < p.length := (List.getElem?_eq_some_iff.mp hj).1
    have e : (j + 1) * 100 = j * 100 + 100 := Nat.succ_mul j 100
    have h4 := addAll_len (q.map (mulC x)) d
    rw [List.length_map] at h4
    refine ⟨?_, by omega⟩
    obtain ⟨s', h5, _⟩ := for_ex (F := F_times_tables) (t := .tup [.tup [.name 7, .name 8], .name 6]) (it := .seq (.var 1)) (body := [.put 2 (.tup [.bin .add (.var 4) (.var 7), .bin .add (.var 5) (.var 8)]) (.bin .add (.get (.var 2) (.tup [.bin .add (.var 4) (.var 7), .bin .add (.var 5) (.var 8)]) (.lit (.int 0))) (.bin .mul (.var 3) (.var 6)))])
      eC q (fun d y => put d (kadd x.1 y.1) (co d (kadd x.1 y.1) + x.2 * y.2)) d (fun d (s : Slot × Slot × Slot) => [.sh X, .sh (dt q), .ownD true (dk d) (dv d), .sh (.int x.2), .sh (.int x.1.1), .sh (.int x.1.2), s.1, s.2.1, s.2.2]) (s.2.2.2.1, s.2.2.2.2.1, s.2.2.2.2.2) (fun i d' => d'.length ≤ d.length + i)
      (env := [.sh X, .sh (dt q), .ownD true (dk d) (dv d), .sh (.int x.2), .sh (.int x.1.1), .sh (.int x.1.2), s.2.2.2.1, s.2.2.2.2.1, s.2.2.2.2.2]) rfl rfl rfl rfl (Nat.le_refl _) (by
        intro i d' y s hi hd'
        have hm := hs y (List.mem_of_getElem? hi)
        have hi : i < q.length := (List.getElem?_eq_some_iff.mp hi).1
        have h3 := len_put d' (kadd x.1 y.1) (co d' (kadd x.1 y.1) + x.2 * y.2)
        refine ⟨⟨(.sh (.int y.2), .sh (.int y.1.1), .sh (.int y.1.2)), ?_⟩, by omega⟩
        refine st_put (dk d') (dv d') (eK (kadd x.1 y.1)) (.int (co d' (kadd x.1 y.1) + x.2 * y.2)) rfl rfl ?_ rfl rfl (by unfold dk; rw [List.length_map]; omega) ?_
        · have e : opD .mul (.int x.2) (.int y.2) = .ok (.int (x.2 * y.2)) := by rw [opD_mul, hm]; simp
          rw [evE_bin, ev_get (t := d') (key := kadd x.1 y.1) (z := 0) rfl rfl rfl rfl, evE_bin]
          show (opD .mul (.int x.2) (.int y.2) >>= _) = _
          rw [e]; rfl
        · rw [putL_enc]; rfl)
    rw [addAll_fold] at h5
    exact ⟨(.sh (.int x.2), .sh (.int x.1.1), .sh (.int x.1.2), s'.1, s'.2.1, s'.2.2), h5⟩
  · intro s hd
    refine st_frz (st_ret rfl (ev_call1 (dd (mulAll p q)) rfl rfl ?_))
    exact g_table_of_eq _ (by unfold mulAll; omega)
theorem g_times_tables_eq (p q : T Ky) (h1 : p.length ≤ 100) (h2 : q.length ≤ 100) (hs : ∀ y ∈ q, small y.2 = true) : g_times_tables [dt p, dt q] = .ok (dt (told (mulAll p q))) := g_times_tables_at _ p q rfl h1 h2 hs
theorem g_law_mul_eq (p q : T Ky) (hp : (ks p).Nodup) (hq : (ks q).Nodup) (h1 : p.length ≤ 100) (h2 : q.length ≤ 100) (hs : ∀ y ∈ q, small y.2 = true) : g__law_mul [dd p, dd q] = .ok (dd (mulAll p q)) := by
  refine run_ret rfl ?_
  refine st_fresh (dd []) (.ownD true (dk []) (dv [])) rfl rfl ?_
  refine st_more (dct_ex (tt := true) (items := false) (i := 0) (ks := dk p) (vs := dv p) (.keys 0) (fun x : Cl => eK x.1) p (fun d x => addAll d (q.map (mulC x))) [] (fun d (s : Slot × Slot × Slot) => [.sh (dd p), .sh (dd q), .ownD true (dk d) (dv d), s.1, s.2.1, s.2.2]) (.none, .none, .none) (fun j d => d.length ≤ j * 100) rfl rfl rfl rfl (by simp) ?_).choose_spec.1 ?_
  · intro j d x s hj hd
    have hmx := List.mem_of_getElem? hj
    have hj : j < p.length := (List.getElem?_eq_some_iff.mp hj).1
    have e : (j + 1) * 100 = j * 100 + 100 := Nat.succ_mul j 100
    have h4 := addAll_len (q.map (mulC x)) d
    rw [List.length_map] at h4
    refine ⟨?_, by omega⟩
    obtain ⟨s', h5, _⟩ := dct_ex (F := F__law_mul) (t := .name 4) (tt := true) (items := false) (i := 1) (ks := dk q) (vs := dv q) (body := [.asg (.name 5) (.tup [.bin .add (.idx (.var 3) (.lit (.int 0))) (.idx (.var 4) (.lit (.int 0))), .bin .add (.idx (.var 3) (.lit (.int 1))) (.idx (.var 4) (.lit (.int 1)))]), .put 2 (.var 5) (.bin .add (.get (.var 2) (.var 5) (.lit (.int 0))) (.bin .mul (.idx (.var 0) (.var 3)) (.idx (.var 1) (.var 4))))]) (.keys 1)
      (fun x : Cl => eK x.1) q (fun d y => put d (kadd x.1 y.1) (co d (kadd x.1 y.1) + x.2 * y.2)) d (fun d (s : Slot × Slot) => [.sh (dd p), .sh (dd q), .ownD true (dk d) (dv d), .sh (eK x.1), s.1, s.2]) (s.2.1, s.2.2) (fun i d' => d'.length ≤ d.length + i)
      (env := [.sh (dd p), .sh (dd q), .ownD true (dk d) (dv d), .sh (eK x.1), s.2.1, s.2.2]) rfl rfl rfl rfl (Nat.le_refl _) (by
        intro i d' y s hi hd'
        have hmy := List.mem_of_getElem? hi
        have hm := hs y hmy
        have hi : i < q.length := (List.getElem?_eq_some_iff.mp hi).1
        have h3 := len_put d' (kadd x.1 y.1) (co d' (kadd x.1 y.1) + x.2 * y.2)
        refine ⟨⟨(.sh (eK y.1), .sh (eK (kadd x.1 y.1))), ?_⟩, by omega⟩
        show exB F__law_mul [.asg (.name 5) (.tup [.bin .add (.idx (.var 3) (.lit (.int 0))) (.idx (.var 4) (.lit (.int 0))), .bin .add (.idx (.var 3) (.lit (.int 1))) (.idx (.var 4) (.lit (.int 1)))]), .put 2 (.var 5) (.bin .add (.get (.var 2) (.var 5) (.lit (.int 0))) (.bin .mul (.idx (.var 0) (.var 3)) (.idx (.var 1) (.var 4))))] [.sh (dd p), .sh (dd q), .ownD true (dk d') (dv d'), .sh (eK x.1), .sh (eK y.1), s.2] = _
        refine st_name (eK (kadd x.1 y.1)) rfl ?_ ?_
        · rfl
        refine st_put (dk d') (dv d') (eK (kadd x.1 y.1)) (.int (co d' (kadd x.1 y.1) + x.2 * y.2)) rfl rfl ?_ rfl rfl (by unfold dk; rw [List.length_map]; omega) ?_
        · have e : opD .mul (.int x.2) (.int y.2) = .ok (.int (x.2 * y.2)) := by rw [opD_mul, hm]; simp
          have ex : idxD (dd p) (eK x.1) = .ok (.int x.2) := by
            rw [ev_idx (List.mem_map.mpr ⟨_, hmx, rfl⟩)]
            unfold co
            rw [(lk_mem (v := x.2) hp).mpr hmx]; rfl
          have ey : idxD (dd q) (eK y.1) = .ok (.int y.2) := by
            rw [ev_idx (List.mem_map.mpr ⟨_, hmy, rfl⟩)]
            unfold co
            rw [(lk_mem (v := y.2) hq).mpr hmy]; rfl
          rw [evE_bin, ev_get (t := d') (key := kadd x.1 y.1) (z := 0) rfl rfl rfl rfl, evE_bin, evE_idx, evE_idx]
          show ((idxD (dd p) (eK x.1) >>= fun a => (idxD (dd q) (eK y.1) >>= fun b => opD .mul a b)) >>= _) = _
          rw [ex, ey]
          show (opD .mul (.int x.2) (.int y.2) >>= _) = _
          rw [e]; rfl
        · rw [putL_enc]; rfl)
    rw [addAll_fold] at h5
    exact ⟨(.sh (eK x.1), s'.1, s'.2), h5⟩
  · exact st_frz (st_ret rfl rfl)
end K26
namespace K26
open Dx Tb
/-! powers of tables, swapped -/
theorem oneT_enc : D.tup [.tup [.tup [.int 0, .int 0], .int 1]] = .tup (oneT.map eC) := rfl
theorem g_power0 (p : T Ky) : g_power_of_table [dt p, .int 0] = .ok (.tup (oneT.map eC)) := by
  refine run_ret rfl ?_
  refine st_name (.tup (oneT.map eC)) rfl rfl ?_
  refine st_for ?_
  refine for_k (fun i : Nat => D.int i) (List.range 0) (fun t _ => t) () (fun t s => [.sh (dt p), .sh (.int 0), .sh (.tup (oneT.map eC)), s]) .none rfl rfl (ev_rng1 (n := 0) rfl (by omega)) rfl ?_ ?_
  · intro t c s h; simp at h
  · intro s; exact st_ret rfl rfl
theorem g_power2 (p : T Ky) (h1 : p.length ≤ 10) (hs : ∀ y ∈ p, small y.2 = true) (ho : told (mulAll oneT p) = p) : g_power_of_table [dt p, .int 2] = .ok (dt (told (mulAll p p))) := by
  refine run_ret rfl ?_
  refine st_name (.tup (oneT.map eC)) rfl rfl ?_
  refine st_for ?_
  refine for_kN (fun i : Nat => D.int i) (List.range 2) (fun t _ => t + 1) 0 (fun t s => [.sh (dt p), .sh (.int 2), .sh (match t with | 0 => .tup (oneT.map eC) | 1 => dt p | _ => dt (told (mulAll p p))), s]) .none (fun j t => t = j) rfl rfl (ev_rng1 (n := 2) rfl (by omega)) rfl rfl ?_ ?_
  · rintro j t c s hj rfl
    refine ⟨⟨.sh (.int c), ?_⟩, rfl⟩
    simp only [tgD_name, Res.bind_ok, List.set_cons_succ, List.set_cons_zero]
    have hj : t < 2 := by
      have := (List.getElem?_eq_some_iff.mp hj).1
      simpa using this
    rcases (show t = 0 ∨ t = 1 by omega) with rfl | rfl
    · refine st_name (dt p) rfl (ev_call2 (.tup (oneT.map eC)) (dt p) rfl rfl rfl rfl ?_) rfl
      show g_times_tables [_, _] = _
      rw [g_times_tables_at _ oneT p rfl (by simp [oneT]) (by omega) hs, ho]
    · exact st_name (dt (told (mulAll p p))) rfl (ev_call2 (dt p) (dt p) rfl rfl rfl rfl (g_times_tables_eq p p (by omega) (by omega) hs)) rfl
  · intro s h
    exact st_ret rfl rfl
def sw (x : Cl) : Cl := ((x.1.2, x.1.1), x.2)
theorem g_swapped_eq (p : T Ky) (hl : p.length ≤ 1000) : g_swapped [dt p] = .ok (dt ((p.map sw).mergeSort leO)) := by
  refine run_ret rfl (st_ret rfl ?_)
  refine ev_bi1 _ (ev_bi1 (.lst ((p.map sw).map eC)) ?_ (bi_sorted (sort_cells _ (by rw [List.length_map]; omega)))) rfl
  rw [List.map_map]
  refine lc_map eC p (eC ∘ sw) rfl (by omega) ?_
  intro x _
  rfl
theorem sw_told (d : T Ky) : ((told d).map sw).mergeSort leO = told (d.map sw) := by
  refine sort_perm ?_
  have e : nz (d.map sw) = (nz d).map sw := by
    unfold nz
    rw [List.filter_map]; rfl
  rw [e]
  exact (told_perm d).map sw
/-! is_table -/
theorem g_is_number_int (i j : Int) : g_is_number [.int i, .int j] = .ok (.bl (!decide (i < j))) := by
  refine run_ret rfl (st_ret rfl ?_)
  simp [Dx.start, d_is_number, biD, kindD, andG, orG, cmG, cmD, isNonD, PySem.W.dataLt_int]
theorem is_number_one (i : Int) : F_is_table 1 [.int i] = .ok (.bl true) := by
  show runF F_is_number d_is_number [.int i, .non] = _
  refine run_ret rfl (st_ret rfl ?_)
  simp [Dx.start, d_is_number, biD, kindD, andG, orG, cmG, cmD, isNonD]
structure OkT (p : T Ky) : Prop where
  len : p.length ≤ 10
  low : ∀ c ∈ p, low c.1
  nz : ∀ c ∈ p, c.2 ≠ 0
  sm : ∀ c ∈ p, small c.2 = true
  srt : p.Pairwise fun a b => leO a b = true
  nd : (ks p).Nodup
theorem OkT.step {p : T Ky} (h : OkT p) {i : Nat} {a b : Cl} (ha : p[i]? = some a) (hb : p[i + 1]? = some b) : PySem.W.DatumOrd.lt a.1 b.1 = true := by
  obtain ⟨hi, ha⟩ := List.getElem?_eq_some_iff.mp ha
  obtain ⟨hj, hb⟩ := List.getElem?_eq_some_iff.mp hb
  have h1 := List.pairwise_iff_getElem.mp h.srt i (i + 1) hi hj (by omega)
  rw [ha, hb] at h1
  have h2 : (ks p)[i]'(by simpa using hi) ≠ (ks p)[i + 1]'(by simpa using hj) := List.pairwise_iff_getElem.mp h.nd i (i + 1) (by simpa using hi) (by simpa using hj) (by omega)
  simp only [List.getElem_map, ha, hb] at h2
  unfold leO at h1
  rw [lt_pair, if_neg (Ne.symm h2)] at h1
  exact lt_of_le (show leO a.1 b.1 = true from h1) h2
theorem cm_lt_key (a b : Ky) : cmG .lt (eK a) (eK b) = .ok (.bl (PySem.W.DatumOrd.lt a b)) := by
  show (optR (ordD (fun x y => PySem.W.dataLt x y) (EncD.enc a) (EncD.enc b)) >>= fun r => _) = _
  rw [ordD_enc _ a b (by decide), PySem.W.DatumOrd.lt_eq]; rfl
theorem g_is_table_eq (p : T Ky) (h : OkT p) : g_is_table [dt p] = .ok (.bl true) := by
  refine run_ret rfl ?_
  have h1 : evE F_is_table (.allG false (.andE (.bi .isTuple [.var 4]) (.cmp .eq (.bi .len [.var 4]) (.lit (.int 2)))) (.name 4) (.seq (.var 0)) [] [4]) (Dx.start 6 [dt p]) = .ok (.bl true) := by
    rw [all_all eC p (fun _ => true) rfl (by
      intro x _
      simp [lcT, eC, Dx.start, biD, kindD, andG])]
    simp
  refine st_ifF0 ?_ ?_
  · rw [evT_or, evT_not, evT_not, evT_e, evT_e, show d_is_table.n = 6 from rfl, h1]; rfl
  refine st_for ?_
  refine for_see eC p (fun _ => none) (fun (s : Slot × Slot) => [.sh (dt p), s.1, s.2, .none, .none, .none]) (.none, .none) rfl rfl rfl rfl ?_ ?_ ?_
  · intro x s hx
    refine ⟨(.sh (eK x.1), .sh (.int x.2)), ?_⟩
    show exB F_is_table _ [.sh (dt p), .sh (eK x.1), .sh (.int x.2), .none, .none, .none] = _
    have hl := h.low x hx
    refine st_ifF0 ?_ (st_ifF0 ?_ rfl)
    · have h2 : evE F_is_table (.allG false (.call 0 [.var 5, .lit (.int 0)]) (.name 5) (.seq (.var 1)) [] [5]) [.sh (dt p), .sh (eK x.1), .sh (.int x.2), .none, .none, .none] = .ok (.bl true) := by
        rw [all_all D.int [x.1.1, x.1.2] (fun _ => true) rfl (by
          intro y hy
          have hy : 0 ≤ y := by
            have := hl.1
            have := hl.2.2.1
            simp at hy
            rcases hy with rfl | rfl <;> assumption
          have e : F_is_table 0 [.int y, .int 0] = .ok (.bl true) := by
            show g_is_number _ = _
            rw [g_is_number_int]
            simp [hy]
          simp [lcT, callG, e])]
        rfl
      rw [evT_or, evT_or, evT_not, evT_not, evT_e, evT_e, evT_e, h2]; rfl
    · rw [evT_or, evT_not, evT_e, evT_e]
      have hn := h.nz x hx
      simp [callG, is_number_one, hn]
  · intro d hd
    rw [List.findSome?_eq_none_iff.mpr fun _ _ => rfl] at hd; cases hd
  · intro _ s
    refine st_ret rfl ?_
    have hg : ∀ n : Nat, n + 1 = p.length → evE F_is_table (.allG false (.cmp .lt (.idx (.idx (.var 0) (.var 3)) (.lit (.int 0))) (.idx (.idx (.var 0) (.bin .add (.var 3) (.lit (.int 1)))) (.lit (.int 0)))) (.name 3) (.rng [.bin .sub (.bi .len [.var 0]) (.lit (.int 1))]) [] [3]) [.sh (dt p), s.1, s.2, .none, .none, .none] = .ok (.bl true) := by
      intro n hn
      rw [all_all (fun i : Nat => D.int i) (List.range n) (fun _ => true) ?_ ?_]
      · simp
      · refine ev_rng1 ?_ (by have := h.len; omega)
        simp [dt, ← hn]
      · intro i hi
        have hi : i < n := by simpa using hi
        have ha : p[i]? = some p[i] := List.getElem?_eq_getElem (by omega)
        have hb : p[i + 1]? = some p[i + 1] := List.getElem?_eq_getElem (by omega)
        have e1 : (p.map eC)[i]? = some (eC p[i]) := by rw [List.getElem?_map, ha]; rfl
        have e2 : (p.map eC)[i + 1]? = some (eC p[i + 1]) := by rw [List.getElem?_map, hb]; rfl
        have e3 : ∀ x : Cl, idxD (eC x) (.int 0) = .ok (eK x.1) := fun x => rfl
        have e4 : L2.atI (p.map eC) ((i : Int) + 1) = some (eC p[i + 1]) := by
          rw [show (i : Int) + 1 = ((i + 1 : Nat) : Int) by omega, atI_natI, e2]
        simp only [lcT, tgD_name, Res.bind_ok, wipeE_cons, wipeE_nil, List.set_cons_succ, List.set_cons_zero, evCs_nil, if_true, evE_cmp, evE_idx, evE_var, getS_S, getS_0, dt, idx_ftup, atI_natI, e1, optR_some, evE_lit, litD_int, e3, evE_bin, opD_add, e4, cm_lt_key, h.step ha hb, noExc_ok]
    cases hp : p.length with
    | zero =>
      have : p = [] := List.length_eq_zero_iff.mp hp
      subst this
      have e : evIt F_is_table (.rng [.bin .sub (.bi .len [.var 0]) (.lit (.int 1))]) [.sh (dt []), s.1, s.2, .none, .none, .none] = .ok (([] : List Nat).map fun i : Nat => D.int i) := by
        rw [evIt_rng, evL_cons, show evE F_is_table (.bin .sub (.bi .len [.var 0]) (.lit (.int 1))) [.sh (dt []), s.1, s.2, .none, .none, .none] = .ok (.int (-1)) from rfl, evL_nil]
        rw [bind_okN, bind_okN, bind_okN]
        have h : inR (-1) = true := by
          unfold Dx.inR
          simp only [Bool.and_eq_true, decide_eq_true_eq]; omega
        simp only [rngG, h, if_true]; rfl
      rw [all_all (fun i : Nat => D.int i) [] (fun _ => true) e (by simp)]
      rfl
    | succ n => exact hg n hp.symm
theorem g_check_table_eq (p : T Ky) (h : OkT p) : g_check_table [dt p] = .ok .non := by
  refine run_nx rfl (env := [.sh (dt p)]) ?_
  refine st_ifF0 ?_ rfl
  rw [evT_not, evT_e, ev_call1 (F := F_check_table) (f := 0) (a := .var 0) (env := Dx.start d_check_table.n [dt p]) (dt p) rfl rfl (g_is_table_eq p h)]; rfl
end K26
namespace K26
open Dx Tb
def atC (x y : Int) (c : Cl) : Int := c.2 * x ^ c.1.1.toNat * y ^ c.1.2.toNat
def atT (x y : Int) (p : T Ky) : Int := sumBy (atC x y) p
theorem sum_map (f : Cl → Int) : ∀ p : T Ky, (p.map f).sum = sumBy f p
  | [] => rfl
  | x :: p => by
    rw [List.map_cons, List.sum_cons, sum_map f p]; rfl
theorem small_pow {y : Int} (h : y.natAbs ≤ 2 ^ 30) {n : Nat} (hn : n ≤ 2) : small (y ^ n) = true := by
  have h1 : (y ^ n).natAbs ≤ 2 ^ 60 := by
    rw [Int.natAbs_pow]
    refine Nat.le_trans (Nat.pow_le_pow_left h n) ?_
    exact Nat.le_trans (Nat.pow_le_pow_right (by decide) hn) (by decide)
  exact small_of (by omega) (by omega)
theorem small_abs {y : Int} (h : y.natAbs ≤ 2 ^ 30) : small y = true := small_of (by omega) (by omega)
theorem nat_of {i : Int} (h : 0 ≤ i) : ((i.toNat : Nat) : Int) = i := Int.toNat_of_nonneg h
theorem bi_sum (l : List Int) : biD .sum [.lst (dInts l)] = .ok (.int l.sum) := by
  show (match intsD (dInts l) with | some ns => Res.ok (D.int ns.sum) | none => .bad) = _
  rw [intsD_ints]
theorem g_worth_of_table_eq (p : T Ky) (x y : Int) (h : OkT p) (hx : x.natAbs ≤ 2 ^ 30) (hy : y.natAbs ≤ 2 ^ 30) : g_worth_of_table [dt p, .int x, .int y] = .ok (.int (atT x y p)) := by
  refine run_ret rfl ?_
  refine st_expr .non (ev_call1 (dt p) rfl rfl (g_check_table_eq p h)) ?_
  refine st_ret rfl ?_
  refine ev_bi1 (.lst (dInts (p.map (atC x y)))) ?_ (by rw [bi_sum, sum_map]; rfl)
  rw [← map_int]
  refine lc_map eC p _ rfl (by have := h.len; omega) ?_
  intro c hc
  have hl := h.low c hc
  have e1 : F_worth_of_table 1 [.int x, .int c.1.1] = .ok (.int (x ^ c.1.1.toNat)) := by
    have := g_to_power_eq x c.1.1.toNat (small_abs hx) (by have := hl.2.1; omega)
    rw [nat_of hl.1] at this
    exact this
  have e2 : F_worth_of_table 1 [.int y, .int c.1.2] = .ok (.int (y ^ c.1.2.toNat)) := by
    have := g_to_power_eq y c.1.2.toNat (small_abs hy) (by have := hl.2.2.2; omega)
    rw [nat_of hl.2.2.1] at this
    exact this
  have s1 := h.sm c hc
  have s2 : small (y ^ c.1.2.toNat) = true := small_pow hy (by have := hl.2.2.2; omega)
  simp [lcT, eC, Dx.start, d_worth_of_table, callG, e1, e2, s1, s2, atC]
theorem g_law_at_eq (p : T Ky) (x y : Int) (h : OkT p) (hx : x.natAbs ≤ 2 ^ 30) (hy : y.natAbs ≤ 2 ^ 30) : g__law_at [dt p, .int x, .int y] = .ok (.int (atT x y p)) := by
  refine run_ret rfl ?_
  refine st_ret rfl ?_
  refine ev_bi1 (.lst (dInts (p.map (atC x y)))) ?_ (by rw [bi_sum, sum_map]; rfl)
  rw [← map_int]
  refine lc_map eC p _ rfl (by have := h.len; omega) ?_
  intro c hc
  have hl := h.low c hc
  have e1 : F__law_at 0 [.int x, .int c.1.1] = .ok (.int (x ^ c.1.1.toNat)) := by
    have := g_law_power_eq x c.1.1.toNat (small_abs hx) (by have := hl.2.1; omega)
    rw [nat_of hl.1] at this
    exact this
  have e2 : F__law_at 0 [.int y, .int c.1.2] = .ok (.int (y ^ c.1.2.toNat)) := by
    have := g_law_power_eq y c.1.2.toNat (small_abs hy) (by have := hl.2.2.2; omega)
    rw [nat_of hl.2.2.1] at this
    exact this
  have s1 := h.sm c hc
  have s2 : small (y ^ c.1.2.toNat) = true := small_pow hy (by have := hl.2.2.2; omega)
  have i0 : idxD (.tup [.int c.1.1, .int c.1.2]) (.int 0) = .ok (.int c.1.1) := rfl
  have i1 : idxD (.tup [.int c.1.1, .int c.1.2]) (.int 1) = .ok (.int c.1.2) := rfl
  simp only [lcT, eC, Dx.start, d__law_at, wipeE_cons, wipeE_nil, List.map_cons, List.map_nil, List.cons_append, List.nil_append, List.length_cons, List.length_nil, Nat.reduceAdd, Nat.reduceSub, List.replicate_succ, List.replicate_zero, List.set_cons_succ, List.set_cons_zero, tgD_tup, tgL_cons, tgL_nil, tgD_name, Res.bind_ok, evCs_nil, if_true, kp_bin, evE_bin, evE_var, getS_S, getS_0, evE_call, callG, kpAll_cons, kpAll_nil, kp_idx, kp_var, Bool.and_self, evL_cons, evL_nil, evE_idx, evE_lit, litD_int, i0, i1, e1, e2, opD_mul, s1, s2, Bool.true_or, Bool.or_true, noExc_ok, List.getElem?_cons_zero, List.getElem?_cons_succ, if_true]
  rfl
/-! put_in_table -/
def putC (x y : List Int) (c : Cl) : List Int := scaleR (timesR (powR x c.1.1.toNat) (powR y c.1.2.toNat)) c.2
def putT (x y : List Int) (p : T Ky) : List Int := p.foldl (fun t c => plusR t (putC x y c)) []
theorem val_putC (t : Int) (x y : List Int) (c : Cl) : val t (putC x y c) = atC (val t x) (val t y) c := by
  unfold putC atC
  rw [val_scale, val_times, val_pow, val_pow, Int.mul_comm, Int.mul_assoc]
theorem val_putT_go (t : Int) (x y : List Int) : ∀ (p : T Ky) (r : List Int), val t (p.foldl (fun t c => plusR t (putC x y c)) r) = val t r + atT (val t x) (val t y) p
  | [], r => by show _ = _ + (0 : Int); simp
  | c :: p, r => by
    rw [List.foldl_cons, val_putT_go t x y p, val_plus, val_putC]
    show _ = _ + (_ + sumBy (atC (val t x) (val t y)) p)
    rw [Int.add_assoc]; rfl
theorem val_putT (t : Int) (x y : List Int) (p : T Ky) : val t (putT x y p) = atT (val t x) (val t y) p := by
  unfold putT
  rw [val_putT_go]
  show 0 + _ = _
  omega
theorem putC_len (x y : List Int) (hx : x.length ≤ 10) (hy : y.length ≤ 10) (c : Cl) (h : low c.1) : (putC x y c).length ≤ 50 := by
  unfold putC
  have h1 := scale_len (timesR (powR x c.1.1.toNat) (powR y c.1.2.toNat)) c.2
  have h2 := times_len (powR x c.1.1.toNat) (powR y c.1.2.toNat)
  have h3 := pow_len x 10 hx c.1.1.toNat
  have h4 := pow_len y 10 hy c.1.2.toNat
  have := h.2.1
  have := h.2.2.2
  omega
theorem g_put_in_table_eq (p : T Ky) (x y : List Int) (h : OkT p) (hx : x.length ≤ 10) (hy : y.length ≤ 10) (sx : nrm x ≤ 100) (sy : nrm y ≤ 100) : g_put_in_table [dt p, .tup (dInts x), .tup (dInts y)] = .ok (.tup (dInts (putT x y p))) := by
  refine run_ret rfl ?_
  refine st_name (.tup (dInts [])) rfl rfl ?_
  refine st_for ?_
  refine for_kN eC p (fun t c => plusR t (putC x y c)) [] (fun t (s : Slot × Slot × Slot) => [.sh (dt p), .sh (.tup (dInts x)), .sh (.tup (dInts y)), .sh (.tup (dInts t)), s.1, s.2.1, s.2.2]) (.none, .none, .none) (fun _ t => t.length ≤ 50) rfl rfl rfl rfl (by simp) ?_ ?_
  · intro j t c s hj ht
    have hc := List.mem_of_getElem? hj
    have hl := h.low c hc
    have hp := putC_len x y hx hy c hl
    have h2 := plus_len t (putC x y c)
    refine ⟨⟨(.sh (.int c.2), .sh (.int c.1.1), .sh (.int c.1.2)), ?_⟩, by omega⟩
    show exB F_put_in_table _ [.sh (dt p), .sh (.tup (dInts x)), .sh (.tup (dInts y)), .sh (.tup (dInts t)), .sh (.int c.2), .sh (.int c.1.1), .sh (.int c.1.2)] = _
    have h3 := pow_len x 10 hx c.1.1.toNat
    have h4 := pow_len y 10 hy c.1.2.toNat
    have h5 := times_len (powR x c.1.1.toNat) (powR y c.1.2.toNat)
    have l1 := hl.2.1
    have l2 := hl.2.2.2
    have px : F_put_in_table 3 [.tup (dInts x), .int c.1.1] = .ok (.tup (dInts (powR x c.1.1.toNat))) := by
      have := g_power_eq x c.1.1.toNat (by omega) (by omega) (smalls_nrm (by omega))
      rw [nat_of hl.1] at this
      exact this
    have py : F_put_in_table 3 [.tup (dInts y), .int c.1.2] = .ok (.tup (dInts (powR y c.1.2.toNat))) := by
      have := g_power_eq y c.1.2.toNat (by omega) (by omega) (smalls_nrm (by omega))
      rw [nat_of hl.2.2.1] at this
      exact this
    have sp : smalls (powR y c.1.2.toNat) := smalls_nrm (Nat.le_trans (nrm_pow y 100 sy _) (Nat.le_trans (Nat.pow_le_pow_right (by decide) (show c.1.2.toNat ≤ 2 by omega)) (by decide)))
    refine st_name (.tup (dInts (plusR t (putC x y c)))) rfl ?_ rfl
    refine ev_call2 (.tup (dInts t)) (.tup (dInts (putC x y c))) rfl rfl rfl ?_ (g_plus_eq _ _ (by omega) (by omega))
    refine ev_call2 (.tup (dInts (timesR (powR x c.1.1.toNat) (powR y c.1.2.toNat)))) (.int c.2) rfl rfl ?_ rfl (g_scaled_eq _ _ (by omega) (h.sm c hc))
    exact ev_call2 (.tup (dInts (powR x c.1.1.toNat))) (.tup (dInts (powR y c.1.2.toNat))) rfl rfl (ev_call2 _ _ rfl rfl rfl rfl px) (ev_call2 _ _ rfl rfl rfl rfl py) (g_times_eq _ _ (by omega) (by omega) (.inr sp))
  · intro s ht
    exact st_ret rfl rfl
/-! what is no table -/
theorem wrong0 : g_is_table [.non] = .ok (.bl false) := by rfl
theorem wrong1 : g_is_table [.lst [.tup [.tup [.int 0, .int 0], .int 1]]] = .ok (.bl false) := by rfl
theorem wrong2 : g_is_table [.tup [.tup [.tup [.int 0, .int 0], .int 0]]] = .ok (.bl false) := by rfl
end K26
namespace K26
open Dx Tb
open PySem (Str)
/-! texts -/
theorem ok_app (x y : Str) : PySem.PyData.strOk (x ++ y) = (PySem.PyData.strOk x && PySem.PyData.strOk y) := by
  show (x.cps ++ y.cps).all _ = _
  rw [Array.all_append]; rfl
theorem len_app (x y : Str) : (x ++ y).length = x.length + y.length := by
  show (x.cps ++ y.cps).size = _
  rw [Array.size_append]; rfl
theorem str_nil {x : Str} : x = ("" : Str) ↔ x.length = 0 := by
  constructor
  · rintro rfl; rfl
  · intro h
    obtain ⟨c⟩ := x
    have h : c.size = 0 := h
    have : c = #[] := Array.size_eq_zero_iff.mp h
    rw [this]; rfl
def tS (k : Int) : Str := ((toString k : String) : Str)
theorem digit {k : Int} (h0 : 0 ≤ k) (h1 : k ≤ 9) : PySem.PyData.strOk (tS k) = true ∧ (tS k).length = 1 ∧ biD .str [.int k] = .ok (.str (tS k)) := by
  have : k = 0 ∨ k = 1 ∨ k = 2 ∨ k = 3 ∨ k = 4 ∨ k = 5 ∨ k = 6 ∨ k = 7 ∨ k = 8 ∨ k = 9 := by omega
  rcases this with rfl | rfl | rfl | rfl | rfl | rfl | rfl | rfl | rfl | rfl <;> exact ⟨by decide +kernel, by decide +kernel, rfl⟩
def letterS (c : Str) (k : Int) : Str := if k = 0 then "" else if k = 1 then c else c ++ "^" ++ tS k
theorem ok_lit : PySem.PyData.strOk ("" : Str) = true ∧ PySem.PyData.strOk ("^" : Str) = true ∧ PySem.PyData.strOk ("-" : Str) = true ∧ PySem.PyData.strOk ("+" : Str) = true ∧ PySem.PyData.strOk ("t" : Str) = true ∧ PySem.PyData.strOk ("x" : Str) = true ∧ PySem.PyData.strOk ("y" : Str) = true ∧ PySem.PyData.strOk ("0" : Str) = true := by decide +kernel
theorem len_lit : ("" : Str).length = 0 ∧ ("^" : Str).length = 1 ∧ ("-" : Str).length = 1 ∧ ("+" : Str).length = 1 ∧ ("t" : Str).length = 1 ∧ ("x" : Str).length = 1 ∧ ("y" : Str).length = 1 ∧ ("0" : Str).length = 1 := by decide +kernel
theorem letter_ok {c : Str} {k : Int} (hc : PySem.PyData.strOk c = true) (hl : c.length ≤ 1) (h0 : 0 ≤ k) (h1 : k ≤ 9) : PySem.PyData.strOk (letterS c k) = true ∧ (letterS c k).length ≤ 3 := by
  obtain ⟨d1, d2, _⟩ := digit h0 h1
  unfold letterS
  split
  · exact ⟨ok_lit.1, by rw [len_lit.1]; omega⟩
  · split
    · exact ⟨hc, by omega⟩
    · refine ⟨by rw [ok_app, ok_app, hc, ok_lit.2.1, d1]; rfl, by rw [len_app, len_app, d2, len_lit.2.1]; omega⟩
theorem g_letter_of_eq {c : Str} {k : Int} (hl : c.length ≤ 1) (h0 : 0 ≤ k) (h1 : k ≤ 9) : g_letter_of [.str c, .int k] = .ok (.str (letterS c k)) := by
  refine run_ret rfl ?_
  obtain ⟨_, d2, d3⟩ := digit h0 h1
  have f1 : fits (c.length + ("^" : Str).length) = true := fits_of (by rw [len_lit.2.1]; omega)
  have f2 : fits ((c ++ "^" : Str).length + (tS k).length) = true := fits_of (by rw [len_app, len_lit.2.1, d2]; omega)
  unfold letterS
  by_cases e0 : k = 0
  · rw [if_pos e0]
    refine st_ifT ?_ rfl
    simp [Dx.start, d_letter_of, e0]
  · rw [if_neg e0]
    refine st_ifF0 (by simp [Dx.start, d_letter_of, e0]) (st_ret rfl ?_)
    by_cases e1 : k = 1
    · rw [if_pos e1]
      simp [Dx.start, d_letter_of, e1]
    · rw [if_neg e1]
      simp [Dx.start, d_letter_of, e1, d3, f1, f2]
theorem g_law_letter_eq {c : Str} {k : Int} (hl : c.length ≤ 1) (h0 : 0 ≤ k) (h1 : k ≤ 9) : g__law_letter [.str c, .int k] = .ok (.str (letterS c k)) := by
  refine run_ret rfl ?_
  obtain ⟨_, d2, d3⟩ := digit h0 h1
  have f1 : fits (c.length + ("^" : Str).length) = true := fits_of (by rw [len_lit.2.1]; omega)
  have f2 : fits ((c ++ "^" : Str).length + (tS k).length) = true := fits_of (by rw [len_app, len_lit.2.1, d2]; omega)
  refine st_ret rfl ?_
  unfold letterS
  by_cases e0 : k = 0
  · rw [if_pos e0]
    simp [Dx.start, d__law_letter, e0]
  · rw [if_neg e0]
    by_cases e1 : k = 1
    · rw [if_pos e1]
      simp [Dx.start, d__law_letter, e1]
    · rw [if_neg e1]
      simp [Dx.start, d__law_letter, e0, e1, d3, f1, f2]
def absI (n : Int) : Int := if n < 0 then -n else n
def signS (n : Int) (f : Bool) : Str := if n < 0 then "-" else if f = true then "" else "+"
def wordS (n : Int) (l : Str) (f : Bool) : Str := signS n f ++ (if absI n = 1 ∧ l ≠ "" then l else tS (absI n) ++ l)
theorem absI_le {n : Int} (h1 : -9 ≤ n) (h2 : n ≤ 9) : 0 ≤ absI n ∧ absI n ≤ 9 := by unfold absI; split <;> omega
theorem sign_ok (n : Int) (f : Bool) : PySem.PyData.strOk (signS n f) = true ∧ (signS n f).length ≤ 1 := by
  unfold signS
  split
  · exact ⟨ok_lit.2.2.1, by rw [len_lit.2.2.1]; omega⟩
  · split
    · exact ⟨ok_lit.1, by rw [len_lit.1]; omega⟩
    · exact ⟨ok_lit.2.2.2.1, by rw [len_lit.2.2.2.1]; omega⟩
theorem word_ok {n : Int} {l : Str} {f : Bool} (h1 : -9 ≤ n) (h2 : n ≤ 9) (hl : PySem.PyData.strOk l = true) (hn : l.length ≤ 10) : PySem.PyData.strOk (wordS n l f) = true ∧ 0 < (wordS n l f).length ∧ (wordS n l f).length ≤ 20 := by
  obtain ⟨a1, a2⟩ := absI_le h1 h2
  obtain ⟨d1, d2, _⟩ := digit a1 a2
  obtain ⟨s1, s2⟩ := sign_ok n f
  unfold wordS
  split
  · rename_i h
    have h3 : l.length ≠ 0 := fun z => h.2 (str_nil.mpr z)
    refine ⟨by rw [ok_app, s1, hl]; rfl, by rw [len_app]; omega, by rw [len_app]; omega⟩
  · refine ⟨by rw [ok_app, ok_app, s1, d1, hl]; rfl, by rw [len_app, len_app]; omega, by rw [len_app, len_app]; omega⟩
theorem bi_abs (n : Int) : biD .abs [.int n] = .ok (.int (absI n)) := rfl
theorem g_word_of_eq {n : Int} {l : Str} {f : Bool} (h1 : -9 ≤ n) (h2 : n ≤ 9) (hl : PySem.PyData.strOk l = true) (hn : l.length ≤ 10) : g_word_of [.int n, .str l, .bl f] = .ok (.str (wordS n l f)) := by
  refine run_ret rfl ?_
  obtain ⟨a1, a2⟩ := absI_le h1 h2
  obtain ⟨d1, d2, d3⟩ := digit a1 a2
  obtain ⟨s1, s2⟩ := sign_ok n f
  refine st_name (.str (signS n f)) rfl ?_ ?_
  · unfold signS
    by_cases e : n < 0
    · simp [Dx.start, d_word_of, e]
    · cases f <;> simp [Dx.start, d_word_of, e]
  refine st_name (.int (absI n)) rfl (ev_bi1 (.int n) rfl rfl) ?_
  refine st_ret rfl ?_
  have f1 : fits ((signS n f).length + l.length) = true := fits_of (by omega)
  have f2 : fits ((tS (absI n)).length + l.length) = true := fits_of (by omega)
  have f3 : fits ((signS n f).length + (tS (absI n) ++ l).length) = true := fits_of (by rw [len_app]; omega)
  have q := eqD_str hl ok_lit.1
  unfold wordS
  by_cases e1 : absI n = 1
  · by_cases e2 : l = ""
    · rw [if_neg fun z => z.2 e2]
      subst e2
      rw [e1] at d3 f2 f3 ⊢
      simp [Dx.start, d_word_of, e1, q, d3, f2, f3]
    · rw [if_pos ⟨e1, e2⟩]
      simp [Dx.start, d_word_of, e1, q, e2, f1]
  · rw [if_neg fun z => e1 z.1]
    simp [Dx.start, d_word_of, e1, d3, f2, f3]
theorem g_law_word_eq {n : Int} {l : Str} {f : Bool} (h1 : -9 ≤ n) (h2 : n ≤ 9) (hl : PySem.PyData.strOk l = true) (hn : l.length ≤ 10) : g__law_word [.int n, .str l, .bl f] = .ok (.str (wordS n l f)) := by
  refine run_ret rfl ?_
  obtain ⟨a1, a2⟩ := absI_le h1 h2
  obtain ⟨d1, d2, d3⟩ := digit a1 a2
  obtain ⟨s1, s2⟩ := sign_ok n f
  refine st_name (.str (signS n f)) rfl ?_ ?_
  · unfold signS
    by_cases e : n < 0
    · simp [Dx.start, d__law_word, e]
    · cases f <;> simp [Dx.start, d__law_word, e]
  refine st_ret rfl ?_
  have f1 : fits ((signS n f).length + l.length) = true := fits_of (by omega)
  have f2 : fits ((tS (absI n)).length + l.length) = true := fits_of (by omega)
  have f3 : fits ((signS n f).length + (tS (absI n) ++ l).length) = true := fits_of (by rw [len_app]; omega)
  have q := eqD_str hl ok_lit.1
  unfold wordS
  by_cases e1 : absI n = 1
  · by_cases e2 : l = ""
    · rw [if_neg fun z => z.2 e2]
      subst e2
      rw [e1] at d3 f2 f3 ⊢
      simp [Dx.start, d__law_word, bi_abs, e1, q, d3, f2, f3]
    · rw [if_pos ⟨e1, e2⟩]
      simp [Dx.start, d__law_word, bi_abs, e1, q, e2, f1]
  · rw [if_neg fun z => e1 z.1]
    simp [Dx.start, d__law_word, bi_abs, e1, d3, f2, f3]
/-! the words and the text -/
def cat (ws : List Str) : Str := PySem.Txt.join "" ws
theorem cat_nil : cat [] = "" := rfl
theorem cat_snoc (w : Str) : ∀ ws : List Str, cat (ws ++ [w]) = cat ws ++ w := by
  intro ws
  unfold cat
  rw [TL.join_eq, TL.join_eq]
  have e : ("" : Str) = ⟨#[]⟩ := rfl
  rw [e]
  induction ws with
  | nil => exact (PySem.Str.empty_append w).symm
  | cons x ws ih =>
    rw [List.cons_append, PyProof.Rows.join_nil_cons, PyProof.Rows.join_nil_cons, ih, PySem.Str.append_assoc]
def stepW (ws : List Str) (n : Int) (l : Str) : List Str := ws ++ [wordS n l (decide (ws.length = 0))]
def stepT (t : Str) (n : Int) (l : Str) : Str := t ++ wordS n l (decide (t = ""))
def Sim (ws : List Str) (t : Str) : Prop := t = cat ws ∧ (t = "" ↔ ws.length = 0)
theorem Sim.step {ws : List Str} {t : Str} {n : Int} {l : Str} (h : Sim ws t) (h1 : -9 ≤ n) (h2 : n ≤ 9) (hl : PySem.PyData.strOk l = true) (hn : l.length ≤ 10) : Sim (stepW ws n l) (stepT t n l) := by
  obtain ⟨e1, e2⟩ := h
  have e3 : decide (t = "") = decide (ws.length = 0) := decide_eq_decide.mpr e2
  unfold stepW stepT
  refine ⟨by rw [cat_snoc, ← e1, e3], ?_⟩
  obtain ⟨_, w2, _⟩ := word_ok (f := decide (t = "")) h1 h2 hl hn
  constructor
  · intro z
    have := str_nil.mp z
    rw [len_app] at this
    omega
  · intro z
    simp at z
theorem foldl_sim {α β γ : Type} {f : β → α → β} {g : γ → α → γ} (R : β → γ → Prop) : ∀ {l : List α} {a : β} {b : γ}, R a b → (∀ x a b, x ∈ l → R a b → R (f a x) (g b x)) → R (l.foldl f a) (l.foldl g b)
  | [], _, _, h, _ => h
  | x :: l, a, b, h, hs => foldl_sim R (l := l) (hs x a b List.mem_cons_self h) fun y a b hy => hs y a b (List.mem_cons_of_mem _ hy)
theorem strs_map : ∀ ws : List Str, strsD (ws.map D.str) = some ws
  | [] => rfl
  | w :: ws => by
    show (strsD (ws.map D.str)).map (w :: ·) = _
    rw [strs_map ws]; rfl
theorem sum_le {f : Str → Nat} {B : Nat} : ∀ {ws : List Str}, (∀ w ∈ ws, f w ≤ B) → (ws.map f).sum ≤ ws.length * B
  | [], _ => by simp
  | w :: ws, h => by
    have h1 := sum_le (f := f) (B := B) (ws := ws) fun x hx => h x (List.mem_cons_of_mem _ hx)
    have h2 := h w List.mem_cons_self
    rw [List.map_cons, List.sum_cons, List.length_cons, Nat.succ_mul]; omega
theorem join_cat {ws : List Str} (h : ∀ w ∈ ws, w.length ≤ 20) (hl : ws.length ≤ 100) : joinD ("" : Str) (ws.map D.str) = .ok (.str (cat ws)) := by
  unfold joinD
  rw [strs_map]
  have h1 : (ws.map fun x => x.length).sum ≤ ws.length * 20 := sum_le (f := fun x => x.length) h
  show (if (ws.map fun x => x.length).sum + ws.length * ("" : Str).length ≤ 16777216 then _ else _) = _
  rw [if_pos (by rw [len_lit.1]; omega)]; rfl
structure WOk (j : Nat) (ws : List Str) : Prop where
  len : ws.length ≤ j
  each : ∀ w ∈ ws, w.length ≤ 20
theorem WOk.step {j : Nat} {ws : List Str} {n : Int} {l : Str} (h : WOk j ws) (h1 : -9 ≤ n) (h2 : n ≤ 9) (hl : PySem.PyData.strOk l = true) (hn : l.length ≤ 10) : WOk (j + 1) (stepW ws n l) := by
  refine ⟨by unfold stepW; rw [List.length_append, List.length_singleton]; exact Nat.succ_le_succ h.len, fun w hw => ?_⟩
  rcases List.mem_append.mp hw with hw | hw
  · exact h.each w hw
  · rw [List.mem_singleton.mp hw]
    exact (word_ok h1 h2 hl hn).2.2
theorem WOk.more {j : Nat} {ws : List Str} (h : WOk j ws) : WOk (j + 1) ws := ⟨Nat.le_succ_of_le h.len, h.each⟩
structure TOk (j : Nat) (t : Str) : Prop where
  len : t.length ≤ j * 20
  ok : PySem.PyData.strOk t = true
theorem TOk.step {j : Nat} {t : Str} {n : Int} {l : Str} (h : TOk j t) (h1 : -9 ≤ n) (h2 : n ≤ 9) (hl : PySem.PyData.strOk l = true) (hn : l.length ≤ 10) : TOk (j + 1) (stepT t n l) := by
  obtain ⟨w1, _, w3⟩ := word_ok (f := decide (t = "")) h1 h2 hl hn
  have := h.len
  exact ⟨by unfold stepT; rw [len_app, Nat.succ_mul]; omega, by unfold stepT; rw [ok_app, h.ok, w1]; rfl⟩
theorem TOk.more {j : Nat} {t : Str} (h : TOk j t) : TOk (j + 1) t := ⟨by have := h.len; rw [Nat.succ_mul]; omega, h.ok⟩
def fin0 (t : Str) : Str := if t = "" then "0" else t
end K26
namespace K26
open Dx Tb
open PySem (Str)
abbrev tt : Str := "t"
def rowC (row : List Int) (k : Nat) : Int := row[k]?.getD 0
def rowW (row : List Int) : List Str := (List.range row.length).reverse.foldl (fun ws k => if rowC row k ≠ 0 then stepW ws (rowC row k) (letterS "t" k) else ws) []
def rowT (row : List Int) : Str := (List.range row.length).reverse.foldl (fun t k => if rowC row k ≠ 0 then stepT t (rowC row k) (letterS "t" k) else t) ""
structure RowOk (row : List Int) : Prop where
  len : row.length ≤ 9
  lim : ∀ c ∈ row, -9 ≤ c ∧ c ≤ 9
theorem RowOk.at {row : List Int} (h : RowOk row) {k : Nat} (hk : k < row.length) : -9 ≤ rowC row k ∧ rowC row k ≤ 9 ∧ (dInts row)[k]? = some (.int (rowC row k)) := by
  have e : row[k]? = some row[k] := List.getElem?_eq_getElem hk
  have := h.lim _ (List.getElem_mem hk)
  unfold rowC
  rw [List.getElem?_map, e]
  exact ⟨this.1, this.2, rfl⟩
theorem t_letter {k : Nat} (h : k ≤ 9) : PySem.PyData.strOk (letterS "t" k) = true ∧ (letterS "t" k).length ≤ 3 := letter_ok ok_lit.2.2.2.2.1 (by rw [len_lit.2.2.2.2.1]; omega) (by omega) (by omega)
theorem row_sim (row : List Int) (h : RowOk row) : Sim (rowW row) (rowT row) := by
  unfold rowW rowT
  refine foldl_sim Sim ⟨cat_nil.symm, by simp [str_nil, len_lit.1]⟩ ?_
  intro k ws t hk hs
  have hk : k < row.length := by simpa using hk
  obtain ⟨h1, h2, _⟩ := h.at hk
  have hl := t_letter (show k ≤ 9 by have := h.len; omega)
  split
  · exact hs.step h1 h2 hl.1 (by omega)
  · exact hs
theorem fin_cat {ws : List Str} {t : Str} (h : Sim ws t) : (if 0 < ws.length then cat ws else "0") = fin0 t := by
  unfold fin0
  by_cases e : ws.length = 0
  · rw [if_neg (by omega), if_pos (h.2.mpr e)]
  · rw [if_pos (by omega), if_neg (fun z => e (h.2.mp z)), h.1]
theorem ev_fin {F : Fns} {i : Nat} {env : DEnv} {ws : List Str} (he : getS env i = .ok (.lst (ws.map D.str))) (hw : WOk 100 ws) : evE F (.ife (.e (.cmp .gt (.bi .len [.var i]) (.lit (.int 0)))) (.join (.lit (.str "")) (.var i)) (.lit (.str "0"))) env = .ok (.str (if 0 < ws.length then cat ws else "0")) := by
  have hj := join_cat hw.each hw.len
  by_cases e : 0 < ws.length
  · simp [he, e, joinG, hj]
  · simp [he, e]
theorem g_text_of_row_eq (row : List Int) (h : RowOk row) : g_text_of_row [.tup (dInts row), .str "t"] = .ok (.str (fin0 (rowT row))) := by
  refine run_ret rfl ?_
  refine st_fresh (.lst []) (.own ((([] : List Str)).map D.str)) rfl rfl ?_
  refine st_for ?_
  refine for_kN (fun i : Nat => D.int i) (List.range row.length).reverse (fun ws k => if rowC row k ≠ 0 then stepW ws (rowC row k) (letterS "t" k) else ws) [] (fun (ws : List Str) s => [.sh (.tup (dInts row)), .sh (.str "t"), .own (ws.map D.str), s]) .none WOk rfl rfl ?_ rfl ⟨by simp, by simp⟩ ?_ ?_
  · exact ev_revR1 (by simp [Dx.start, d_text_of_row]) (by have := h.len; omega)
  · intro j ws k s hj hw
    have hj2 := List.mem_of_getElem? hj
    have hjl : j < row.length := by
      have := (List.getElem?_eq_some_iff.mp hj).1
      simpa using this
    have hk : k < row.length := by simpa using hj2
    have hn := h.len
    obtain ⟨h1, h2, h3⟩ := h.at hk
    have hl := t_letter (show k ≤ 9 by omega)
    refine ⟨⟨.sh (.int k), ?_⟩, ?_⟩
    · show exB F_text_of_row _ [.sh (.tup (dInts row)), .sh (.str "t"), .own (ws.map D.str), .sh (.int k)] = _
      by_cases e : rowC row k = 0
      · rw [if_neg (by simpa using e)]
        refine st_ifF0 ?_ rfl
        simp [h3, e]
      · rw [if_pos e]
        refine st_ifT ?_ ?_
        · simp [h3, e]
        · have ha : exB F_text_of_row [.app 2 (.call 0 [.idx (.var 0) (.var 3), .call 1 [.var 1, .var 3], .cmp .eq (.bi .len [.var 2]) (.lit (.int 0))])] [.sh (.tup (dInts row)), .sh (.str "t"), .own (ws.map D.str), .sh (.int k)] = .ok (.nx [.sh (.tup (dInts row)), .sh (.str "t"), .own ((stepW ws (rowC row k) (letterS "t" k)).map D.str), .sh (.int k)]) := by
            refine st_app (ws.map D.str) (.str (wordS (rowC row k) (letterS "t" k) (decide (ws.length = 0)))) rfl rfl ?_ (by rw [List.length_map]; have := hw.len; omega) ?_
            · refine ev_call3 (.int (rowC row k)) (.str (letterS "t" k)) (.bl (decide (ws.length = 0))) rfl rfl rfl ?_ ?_ ?_ (g_word_of_eq h1 h2 hl.1 (by omega))
              · simp [h3]
              · exact ev_call2 (.str "t") (.int k) rfl rfl rfl rfl (g_letter_of_eq (by rw [len_lit.2.2.2.2.1]; omega) (by omega) (by omega))
              · simp
            · unfold stepW
              rw [List.map_append]; rfl
          rw [ha]; rfl
    · split
      · exact hw.step h1 h2 hl.1 (by omega)
      · exact hw.more
  · intro s hw
    refine st_ret rfl ?_
    rw [← fin_cat (row_sim row h)]
    have hn := h.len
    exact ev_fin rfl ⟨Nat.le_trans hw.len (by simp; omega), hw.each⟩
/-! the table's text -/
def nk (c : Cl) : Ky := (-c.1.1, -c.1.2)
def leN (a b : Cl) : Bool := leO (nk a) (nk b)
def down (p : T Ky) : T Ky := p.mergeSort leN
def tri (c : Cl) : PySem.W.Tup Int := ⟨[0 - c.1.1, 0 - c.1.2, c.2]⟩
theorem down_perm (p : T Ky) : (down p).Perm p := List.mergeSort_perm _ _
theorem down_tri (p : T Ky) (hp : (ks p).Nodup) : (p.map tri).mergeSort leO = (down p).map tri := by
  refine (sort_uniq ((down_perm p).map tri) ?_).symm
  have h1 : (down p).Pairwise fun a b => leN a b = true := List.pairwise_mergeSort (fun a b c => leO_tr (nk a) (nk b) (nk c)) (fun a b => leO_tot (nk a) (nk b)) p
  have h2 : (down p).Pairwise fun a b => a.1 ≠ b.1 := by
    have : (ks (down p)).Nodup := ((down_perm p).map _).nodup_iff.mpr hp
    exact List.pairwise_map.mp this
  rw [List.pairwise_map]
  refine (h1.and h2).imp ?_
  rintro ⟨⟨a, b⟩, n⟩ ⟨⟨a', b'⟩, n'⟩ ⟨k1, k2⟩
  have k3 : nk ((a, b), n) ≠ nk ((a', b'), n') := by
    intro z
    apply k2
    have z1 := congrArg Prod.fst z
    have z2 := congrArg Prod.snd z
    simp only [nk] at z1 z2
    exact Prod.ext (by simp; omega) (by simp; omega)
  have k4 := lt_of_le k1 k3
  rw [lt_pair] at k4
  simp only [nk] at k4
  have k4 : (if -a = -a' then PySem.W.DatumOrd.lt (-b) (-b') else PySem.W.DatumOrd.lt (-a) (-a')) = true := k4
  show (!PySem.W.listLt [0 - a', 0 - b', n'] [0 - a, 0 - b, n]) = true
  rw [lt_list, lt_list]
  by_cases e : -a = -a'
  · rw [if_pos e] at k4
    have k4 : -b < -b' := of_decide_eq_true k4
    rw [if_pos (by omega), if_neg (by omega)]
    show (!decide (0 - b' < 0 - b)) = true
    simp; omega
  · rw [if_neg e] at k4
    have k4 : -a < -a' := of_decide_eq_true k4
    rw [if_neg (by omega)]
    show (!decide (0 - a' < 0 - a)) = true
    simp; omega
theorem keys_all {F : D → Res D} {p : T Ky} : (∀ c ∈ p, F (eC c) = .ok (eK (nk c))) → keysD F (p.map eC) = .ok (p.map fun c => eK (nk c)) := by
  induction p with
  | nil => intro _; rfl
  | cons x p ih =>
    intro h
    show (F (eC x) >>= fun y => keysD F (p.map eC) >>= fun r => .ok (y :: r)) = _
    rw [h x List.mem_cons_self, ih fun c hc => h c (List.mem_cons_of_mem _ hc)]; rfl
theorem sort_down (p : T Ky) : (((p.map fun c => eK (nk c)).zip (p.map eC)).mergeSort fun p q => leD p.1 q.1).map (·.2) = (down p).map eC := by
  rw [List.zip_map', ← List.map_mergeSort (r := leN), List.map_map]
  · rfl
  · intro a _ b _
    exact (leD_enc (nk a) (nk b)).symm
def tabL (c : Cl) : Str := letterS "x" c.1.1 ++ letterS "y" c.1.2
def tabW (q : T Ky) : List Str := q.foldl (fun ws c => stepW ws c.2 (tabL c)) []
def tabT (q : T Ky) : Str := q.foldl (fun t c => stepT t c.2 (tabL c)) ""
theorem tabL_ok {c : Cl} (h : low c.1) : PySem.PyData.strOk (tabL c) = true ∧ (tabL c).length ≤ 6 := by
  obtain ⟨h1, h2, h3, h4⟩ := h
  obtain ⟨x1, x2⟩ := letter_ok (c := "x") (k := c.1.1) ok_lit.2.2.2.2.2.1 (by rw [len_lit.2.2.2.2.2.1]; omega) h1 (by omega)
  obtain ⟨y1, y2⟩ := letter_ok (c := "y") (k := c.1.2) ok_lit.2.2.2.2.2.2.1 (by rw [len_lit.2.2.2.2.2.2.1]; omega) h3 (by omega)
  unfold tabL
  exact ⟨by rw [ok_app, x1, y1]; rfl, by rw [len_app]; omega⟩
theorem tab_sim (q : T Ky) (hl : ∀ c ∈ q, low c.1) (hn : ∀ c ∈ q, -9 ≤ c.2 ∧ c.2 ≤ 9) : Sim (tabW q) (tabT q) := by
  unfold tabW tabT
  refine foldl_sim Sim ⟨cat_nil.symm, by simp [str_nil, len_lit.1]⟩ ?_
  intro c ws t hc hs
  have := tabL_ok (hl c hc)
  exact hs.step (hn c hc).1 (hn c hc).2 this.1 (by omega)
theorem tabL_ev {F : Fns} {f : Nat} {a b : E} {env : DEnv} {c : Cl} (h : low c.1) (hf : F f = g_letter_of ∨ F f = g__law_letter) (hk : kp a env = true) (hk2 : kp b env = true) (ha : evE F a env = .ok (.int c.1.1)) (hb : evE F b env = .ok (.int c.1.2)) :
    evE F (.bin .add (.call f [.lit (.str "x"), a]) (.call f [.lit (.str "y"), b])) env = .ok (.str (tabL c)) := by
  obtain ⟨h1, h2, h3, h4⟩ := h
  obtain ⟨x1, x2⟩ := letter_ok (c := "x") (k := c.1.1) ok_lit.2.2.2.2.2.1 (by rw [len_lit.2.2.2.2.2.1]; omega) h1 (by omega)
  obtain ⟨y1, y2⟩ := letter_ok (c := "y") (k := c.1.2) ok_lit.2.2.2.2.2.2.1 (by rw [len_lit.2.2.2.2.2.2.1]; omega) h3 (by omega)
  have e1 : F f [.str "x", .int c.1.1] = .ok (.str (letterS "x" c.1.1)) := by
    rcases hf with hf | hf <;> rw [hf]
    · exact g_letter_of_eq (by rw [len_lit.2.2.2.2.2.1]; omega) h1 (by omega)
    · exact g_law_letter_eq (by rw [len_lit.2.2.2.2.2.1]; omega) h1 (by omega)
  have e2 : F f [.str "y", .int c.1.2] = .ok (.str (letterS "y" c.1.2)) := by
    rcases hf with hf | hf <;> rw [hf]
    · exact g_letter_of_eq (by rw [len_lit.2.2.2.2.2.2.1]; omega) h3 (by omega)
    · exact g_law_letter_eq (by rw [len_lit.2.2.2.2.2.2.1]; omega) h3 (by omega)
  rw [evE_bin, ev_call2 (.str "x") (.int c.1.1) rfl hk rfl ha e1, ev_call2 (.str "y") (.int c.1.2) rfl hk2 rfl hb e2]
  show (if fits ((letterS "x" c.1.1).length + (letterS "y" c.1.2).length) = true then _ else _) = _
  rw [if_pos (fits_of (by omega))]; rfl
theorem g_text_of_table_eq (p : T Ky) (h : OkT p) (hn : ∀ c ∈ p, -9 ≤ c.2 ∧ c.2 ≤ 9) : g_text_of_table [dt p] = .ok (.str (fin0 (tabT (down p)))) := by
  refine run_ret rfl ?_
  refine st_expr .non (ev_call1 (dt p) rfl rfl (g_check_table_eq p h)) ?_
  refine st_fresh (.lst []) (.own ((([] : List Str)).map D.str)) rfl rfl ?_
  refine st_for ?_
  have hm : ∀ c ∈ down p, c ∈ p := fun c hc => (down_perm p).mem_iff.mp hc
  refine for_kN eC (down p) (fun ws c => stepW ws c.2 (tabL c)) [] (fun (ws : List Str) (s : Slot × Slot × Slot) => [.sh (dt p), .own (ws.map D.str), s.1, s.2.1, s.2.2, .none]) (.none, .none, .none) WOk rfl rfl ?_ rfl ⟨by simp, by simp⟩ ?_ ?_
  · rw [evIt_seq, evE_sortK]
    show (sortKG 5 _ _ _ (dt p) >>= fun x => seqG x) = _
    unfold sortKG
    show ((keysD _ (p.map eC) >>= fun ks => _) >>= fun x => _) = _
    rw [keys_all (p := p) (by intro c _; rfl)]
    show ((if (sortOk (p.map fun c => eK (nk c)) && fits (p.map fun c => eK (nk c)).length) = true then _ else _) >>= fun x => _) = _
    have s1 : sortOk (p.map fun c => eK (nk c)) = true := by
      have := sortOk_enc (p.map nk) (by decide) (.inl fun _ _ => rfl)
      rw [List.map_map] at this
      exact this
    rw [if_pos (by rw [s1, fits_of (by rw [List.length_map]; have := h.len; omega)]; rfl), sort_down]; rfl
  · intro j ws c s hj hw
    have hc := hm c (List.mem_of_getElem? hj)
    have hjl : j < p.length := by
      have := (List.getElem?_eq_some_iff.mp hj).1
      rw [(down_perm p).length_eq] at this
      exact this
    have hl := tabL_ok (h.low c hc)
    obtain ⟨h1, h2⟩ := hn c hc
    refine ⟨⟨(.sh (.int c.2), .sh (.int c.1.1), .sh (.int c.1.2)), ?_⟩, hw.step h1 h2 hl.1 (by omega)⟩
    show exB F_text_of_table _ [.sh (dt p), .own (ws.map D.str), .sh (.int c.2), .sh (.int c.1.1), .sh (.int c.1.2), .none] = _
    have hlen := h.len
    refine st_app (ws.map D.str) (.str (wordS c.2 (tabL c) (decide (ws.length = 0)))) rfl rfl ?_ (by rw [List.length_map]; have := hw.len; omega) ?_
    · refine ev_call3 (.int c.2) (.str (tabL c)) (.bl (decide (ws.length = 0))) rfl rfl rfl rfl ?_ ?_ (g_word_of_eq h1 h2 hl.1 (by omega))
      · exact tabL_ev (h.low c hc) (.inl rfl) rfl rfl rfl rfl
      · simp
    · unfold stepW
      rw [List.map_append]; rfl
  · intro s hw
    refine st_ret rfl ?_
    rw [← fin_cat (tab_sim (down p) (fun c hc => h.low c (hm c hc)) (fun c hc => hn c (hm c hc)))]
    have hlen := h.len
    refine ev_fin rfl ⟨Nat.le_trans hw.len (by rw [(down_perm p).length_eq]; omega), hw.each⟩
end K26
namespace K26
open Dx Tb
theorem fm (a m : Int) (h : 0 < m) : 0 ≤ a.fmod m ∧ a.fmod m < m := by
  rw [Int.fmod_eq_emod_of_nonneg a (by omega)]
  exact ⟨Int.emod_nonneg a (by omega), Int.emod_lt_of_pos a h⟩
/-! the draws -/
theorem g_law_cell_eq (ns : List Int) : ∃ c : Int, g__law_cell [.scr (dInts ns), .int 0] = .ok (.int c) := by
  cases ns with
  | nil => exact ⟨0, by rfl⟩
  | cons a ns =>
    refine ⟨a, run_ret rfl (st_ifT ?_ ?_)⟩
    · simp [Dx.start, d__law_cell]
    · have e : L2.atI (D.int a :: dInts ns) 0 = some (D.int a) := atI_natI (D.int a :: dInts ns) 0
      have : exB F__law_cell [.ret (some (.idx (.var 0) (.var 1)))] (Dx.start d__law_cell.n [.scr (dInts (a :: ns)), .int 0]) = .ok (.ret (.int a)) := by
        refine st_ret rfl ?_
        simp [Dx.start, d__law_cell, e]
      rw [this]; rfl
def mixed (c : Int) (k : Nat) : Int := (c * 48271 + (k : Int) * 69621 + 1).fmod 2147483647
def drawStep (c : Int) (b : List Int × Int) (k : Nat) : List Int × Int := if c < 1000000000000000000 then (b.1 ++ [((mixed c k * mixed c k + mixed c k * 40692).fmod 2147483399).fdiv 7], b.2) else (b.1 ++ [b.2.fmod 1009], b.2.fdiv 1009)
theorem mixed_ev (c kk : Int) (s : Slot) (l : List D) (b : D) : evE F__law_draws (.bin .mod (.bi .int [.bin .add (.bin .add (.bin .mul (.var 0) (.lit (.int 48271))) (.bin .mul (.var 4) (.lit (.int 69621)))) (.lit (.int 1))]) (.lit (.int 2147483647))) [.sh (.int c), .sh (.int 60), .own l, .sh b, .sh (.int kk), s] = .ok (.int ((c * 48271 + kk * 69621 + 1).fmod 2147483647)) := by
  have m1 : small 48271 = true := small_of (by omega) (by omega)
  have m2 : small 69621 = true := small_of (by omega) (by omega)
  simp [m1, m2]
theorem draw_ev (m : Int) (m4 : small m = true) (x : Slot) (c kk : Int) (l : List D) (b : D) : evE F__law_draws (.bin .fdiv (.bin .mod (.bi .int [.bin .add (.bin .mul (.var 5) (.var 5)) (.bin .mul (.var 5) (.lit (.int 40692)))]) (.lit (.int 2147483399))) (.lit (.int 7))) [.sh (.int c), x, .own l, .sh b, .sh (.int kk), .sh (.int m)] = .ok (.int (((m * m + m * 40692).fmod 2147483399).fdiv 7)) := by
  have m3 : small 40692 = true := small_of (by omega) (by omega)
  have hf : ∀ i : Int, opD .fdiv (.int i) (.int 7) = .ok (.int (i.fdiv 7)) := fun i => rfl
  simp [m3, m4, hf]
theorem big_ev (c kk : Int) (x s : Slot) (l : List D) (b : D) : evT F__law_draws (.e (.cmp .ge (.var 0) (.bin .pow (.lit (.int 10)) (.lit (.int 18))))) [.sh (.int c), x, .own l, .sh b, .sh (.int kk), s] = .ok (!decide (c < 1000000000000000000)) := by
  have hp : opD .pow (.int 10) (.int 18) = .ok (.int 1000000000000000000) := by rfl
  simp [hp]
theorem rest_ev (c kk r : Int) (x s : Slot) (l : List D) : evE F__law_draws (.bin .mod (.var 3) (.lit (.int 1009))) [.sh (.int c), x, .own l, .sh (.int r), .sh (.int kk), s] = .ok (.int (r.fmod 1009)) ∧ evE F__law_draws (.bin .fdiv (.var 3) (.lit (.int 1009))) [.sh (.int c), x, .own l, .sh (.int r), .sh (.int kk), s] = .ok (.int (r.fdiv 1009)) := by
  have hf : ∀ i : Int, opD .fdiv (.int i) (.int 1009) = .ok (.int (i.fdiv 1009)) := fun i => rfl
  simp [hf]
theorem g_law_draws_eq (c : Int) : ∃ n : List Int, n.length = 60 ∧ g__law_draws [.int c, .int 60] = .ok (.lst (dInts n)) := by
  have hlen : ∀ (l : List Nat) (b : List Int × Int), (l.foldl (drawStep c) b).1.length = b.1.length + l.length := by
    intro l
    induction l with
    | nil => intro b; rfl
    | cons k l ih =>
      intro b
      rw [List.foldl_cons, ih]
      have : (drawStep c b k).1.length = b.1.length + 1 := by unfold drawStep; split <;> simp
      rw [this]; simp; omega
  refine ⟨((List.range 60).foldl (drawStep c) ([], c)).1, by rw [hlen]; rfl, ?_⟩
  refine run_ret rfl ?_
  refine st_fresh (.lst (dInts [])) (.own (dInts [])) rfl rfl ?_
  refine st_name (.int c) rfl (ev_bi1 (.int c) rfl rfl) ?_
  refine st_for ?_
  refine for_kN (fun i : Nat => D.int i) (List.range 60) (drawStep c) ([], c) (fun b (s : Slot × Slot) => [.sh (.int c), .sh (.int 60), .own (dInts b.1), .sh (.int b.2), s.1, s.2]) (.none, .none) (fun j b => b.1.length = j) rfl rfl (ev_rng1 (n := 60) rfl (by omega)) rfl rfl ?_ ?_
  · intro j b k s hj hb
    refine ⟨⟨(.sh (.int k), .sh (.int (mixed c k))), ?_⟩, by unfold drawStep; split <;> simp [hb]⟩
    have hj : j < 60 := by
      have := (List.getElem?_eq_some_iff.mp hj).1
      simpa using this
    show exB F__law_draws _ [.sh (.int c), .sh (.int 60), .own (dInts b.1), .sh (.int b.2), .sh (.int k), s.2] = _
    obtain ⟨q1, q2⟩ := fm (c * 48271 + (k : Int) * 69621 + 1) 2147483647 (by omega)
    have m4 : small (mixed c k) = true := small_of (by unfold mixed; omega) (by unfold mixed; omega)
    refine st_name (.int (mixed c k)) rfl (mixed_ev c k _ _ _) ?_
    by_cases hc : c < 1000000000000000000
    · refine st_ifF (b := [.app 2 (.bin .fdiv (.bin .mod (.bi .int [.bin .add (.bin .mul (.var 5) (.var 5)) (.bin .mul (.var 5) (.lit (.int 40692)))]) (.lit (.int 2147483399))) (.lit (.int 7)))]) ((big_ev c k _ _ _ _).trans (by rw [decide_eq_true hc]; rfl)) ?_
      have ha : exB F__law_draws [.app 2 (.bin .fdiv (.bin .mod (.bi .int [.bin .add (.bin .mul (.var 5) (.var 5)) (.bin .mul (.var 5) (.lit (.int 40692)))]) (.lit (.int 2147483399))) (.lit (.int 7)))] [.sh (.int c), .sh (.int 60), .own (dInts b.1), .sh (.int b.2), .sh (.int k), .sh (.int (mixed c k))] = .ok (.nx [.sh (.int c), .sh (.int 60), .own (dInts (drawStep c b k).1), .sh (.int (drawStep c b k).2), .sh (.int k), .sh (.int (mixed c k))]) := by
        refine st_app (dInts b.1) (.int (((mixed c k * mixed c k + mixed c k * 40692).fmod 2147483399).fdiv 7)) rfl rfl (draw_ev _ m4 _ _ _ _ _) (by rw [len_dInts]; omega) ?_
        have e : drawStep c b k = (b.1 ++ [((mixed c k * mixed c k + mixed c k * 40692).fmod 2147483399).fdiv 7], b.2) := by unfold drawStep; rw [if_pos hc]
        rw [e, dInts_app]; rfl
      show (exB F__law_draws _ [.sh (.int c), .sh (.int 60), .own (dInts b.1), .sh (.int b.2), .sh (.int k), .sh (.int (mixed c k))] >>= _) = _
      rw [ha]; rfl
    · refine st_ifT (a := [.app 2 (.bin .mod (.var 3) (.lit (.int 1009))), .asg (.name 3) (.bin .fdiv (.var 3) (.lit (.int 1009)))]) ((big_ev c k _ _ _ _).trans (by rw [decide_eq_false hc]; rfl)) ?_
      have ha : exB F__law_draws [.app 2 (.bin .mod (.var 3) (.lit (.int 1009))), .asg (.name 3) (.bin .fdiv (.var 3) (.lit (.int 1009)))] [.sh (.int c), .sh (.int 60), .own (dInts b.1), .sh (.int b.2), .sh (.int k), .sh (.int (mixed c k))] = .ok (.nx [.sh (.int c), .sh (.int 60), .own (dInts (drawStep c b k).1), .sh (.int (drawStep c b k).2), .sh (.int k), .sh (.int (mixed c k))]) := by
        refine st_app (dInts b.1) (.int (b.2.fmod 1009)) rfl rfl (rest_ev c k b.2 _ _ _).1 (by rw [len_dInts]; omega) ?_
        refine st_name (.int (b.2.fdiv 1009)) rfl (rest_ev c k b.2 _ _ _).2 ?_
        have e : drawStep c b k = (b.1 ++ [b.2.fmod 1009], b.2.fdiv 1009) := by unfold drawStep; rw [if_neg hc]
        rw [e, dInts_app]; rfl
      show (exB F__law_draws _ [.sh (.int c), .sh (.int 60), .own (dInts b.1), .sh (.int b.2), .sh (.int k), .sh (.int (mixed c k))] >>= _) = _
      rw [ha]; rfl
  · intro s hb
    exact st_frz (st_ret rfl rfl)
/-! wrong tables -/
def wrongs : List D := [.non, .lst [.tup [.tup [.int 0, .int 0], .int 1]], .tup [.tup [.tup [.int 0, .int 0], .int 0]], .tup [.tup [.tup [.int 1, .int 0], .int 1], .tup [.tup [.int 0, .int 0], .int 1]], .tup [.tup [.tup [.int 0, .int (-1)], .int 1]], .tup [.tup [.tup [.int 0], .int 1]], .tup [.tup [.tup [.int 0, .int 0], .bl true]], .tup [.tup [.tup [.int 0, .int 0], .int 1], .tup [.tup [.int 0, .int 0], .int 2]]]
theorem wrong_all : ∀ w ∈ wrongs, g_is_table [w] = .ok (.bl false) := by
  intro w hw
  simp only [wrongs, List.mem_cons, List.not_mem_nil, or_false] at hw
  rcases hw with rfl | rfl | rfl | rfl | rfl | rfl | rfl | rfl
  · rfl
  · rfl
  · rfl
  · rfl
  · rfl
  · rfl
  · rfl
  · rfl
/-! clean rows -/
theorem g_law_clean_eq (l : List Int) (h : clean l) : g__law_clean [.tup (dInts l)] = .ok (.bl true) := by
  refine run_ret rfl (st_ret rfl ?_)
  rcases h with rfl | ⟨l', c, rfl, hc⟩
  · rfl
  · have e : eqD (.tup (dInts (l' ++ [c]))) (.tup []) = some (decide (l' ++ [c] = [])) := eqD_tupI (l' ++ [c]) []
    rw [dInts_app] at e ⊢
    have e2 := L2.atI_last (dInts l') (D.int c)
    have e : eqD (.tup (dInts l' ++ [D.int c])) (.tup []) = some false := by
      rw [show dInts l' ++ [D.int c] = dInts l' ++ dInts [c] from rfl, e]; simp
    show evE F__law_clean _ [.sh (.tup (dInts l' ++ [D.int c]))] = _
    simp [biD, kindD, andG, orG, tupG, show fits 0 = true from rfl, e, e2, hc]
end K26
namespace K26
open Dx Tb
/-! what is drawn -/
def nn (n : List Int) (i : Nat) : Int := n[i]?.getD 0
def dg (n : List Int) (i : Nat) : Int := (nn n i).fmod 7 - 3
def cnt (n : List Int) (i : Nat) (m : Int) : Nat := ((nn n i).fmod m).toNat
theorem dg_lim (n : List Int) (i : Nat) : -3 ≤ dg n i ∧ dg n i ≤ 3 := by
  have := fm (nn n i) 7 (by omega)
  unfold dg; omega
theorem cnt_eq (n : List Int) (i : Nat) (m : Int) (h : 0 < m) : ((cnt n i m : Nat) : Int) = (nn n i).fmod m := Int.toNat_of_nonneg (fm _ m h).1
theorem cnt_lt (n : List Int) (i : Nat) (m : Nat) (h : 0 < m) : cnt n i m < m := by
  have h1 := cnt_eq n i m (by omega)
  have h2 := (fm (nn n i) m (by omega)).2
  omega
def rowA (n : List Int) : List Int := (List.range (cnt n 6 6)).map fun k => dg n k
def rowB (n : List Int) : List Int := (List.range (cnt n 13 6)).map fun k => dg n (7 + k)
def one (n : List Int) : List Int := trim (rowA n)
def two (n : List Int) : List Int := trim (rowB n)
def sz (n : List Int) : Nat := cnt n 14 4
def fac (n : List Int) : Int := (nn n 15).fmod 5 - 2
theorem fac_lim (n : List Int) : -2 ≤ fac n ∧ fac n ≤ 2 := by
  have := fm (nn n 15) 5 (by omega)
  unfold fac; omega
/-- a drawn row -/
structure RowD (l : List Int) : Prop where
  len : l.length ≤ 5
  lim : ∀ c ∈ l, -3 ≤ c ∧ c ≤ 3
theorem trim_mem {c : Int} : ∀ {l : List Int}, c ∈ trim l → c ∈ l
  | d :: l, h => by
    rw [trim_cons] at h
    split at h
    · simp at h
    · rcases List.mem_cons.mp h with rfl | h
      · exact List.mem_cons_self
      · exact List.mem_cons_of_mem _ (trim_mem h)
theorem RowD.trim {l : List Int} (h : RowD l) : RowD (K26.trim l) := ⟨Nat.le_trans (trim_len l) h.len, fun c hc => h.lim c (trim_mem hc)⟩
theorem rowD_A (n : List Int) : RowD (rowA n) := by
  have h := cnt_lt n 6 6 (by omega)
  refine ⟨?_, fun c hc => ?_⟩
  · unfold rowA; rw [List.length_map, List.length_range]; exact Nat.le_of_lt_succ h
  · unfold rowA at hc
    obtain ⟨k, _, rfl⟩ := List.mem_map.mp hc
    exact dg_lim n k
theorem rowD_B (n : List Int) : RowD (rowB n) := by
  have h := cnt_lt n 13 6 (by omega)
  refine ⟨?_, fun c hc => ?_⟩
  · unfold rowB; rw [List.length_map, List.length_range]; exact Nat.le_of_lt_succ h
  · unfold rowB at hc
    obtain ⟨k, _, rfl⟩ := List.mem_map.mp hc
    exact dg_lim n (7 + k)
theorem rowD_one (n : List Int) : RowD (one n) := (rowD_A n).trim
theorem rowD_two (n : List Int) : RowD (two n) := (rowD_B n).trim
theorem nrm_le : ∀ {l : List Int}, (∀ c ∈ l, -3 ≤ c ∧ c ≤ 3) → nrm l ≤ l.length * 3
  | [], _ => by simp [nrm]
  | c :: l, h => by
    have h1 := nrm_le (l := l) fun d hd => h d (List.mem_cons_of_mem _ hd)
    have h2 := h c List.mem_cons_self
    show c.natAbs + nrm l ≤ _
    rw [List.length_cons, Nat.succ_mul]; omega
theorem RowD.nrm {l : List Int} (h : RowD l) : nrm l ≤ 15 := by
  have := nrm_le h.lim
  have := h.len
  omega
theorem RowD.smalls {l : List Int} (h : RowD l) : smalls l := smalls_nrm (by have := h.nrm; omega)
theorem RowD.ok {l : List Int} (h : RowD l) : RowOk l := ⟨by have := h.len; omega, fun c hc => by have := h.lim c hc; omega⟩
theorem val_abs (x : Int) (X : Nat) (hX : 1 ≤ X) (hx : x.natAbs ≤ X) : ∀ l : List Int, (val x l).natAbs ≤ nrm l * X ^ l.length
  | [] => by simp [val, K26.nrm]
  | c :: l => by
    have ih := val_abs x X hX hx l
    show (val x l * x + c).natAbs ≤ (c.natAbs + nrm l) * X ^ (l.length + 1)
    have h1 : (val x l * x).natAbs ≤ nrm l * X ^ l.length * X := by
      rw [Int.natAbs_mul]; exact Nat.mul_le_mul ih hx
    have h2 : (val x l * x + c).natAbs ≤ (val x l * x).natAbs + c.natAbs := Int.natAbs_add_le _ _
    have h3 : c.natAbs ≤ c.natAbs * X ^ (l.length + 1) := Nat.le_mul_of_pos_right _ (Nat.pow_pos (by omega))
    rw [Nat.mul_assoc, ← Nat.pow_succ] at h1
    rw [Nat.add_mul]
    refine Nat.le_trans h2 ?_
    rw [Nat.add_comm (c.natAbs * _)]
    exact Nat.add_le_add h1 h3
theorem RowD.val {l : List Int} (h : RowD l) {x : Int} (hx : x.natAbs ≤ 7) : (K26.val x l).natAbs ≤ 2 ^ 30 := by
  refine Nat.le_trans (val_abs x 7 (by omega) hx l) ?_
  refine Nat.le_trans (Nat.mul_le_mul h.nrm (Nat.pow_le_pow_right (by omega) h.len)) (by decide)
def made (n : List Int) : List (List Int) := [plusR (one n) (two n), timesR (one n) (two n), scaleR (one n) (fac n), powR (one n) (sz n), putR (two n) (one n)]
theorem made_clean (n : List Int) : ∀ r ∈ made n, clean r := by
  intro r hr
  simp only [made, List.mem_cons, List.not_mem_nil, or_false] at hr
  rcases hr with rfl | rfl | rfl | rfl | rfl
  · exact clean_trim _
  · exact clean_times _ _
  · exact clean_trim _
  · exact clean_pow _ _
  · exact clean_put _ _
/-! drawn tables -/
def tabD (n : List Int) (i b : Nat) : T Ky := (List.range (cnt n i 4)).foldl (fun d k => put d ((nn n (b + 3 * k)).fmod 3, (nn n (b + 1 + 3 * k)).fmod 3) (dg n (b + 2 + 3 * k))) []
structure TabD (m : Nat) (d : T Ky) : Prop where
  len : d.length ≤ m
  nd : (ks d).Nodup
  low : ∀ c ∈ d, low c.1
  lim : ∀ c ∈ d, -3 ≤ c.2 ∧ c.2 ≤ 3
theorem put_mem {d : T Ky} {k : Ky} {v : Int} {c : Cl} (h : c ∈ put d k v) : c = (k, v) ∨ c ∈ d := by
  unfold put at h
  split at h
  · obtain ⟨x, h1, h2⟩ := List.mem_map.mp h
    have h2 : (if x.1 = k then (x.1, v) else x) = c := h2
    split at h2
    · rename_i e
      rw [← h2, e]; exact .inl rfl
    · rw [← h2]; exact .inr h1
  · rcases List.mem_append.mp h with h | h
    · exact .inr h
    · exact .inl (List.mem_singleton.mp h)
theorem TabD.put {m : Nat} {d : T Ky} (h : TabD m d) {k : Ky} {v : Int} (hk : K26.low k) (hv : -3 ≤ v ∧ v ≤ 3) : TabD (m + 1) (put d k v) := by
  refine ⟨?_, nd_put h.nd, fun c hc => ?_, fun c hc => ?_⟩
  · have := len_put d k v
    have := h.len
    omega
  · rcases put_mem hc with rfl | hc
    · exact hk
    · exact h.low c hc
  · rcases put_mem hc with rfl | hc
    · exact hv
    · exact h.lim c hc
theorem low_fm (a b : Int) : low (a.fmod 3, b.fmod 3) := by
  have h1 := fm a 3 (by omega)
  have h2 := fm b 3 (by omega)
  exact ⟨h1.1, by show a.fmod 3 ≤ 2; omega, h2.1, by show b.fmod 3 ≤ 2; omega⟩
theorem TabD.ok {d : T Ky} (h : TabD 3 d) : OkT (told d) := by
  refine ⟨?_, fun c hc => h.low c (mem_told.mp hc).1, fun c hc => (mem_told.mp hc).2, fun c hc => ?_, sort_pair _, nd_told h.nd⟩
  · have := len_told d
    have := h.len
    omega
  · have := h.lim c (mem_told.mp hc).1
    exact small_of (by omega) (by omega)
theorem TabD.small {d : T Ky} (h : TabD 3 d) : ∀ c ∈ d, small c.2 = true := fun c hc => small_of (by have := h.lim c hc; omega) (by have := h.lim c hc; omega)
theorem told_add {d e : T Ky} (hd : (ks d).Nodup) (he : (ks e).Nodup) : told (addAll (told d) (told e)) = told (addAll d e) := by
  refine told_congr (nd_addAll _ _ (nd_told hd)) (nd_addAll _ _ hd) fun k => ?_
  rw [co_addAll, co_addAll, co_told hd, sumBy_told _ (atK0 k)]
/-! evaluation -/
theorem t_e {F : Fns} {a : E} {env : DEnv} {b : Bool} (h : evE F a env = .ok (.bl b)) : evT F (.e a) env = .ok b := by rw [evT_e, h]; rfl
theorem t_not {F : Fns} {t : Tst} {env : DEnv} {b : Bool} (h : evT F t env = .ok b) : evT F (.not t) env = .ok (!b) := by rw [evT_not, h]; rfl
theorem t_or {F : Fns} {t u : Tst} {env : DEnv} (h : evT F t env = .ok false) (h2 : evT F u env = .ok false) : evT F (.or t u) env = .ok false := by rw [evT_or, h]; exact h2
theorem t_ne {F : Fns} {a b : E} {env : DEnv} {x y : D} {r : Bool} (ha : evE F a env = .ok x) (hb : evE F b env = .ok y) (hq : eqD x y = some r) : evT F (.e (.cmp .ne a b)) env = .ok (!r) := by
  refine t_e ?_
  rw [evE_cmp, ha]
  show (evE F b env >>= fun y => cmG .ne x y) = _
  rw [hb]
  show cmG .ne x y = _
  rw [cm_ne, hq]; rfl
theorem n_at {F : Fns} {a b : E} {env : DEnv} {n : List Int} {i : Nat} (ha : evE F a env = .ok (.lst (dInts n))) (hb : evE F b env = .ok (.int (i : Nat))) (hi : i < n.length) : evE F (.idx a b) env = .ok (.int (nn n i)) := by
  rw [evE_idx, ha]
  show (evE F b env >>= fun y => idxD (.lst (dInts n)) y) = _
  rw [hb]
  show optR (L2.atI (dInts n) (i : Int)) = _
  rw [atI_natI, List.getElem?_map, List.getElem?_eq_getElem hi]
  unfold nn
  rw [List.getElem?_eq_getElem hi]; rfl
theorem mod_ev {F : Fns} {a : E} {env : DEnv} {x m : Int} (ha : evE F a env = .ok (.int x)) (hm : m ≠ 0) : evE F (.bin .mod a (.lit (.int m))) env = .ok (.int (x.fmod m)) := by
  rw [evE_bin, ha]
  show opD .mod (.int x) (.int m) = _
  rw [opD_mod, decide_eq_true hm]; rfl
theorem sub_ev {F : Fns} {a : E} {env : DEnv} {x m : Int} (ha : evE F a env = .ok (.int x)) : evE F (.bin .sub a (.lit (.int m))) env = .ok (.int (x - m)) := by
  rw [evE_bin, ha]; rfl
theorem dg_ev {F : Fns} {a b : E} {env : DEnv} {n : List Int} {i : Nat} (ha : evE F a env = .ok (.lst (dInts n))) (hb : evE F b env = .ok (.int (i : Nat))) (hi : i < n.length) : evE F (.bin .sub (.bin .mod (.idx a b) (.lit (.int 7))) (.lit (.int 3))) env = .ok (.int (dg n i)) :=
  sub_ev (mod_ev (n_at ha hb hi) (by omega))
theorem cnt_ev {F : Fns} {a b : E} {env : DEnv} {n : List Int} {i : Nat} {m : Int} (ha : evE F a env = .ok (.lst (dInts n))) (hb : evE F b env = .ok (.int (i : Nat))) (hi : i < n.length) (hm : 0 < m) : evE F (.bin .mod (.idx a b) (.lit (.int m))) env = .ok (.int (cnt n i m : Nat)) := by
  rw [cnt_eq n i m hm]
  exact mod_ev (n_at ha hb hi) (by omega)
/-- b + 3 * k -/
theorem at3 {F : Fns} {env : DEnv} {i : Nat} {b kk : Int} (h : evE F (.var i) env = .ok (.int kk)) : evE F (.bin .add (.lit (.int b)) (.bin .mul (.lit (.int 3)) (.var i))) env = .ok (.int (b + 3 * kk)) := by
  have m1 : small 3 = true := small_of (by omega) (by omega)
  rw [evE_bin, evE_bin, h]
  show (opD .mul (.int 3) (.int kk) >>= fun y => opD .add (.int b) y) = _
  rw [opD_mul, m1]; rfl
end K26
namespace K26
open Dx Tb
open PySem (Str)
theorem lc_val {F : Fns} {t : Tg} {elt : E} {d x : D} {env env1 : DEnv} (h1 : tgD t d env = .ok env1) (hk : kp elt env1 = true) (h2 : evE F elt env1 = .ok x) : lcT t (evCs F []) (evE F elt) (kp elt) d env = .ok (some x) := by
  unfold lcT
  rw [h1]
  show noExc (if kp elt env1 = true then (evE F elt env1 >>= fun x => Res.ok (some x)) else Res.bad) = _
  rw [if_pos hk, h2]; rfl
theorem t_notT {F : Fns} {t : Tst} {env : DEnv} (h : evT F t env = .ok true) : evT F (.not t) env = .ok false := t_not h
theorem evl_cons {F : Fns} {e : E} {l : List E} {env : DEnv} {x : D} {xs : List D} (h : evE F e env = .ok x) (t : evL F l env = .ok xs) : evL F (e :: l) env = .ok (x :: xs) := by rw [evL_cons, h, t]; rfl
theorem evl_nil {F : Fns} {env : DEnv} : evL F [] env = .ok [] := rfl
theorem tup_ev {F : Fns} {l : List E} {env : DEnv} {ds : List D} (hk : kpAll l env = true) (h : evL F l env = .ok ds) (hl : ds.length ≤ 1000) : evE F (.tup l) env = .ok (.tup ds) := by
  rw [evE_tup]; unfold tupG
  rw [if_pos hk, h]
  show (if fits ds.length = true then _ else _) = _
  rw [if_pos (fits_of (by omega))]
theorem lst_ev {F : Fns} {l : List E} {env : DEnv} {ds : List D} (hk : kpAll l env = true) (h : evL F l env = .ok ds) (hl : ds.length ≤ 1000) : evE F (.lst l) env = .ok (.lst ds) := by
  rw [evE_lst]; unfold lstG
  rw [if_pos hk, h]
  show (if fits ds.length = true then _ else _) = _
  rw [if_pos (fits_of (by omega))]
theorem add_nat {F : Fns} {i b k : Nat} {env : DEnv} (h : evE F (.var i) env = .ok (.int (k : Int))) : evE F (.bin .add (.lit (.int (b : Int))) (.var i)) env = .ok (.int ((b + k : Nat) : Int)) := by
  rw [evE_bin, h, Int.natCast_add]; rfl
theorem add_ev {F : Fns} {a b : E} {env : DEnv} {x y : Int} (h1 : evE F a env = .ok (.int x)) (h2 : evE F b env = .ok (.int y)) : evE F (.bin .add a b) env = .ok (.int (x + y)) := by
  rw [evE_bin, h1]
  show (evE F b env >>= fun y => opD .add (.int x) y) = _
  rw [h2]; rfl
theorem mul_ev {F : Fns} {a b : E} {env : DEnv} {x y : Int} (h1 : evE F a env = .ok (.int x)) (h2 : evE F b env = .ok (.int y)) (hs : small x = true) : evE F (.bin .mul a b) env = .ok (.int (x * y)) := by
  rw [evE_bin, h1]
  show (evE F b env >>= fun y => opD .mul (.int x) y) = _
  rw [h2]
  show opD .mul (.int x) (.int y) = _
  rw [opD_mul, hs]; rfl
def due (n : List Int) (x : Int) : List Int := [val x (one n) + val x (two n), val x (one n) * val x (two n), val x (one n) * fac n, val x (one n) ^ sz n, val (val x (two n)) (one n)]
theorem due_eq (n : List Int) (x : Int) : (made n).map (val x) = due n x := by
  unfold made due
  simp only [List.map_cons, List.map_nil, val_plus, val_times, val_scale, val_pow, val_put]
section
variable {sc : D} {n : List Int} (hn : n.length = 60) {R : Res Out}
include hn
theorem chA (k : ∀ s6, exB F_law (d_law.body.drop 7) [.sh sc, .sh (.lst (dInts n)), .sh (.tup (dInts (one n))), .sh (.tup (dInts (two n))), .sh (.int (sz n : Nat)), .sh (.tup ((made n).map fun r => D.tup (dInts r))), s6, .none, .none, .none, .none, .none, .none, .none, .none, .none, .none, .none, .none, .none, .none, .none, .none, .none, .none, .none] = R) : exB F_law (d_law.body.drop 1) [.sh sc, .sh (.lst (dInts n)), .none, .none, .none, .none, .none, .none, .none, .none, .none, .none, .none, .none, .none, .none, .none, .none, .none, .none, .none, .none, .none, .none, .none, .none] = R := by
  have l1 := (rowD_one n).len
  have l2 := (rowD_two n).len
  have c1 : cnt n 6 6 < 6 := cnt_lt n 6 6 (by omega)
  have c2 : cnt n 13 6 < 6 := cnt_lt n 13 6 (by omega)
  have c3 : sz n < 4 := cnt_lt n 14 4 (by omega)
  have fl := fac_lim n
  refine st_name (.tup (dInts (one n))) rfl (ev_call1 (.lst (dInts (rowA n))) rfl ?_ (g_trimmed_lst (rowA n) (by have := (rowD_A n).len; omega))) ?_
  · rw [show dInts (rowA n) = (List.range (cnt n 6 6)).map (fun k : Nat => D.int (dg n k)) by simp [rowA]]
    refine lc_map (fun i : Nat => D.int i) _ _ (ev_rng1 (cnt_ev (i := 6) rfl rfl (by omega) (by omega)) (by omega)) (by rw [List.length_range]; omega) ?_
    intro k hk
    have hk : k < cnt n 6 6 := by simpa using hk
    exact lc_val rfl rfl (dg_ev rfl rfl (by omega))
  refine st_name (.tup (dInts (two n))) rfl (ev_call1 (.lst (dInts (rowB n))) rfl ?_ (g_trimmed_lst (rowB n) (by have := (rowD_B n).len; omega))) ?_
  · rw [show dInts (rowB n) = (List.range (cnt n 13 6)).map (fun k : Nat => D.int (dg n (7 + k))) by simp [rowB]]
    refine lc_map (fun i : Nat => D.int i) _ _ (ev_rng1 (cnt_ev (i := 13) rfl rfl (by omega) (by omega)) (by omega)) (by rw [List.length_range]; omega) ?_
    intro k hk
    have hk : k < cnt n 13 6 := by simpa using hk
    exact lc_val rfl rfl (dg_ev rfl (add_nat (b := 7) rfl) (by omega))
  show exB F_law _ [.sh sc, .sh (.lst (dInts n)), .sh (.tup (dInts (one n))), .sh (.tup (dInts (two n))), .none, .none, .none, .none, .none, .none, .none, .none, .none, .none, .none, .none, .none, .none, .none, .none, .none, .none, .none, .none, .none, .none] = R
  refine st_ifF0 (t_or (t_notT (t_e (ev_call1 (.tup (dInts (one n))) rfl rfl (g_law_clean_eq _ (clean_trim _))))) (t_or (t_notT (t_e (ev_call1 (.tup (dInts (two n))) rfl rfl (g_law_clean_eq _ (clean_trim _))))) (t_ne (r := true) (x := .tup (dInts (trim (one n ++ [0, 0])))) (y := .tup (dInts (one n))) (ev_call1 (.lst (dInts (one n ++ [0, 0]))) rfl ?_ (g_trimmed_lst _ (by simp; omega))) rfl ?_))) ?_
  · have f : fits ((one n).length + 2) = true := fits_of (by omega)
    simp [lstG, show fits 2 = true from rfl, f]
  · rw [eqD_tupI, show one n ++ [0, 0] = (one n ++ [0]) ++ [0] by simp, trim_zero, trim_zero, show trim (one n) = one n from trim_trim _]
    simp
  refine st_name (.int (sz n : Nat)) rfl (cnt_ev (i := 14) rfl rfl (by omega) (by omega)) ?_
  refine st_name (.tup ((made n).map fun r => D.tup (dInts r))) rfl (tup_ev rfl (evl_cons ?_ (evl_cons ?_ (evl_cons ?_ (evl_cons ?_ (evl_cons ?_ evl_nil))))) (by simp [made])) ?_
  · exact ev_call2 _ _ rfl rfl rfl rfl (g_plus_eq _ _ (by omega) (by omega))
  · exact ev_call2 _ _ rfl rfl rfl rfl (g_times_eq _ _ (by omega) (by omega) (.inl (rowD_one n).smalls))
  · exact ev_call2 _ (.int (fac n)) rfl rfl rfl (sub_ev (mod_ev (n_at (i := 15) rfl rfl (by omega)) (by omega))) (g_scaled_eq _ _ (by omega) (small_of (by omega) (by omega)))
  · exact ev_call2 _ _ rfl rfl rfl rfl (g_power_eq _ _ (by omega) (by omega) (rowD_one n).smalls)
  · exact ev_call2 _ _ rfl rfl rfl rfl (g_put_in_eq _ _ (by omega) (by omega) (rowD_two n).smalls)
  show exB F_law _ [.sh sc, .sh (.lst (dInts n)), .sh (.tup (dInts (one n))), .sh (.tup (dInts (two n))), .sh (.int (sz n : Nat)), .sh (.tup ((made n).map fun r => D.tup (dInts r))), .none, .none, .none, .none, .none, .none, .none, .none, .none, .none, .none, .none, .none, .none, .none, .none, .none, .none, .none, .none] = R
  refine st_for (for_see (fun r => D.tup (dInts r)) (made n) (fun _ => none) (fun s6 : Slot => [.sh sc, .sh (.lst (dInts n)), .sh (.tup (dInts (one n))), .sh (.tup (dInts (two n))), .sh (.int (sz n : Nat)), .sh (.tup ((made n).map fun r => D.tup (dInts r))), s6, .none, .none, .none, .none, .none, .none, .none, .none, .none, .none, .none, .none, .none, .none, .none, .none, .none, .none, .none]) .none rfl rfl rfl rfl ?_ ?_ ?_)
  · intro r s hr
    refine ⟨.sh (.tup (dInts r)), ?_⟩
    show exB F_law _ [.sh sc, .sh (.lst (dInts n)), .sh (.tup (dInts (one n))), .sh (.tup (dInts (two n))), .sh (.int (sz n : Nat)), .sh (.tup ((made n).map fun r => D.tup (dInts r))), .sh (.tup (dInts r)), .none, .none, .none, .none, .none, .none, .none, .none, .none, .none, .none, .none, .none, .none, .none, .none, .none, .none, .none] = _
    exact st_ifF0 (t_notT (t_e (ev_call1 (.tup (dInts r)) rfl rfl (g_law_clean_eq _ (made_clean n r hr))))) rfl
  · intro d hd
    rw [List.findSome?_eq_none_iff.mpr fun _ _ => rfl] at hd; cases hd
  · intro _ s6
    exact k s6
theorem chC {s6 : Slot} (k : ∀ s : Slot × Slot × Slot × Slot, exB F_law (d_law.body.drop 8) [.sh sc, .sh (.lst (dInts n)), .sh (.tup (dInts (one n))), .sh (.tup (dInts (two n))), .sh (.int (sz n : Nat)), .sh (.tup ((made n).map fun r => D.tup (dInts r))), s6, s.1, .none, .none, .none, .none, .none, .none, s.2.1, .none, .none, .none, .none, .none, .none, .none, .none, .none, s.2.2.1, s.2.2.2] = R) : exB F_law (d_law.body.drop 7) [.sh sc, .sh (.lst (dInts n)), .sh (.tup (dInts (one n))), .sh (.tup (dInts (two n))), .sh (.int (sz n : Nat)), .sh (.tup ((made n).map fun r => D.tup (dInts r))), s6, .none, .none, .none, .none, .none, .none, .none, .none, .none, .none, .none, .none, .none, .none, .none, .none, .none, .none, .none] = R := by
  have fl := fac_lim n
  have c3 : sz n < 4 := cnt_lt n 14 4 (by omega)
  refine st_for (for_see D.int [-3, -2, -1, 0, 1, 2, 3, 5, 7] (fun _ => none) (fun s : Slot × Slot × Slot × Slot => [.sh sc, .sh (.lst (dInts n)), .sh (.tup (dInts (one n))), .sh (.tup (dInts (two n))), .sh (.int (sz n : Nat)), .sh (.tup ((made n).map fun r => D.tup (dInts r))), s6, s.1, .none, .none, .none, .none, .none, .none, s.2.1, .none, .none, .none, .none, .none, .none, .none, .none, .none, s.2.2.1, s.2.2.2]) (.none, .none, .none, .none) rfl rfl rfl rfl ?_ ?_ ?_)
  · intro x s hx
    have hx : x.natAbs ≤ 7 := by
      simp at hx
      omega
    have h1 := (rowD_one n).val hx
    have h2 := (rowD_two n).val hx
    refine ⟨(.sh (.int x), .sh (.lst (dInts (due n x))), .sh (.int (val x (one n))), .sh (.int (val x (two n)))), ?_⟩
    show exB F_law _ [.sh sc, .sh (.lst (dInts n)), .sh (.tup (dInts (one n))), .sh (.tup (dInts (two n))), .sh (.int (sz n : Nat)), .sh (.tup ((made n).map fun r => D.tup (dInts r))), s6, .sh (.int x), .none, .none, .none, .none, .none, .none, s.2.1, .none, .none, .none, .none, .none, .none, .none, .none, .none, s.2.2.1, s.2.2.2] = _
    refine st_par2 (.int (val x (one n))) (.int (val x (two n))) rfl rfl (ev_call2 _ _ rfl rfl rfl rfl (g_law_worth_eq _ _ (small_abs (by omega)))) (ev_call2 _ _ rfl rfl rfl rfl (g_law_worth_eq _ _ (small_abs (by omega)))) ?_
    show exB F_law _ [.sh sc, .sh (.lst (dInts n)), .sh (.tup (dInts (one n))), .sh (.tup (dInts (two n))), .sh (.int (sz n : Nat)), .sh (.tup ((made n).map fun r => D.tup (dInts r))), s6, .sh (.int x), .none, .none, .none, .none, .none, .none, s.2.1, .none, .none, .none, .none, .none, .none, .none, .none, .none, .sh (.int (val x (one n))), .sh (.int (val x (two n)))] = _
    refine st_name (.lst (dInts (due n x))) rfl (lst_ev rfl (evl_cons ?_ (evl_cons ?_ (evl_cons ?_ (evl_cons ?_ (evl_cons ?_ evl_nil))))) (by simp [due])) ?_
    · exact add_ev rfl rfl
    · exact mul_ev rfl rfl (small_abs h1)
    · exact mul_ev rfl (sub_ev (mod_ev (n_at (i := 15) rfl rfl (by omega)) (by omega))) (small_abs h1)
    · exact ev_call2 _ _ rfl rfl rfl rfl (g_law_power_eq _ _ (small_abs h1) (by omega))
    · exact ev_call2 _ _ rfl rfl rfl rfl (g_law_worth_eq _ _ (small_abs h2))
    show exB F_law _ [.sh sc, .sh (.lst (dInts n)), .sh (.tup (dInts (one n))), .sh (.tup (dInts (two n))), .sh (.int (sz n : Nat)), .sh (.tup ((made n).map fun r => D.tup (dInts r))), s6, .sh (.int x), .none, .none, .none, .none, .none, .none, .sh (.lst (dInts (due n x))), .none, .none, .none, .none, .none, .none, .none, .none, .none, .sh (.int (val x (one n))), .sh (.int (val x (two n)))] = _
    refine st_ifF0 (t_or (t_ne (r := true) (x := .lst (dInts ((made n).map (val x)))) (y := .lst (dInts (due n x))) ?_ rfl ?_) (t_ne (r := true) (ev_call2 _ _ rfl rfl rfl rfl (g_worth_eq _ _ (small_abs (by omega)))) rfl (by rw [eqD_int]; simp))) rfl
    · rw [← map_int]
      refine lc_map (fun r => D.tup (dInts r)) (made n) _ rfl (by simp [made]) ?_
      intro r hr
      exact lc_val rfl rfl (ev_call2 _ _ rfl rfl rfl rfl (g_law_worth_eq _ _ (small_abs (by omega))))
    · rw [due_eq, eqD_lstI]; simp
  · intro d hd
    rw [List.findSome?_eq_none_iff.mpr fun _ _ => rfl] at hd; cases hd
  · intro _ s
    exact k s
end
theorem at3n {F : Fns} {env : DEnv} {i b k : Nat} (h : evE F (.var i) env = .ok (.int (k : Int))) : evE F (.bin .add (.lit (.int (b : Int))) (.bin .mul (.lit (.int 3)) (.var i))) env = .ok (.int ((b + 3 * k : Nat) : Int)) := by
  rw [at3 h]
  congr 2
abbrev fst (n : List Int) : T Ky := tabD n 16 20
abbrev snd (n : List Int) : T Ky := tabD n 17 34
theorem tab_ok (n : List Int) (i b : Nat) : TabD 3 (tabD n i b) := by
  have c : cnt n i 4 < 4 := cnt_lt n i 4 (by omega)
  have key : ∀ (l : List Nat) (m : Nat) (d : T Ky), TabD m d → TabD (m + l.length) (l.foldl (fun d k => put d ((nn n (b + 3 * k)).fmod 3, (nn n (b + 1 + 3 * k)).fmod 3) (dg n (b + 2 + 3 * k))) d) := by
    intro l
    induction l with
    | nil => intro m d h; exact h
    | cons k l ih =>
      intro m d h
      have := ih (m + 1) _ (h.put (low_fm (nn n (b + 3 * k)) (nn n (b + 1 + 3 * k))) (dg_lim n (b + 2 + 3 * k)))
      rw [List.length_cons, show m + (l.length + 1) = m + 1 + l.length by omega]
      exact this
  have h := key (List.range (cnt n i 4)) 0 [] ⟨by simp, List.nodup_nil, by simp, by simp⟩
  refine ⟨?_, h.nd, h.low, h.lim⟩
  have := h.len
  rw [List.length_range] at this
  unfold tabD; omega
theorem swap_fold (d : T Ky) (h : (ks d).Nodup) : d.foldl (fun t x => put t (x.1.2, x.1.1) x.2) [] = d.map sw := by
  have e : ∀ (d t : T Ky), d.foldl (fun t x => put t (x.1.2, x.1.1) x.2) t = (d.map sw).foldl (fun t x => put t x.1 x.2) t := by
    intro d
    induction d with
    | nil => intro t; rfl
    | cons x d ih => intro t; rw [List.foldl_cons, List.map_cons, List.foldl_cons, ih]; rfl
  rw [e, foldl_put]
  · rfl
  · rw [List.nil_append]
    have e2 : ks (d.map sw) = (ks d).map fun k => (k.2, k.1) := by unfold ks; rw [List.map_map, List.map_map]; rfl
    rw [e2]
    exact nodup_map_on (fun a _ b _ q => Prod.ext (congrArg Prod.snd q) (congrArg Prod.fst q)) h
theorem nd_sw {d : T Ky} (h : (ks d).Nodup) : (ks (d.map sw)).Nodup := by
  have e2 : ks (d.map sw) = (ks d).map fun k => (k.2, k.1) := by unfold ks; rw [List.map_map, List.map_map]; rfl
  rw [e2]
  exact nodup_map_on (fun a _ b _ q => Prod.ext (congrArg Prod.snd q) (congrArg Prod.fst q)) h
section
variable {sc : D} {n : List Int} (hn : n.length = 60) {R : Res Out} {s6 j7 j14 j24 j25 : Slot}
include hn
theorem chD (k : ∀ j8 j9 : Slot, exB F_law (d_law.body.drop 15) [.sh sc, .sh (.lst (dInts n)), .sh (.tup (dInts (one n))), .sh (.tup (dInts (two n))), .sh (.int (sz n : Nat)), .sh (.tup ((made n).map fun r => D.tup (dInts r))), s6, j7, j8, j9, .none, .none, .none, .none, j14, .sh (dd (fst n)), .sh (dd (snd n)), .ownD true (dk ((fst n).map sw)) (dv ((fst n).map sw)), .none, .none, .none, .none, .none, .none, j24, j25] = R) : exB F_law (d_law.body.drop 8) [.sh sc, .sh (.lst (dInts n)), .sh (.tup (dInts (one n))), .sh (.tup (dInts (two n))), .sh (.int (sz n : Nat)), .sh (.tup ((made n).map fun r => D.tup (dInts r))), s6, j7, .none, .none, .none, .none, .none, .none, j14, .none, .none, .none, .none, .none, .none, .none, .none, .none, j24, j25] = R := by
  have c1 : cnt n 16 4 < 4 := cnt_lt n 16 4 (by omega)
  have c2 : cnt n 17 4 < 4 := cnt_lt n 17 4 (by omega)
  have hf : TabD 3 (fst n) := tab_ok n 16 20
  have hs : TabD 3 (snd n) := tab_ok n 17 34
  refine st_par3T ?_
  show exB F_law _ [.sh sc, .sh (.lst (dInts n)), .sh (.tup (dInts (one n))), .sh (.tup (dInts (two n))), .sh (.int (sz n : Nat)), .sh (.tup ((made n).map fun r => D.tup (dInts r))), s6, j7, .none, .none, .none, .none, .none, .none, j14, .ownD true (dk []) (dv []), .ownD true (dk []) (dv []), .ownD true (dk []) (dv []), .none, .none, .none, .none, .none, .none, j24, j25] = R
  refine st_for (for_kN (fun i : Nat => D.int i) (List.range (cnt n 16 4)) (fun d k => put d ((nn n (20 + 3 * k)).fmod 3, (nn n (20 + 1 + 3 * k)).fmod 3) (dg n (20 + 2 + 3 * k))) [] (fun (d : T Ky) (s8 : Slot) => [.sh sc, .sh (.lst (dInts n)), .sh (.tup (dInts (one n))), .sh (.tup (dInts (two n))), .sh (.int (sz n : Nat)), .sh (.tup ((made n).map fun r => D.tup (dInts r))), s6, j7, s8, .none, .none, .none, .none, .none, j14, .ownD true (dk d) (dv d), .ownD true (dk []) (dv []), .ownD true (dk []) (dv []), .none, .none, .none, .none, .none, .none, j24, j25]) .none TabD rfl rfl (ev_rng1 (cnt_ev (i := 16) rfl rfl (by omega) (by omega)) (by omega)) rfl ⟨by simp, List.nodup_nil, by simp, by simp⟩ ?_ ?_)
  · intro j d k s hj hd
    have hk : k < cnt n 16 4 := by simpa using List.mem_of_getElem? hj
    refine ⟨⟨.sh (.int k), ?_⟩, hd.put (low_fm _ _) (dg_lim _ _)⟩
    show exB F_law _ [.sh sc, .sh (.lst (dInts n)), .sh (.tup (dInts (one n))), .sh (.tup (dInts (two n))), .sh (.int (sz n : Nat)), .sh (.tup ((made n).map fun r => D.tup (dInts r))), s6, j7, .sh (.int k), .none, .none, .none, .none, .none, j14, .ownD true (dk d) (dv d), .ownD true (dk []) (dv []), .ownD true (dk []) (dv []), .none, .none, .none, .none, .none, .none, j24, j25] = _
    have hlen := hd.len
    have hj : j < cnt n 16 4 := by
      have := (List.getElem?_eq_some_iff.mp hj).1
      simpa using this
    refine st_put (dk d) (dv d) (eK ((nn n (20 + 3 * k)).fmod 3, (nn n (20 + 1 + 3 * k)).fmod 3)) (.int (dg n (20 + 2 + 3 * k))) rfl rfl (dg_ev rfl (at3n (b := 20 + 2) rfl) (by omega)) (tup_ev rfl (evl_cons (mod_ev (n_at rfl (at3n (b := 20) rfl) (by omega)) (by omega)) (evl_cons (mod_ev (n_at rfl (at3n (b := 20 + 1) rfl) (by omega)) (by omega)) evl_nil)) (by simp)) rfl (by unfold dk; rw [List.length_map]; omega) ?_
    rw [putL_enc]; rfl
  intro s8 _
  refine st_for (for_kN (fun i : Nat => D.int i) (List.range (cnt n 17 4)) (fun d k => put d ((nn n (34 + 3 * k)).fmod 3, (nn n (34 + 1 + 3 * k)).fmod 3) (dg n (34 + 2 + 3 * k))) [] (fun (d : T Ky) (s8 : Slot) => [.sh sc, .sh (.lst (dInts n)), .sh (.tup (dInts (one n))), .sh (.tup (dInts (two n))), .sh (.int (sz n : Nat)), .sh (.tup ((made n).map fun r => D.tup (dInts r))), s6, j7, s8, .none, .none, .none, .none, .none, j14, .ownD true (dk (fst n)) (dv (fst n)), .ownD true (dk d) (dv d), .ownD true (dk []) (dv []), .none, .none, .none, .none, .none, .none, j24, j25]) s8 TabD rfl rfl (ev_rng1 (cnt_ev (i := 17) rfl rfl (by omega) (by omega)) (by omega)) rfl ⟨by simp, List.nodup_nil, by simp, by simp⟩ ?_ ?_)
  · intro j d k s hj hd
    have hk : k < cnt n 17 4 := by simpa using List.mem_of_getElem? hj
    refine ⟨⟨.sh (.int k), ?_⟩, hd.put (low_fm _ _) (dg_lim _ _)⟩
    show exB F_law _ [.sh sc, .sh (.lst (dInts n)), .sh (.tup (dInts (one n))), .sh (.tup (dInts (two n))), .sh (.int (sz n : Nat)), .sh (.tup ((made n).map fun r => D.tup (dInts r))), s6, j7, .sh (.int k), .none, .none, .none, .none, .none, j14, .ownD true (dk (fst n)) (dv (fst n)), .ownD true (dk d) (dv d), .ownD true (dk []) (dv []), .none, .none, .none, .none, .none, .none, j24, j25] = _
    have hlen := hd.len
    have hj : j < cnt n 17 4 := by
      have := (List.getElem?_eq_some_iff.mp hj).1
      simpa using this
    refine st_put (dk d) (dv d) (eK ((nn n (34 + 3 * k)).fmod 3, (nn n (34 + 1 + 3 * k)).fmod 3)) (.int (dg n (34 + 2 + 3 * k))) rfl rfl (dg_ev rfl (at3n (b := 34 + 2) rfl) (by omega)) (tup_ev rfl (evl_cons (mod_ev (n_at rfl (at3n (b := 34) rfl) (by omega)) (by omega)) (evl_cons (mod_ev (n_at rfl (at3n (b := 34 + 1) rfl) (by omega)) (by omega)) evl_nil)) (by simp)) rfl (by unfold dk; rw [List.length_map]; omega) ?_
    rw [putL_enc]; rfl
  intro s8 _
  refine st_frz ?_
  refine st_more (dct_ex (tt := true) (items := false) (i := 15) (ks := dk (fst n)) (vs := dv (fst n)) (.keys 15) (fun x : Cl => eK x.1) (fst n) (fun t x => put t (x.1.2, x.1.1) x.2) [] (fun (t : T Ky) (s9 : Slot) => [.sh sc, .sh (.lst (dInts n)), .sh (.tup (dInts (one n))), .sh (.tup (dInts (two n))), .sh (.int (sz n : Nat)), .sh (.tup ((made n).map fun r => D.tup (dInts r))), s6, j7, s8, s9, .none, .none, .none, .none, j14, .sh (dd (fst n)), .ownD true (dk (snd n)) (dv (snd n)), .ownD true (dk t) (dv t), .none, .none, .none, .none, .none, .none, j24, j25]) .none (fun j t => t.length ≤ j) rfl rfl rfl rfl (by simp) ?_).choose_spec.1 ?_
  · intro j t x s9 hj ht
    have hm := List.mem_of_getElem? hj
    have hj : j < (fst n).length := (List.getElem?_eq_some_iff.mp hj).1
    have hlen := hf.len
    have h3 := len_put t (x.1.2, x.1.1) x.2
    refine ⟨⟨.sh (eK x.1), ?_⟩, by omega⟩
    show exB F_law _ [.sh sc, .sh (.lst (dInts n)), .sh (.tup (dInts (one n))), .sh (.tup (dInts (two n))), .sh (.int (sz n : Nat)), .sh (.tup ((made n).map fun r => D.tup (dInts r))), s6, j7, s8, .sh (eK x.1), .none, .none, .none, .none, j14, .sh (dd (fst n)), .ownD true (dk (snd n)) (dv (snd n)), .ownD true (dk t) (dv t), .none, .none, .none, .none, .none, .none, j24, j25] = _
    refine st_put (dk t) (dv t) (eK (x.1.2, x.1.1)) (.int x.2) rfl rfl ?_ rfl rfl (by unfold dk; rw [List.length_map]; omega) ?_
    · have e : idxD (dd (fst n)) (eK x.1) = .ok (.int x.2) := by
        rw [ev_idx (List.mem_map.mpr ⟨_, hm, rfl⟩)]
        unfold co
        rw [(lk_mem (v := x.2) hf.nd).mpr hm]; rfl
      rw [evE_idx]
      exact e
    · rw [putL_enc]; rfl
  · refine st_frz (st_frz ?_)
    simp only [swap_fold _ hf.nd]
    exact k _ _
end
section
variable {sc : D} {n : List Int} (hn : n.length = 60) {R : Res Out} {s6 j7 j8 j9 j14 j24 j25 : Slot}
include hn
theorem chE (k : exB F_law (d_law.body.drop 23) [.sh sc, .sh (.lst (dInts n)), .sh (.tup (dInts (one n))), .sh (.tup (dInts (two n))), .sh (.int (sz n : Nat)), .sh (.tup ((made n).map fun r => D.tup (dInts r))), s6, j7, j8, j9, .none, .none, .none, .none, j14, .sh (dd (fst n)), .sh (dd (snd n)), .sh (dd ((fst n).map sw)), .sh (dt (told (fst n))), .sh (dt (told (snd n))), .none, .none, .none, .none, j24, j25] = R) : exB F_law (d_law.body.drop 15) [.sh sc, .sh (.lst (dInts n)), .sh (.tup (dInts (one n))), .sh (.tup (dInts (two n))), .sh (.int (sz n : Nat)), .sh (.tup ((made n).map fun r => D.tup (dInts r))), s6, j7, j8, j9, .none, .none, .none, .none, j14, .sh (dd (fst n)), .sh (dd (snd n)), .ownD true (dk ((fst n).map sw)) (dv ((fst n).map sw)), .none, .none, .none, .none, .none, .none, j24, j25] = R := by
  have hf : TabD 3 (fst n) := tab_ok n 16 20
  have hs : TabD 3 (snd n) := tab_ok n 17 34
  have lf := hf.len
  have ls := hs.len
  have tf := len_told (fst n)
  have ts := len_told (snd n)
  have kf := hf.ok
  have kt := hs.ok
  have one1 := told_one (fst n) hf.nd
  refine st_par2 (dt (told (fst n))) (dt (told (snd n))) rfl rfl (ev_call1 (dd (fst n)) rfl rfl (g_law_told_eq _ hf.nd (by omega))) (ev_call1 (dd (snd n)) rfl rfl (g_law_told_eq _ hs.nd (by omega))) ?_
  refine st_frz (st_frz (st_frz (st_frz ?_)))
  show exB F_law _ [.sh sc, .sh (.lst (dInts n)), .sh (.tup (dInts (one n))), .sh (.tup (dInts (two n))), .sh (.int (sz n : Nat)), .sh (.tup ((made n).map fun r => D.tup (dInts r))), s6, j7, j8, j9, .none, .none, .none, .none, j14, .sh (dd (fst n)), .sh (dd (snd n)), .ownD true (dk ((fst n).map sw)) (dv ((fst n).map sw)), .sh (dt (told (fst n))), .sh (dt (told (snd n))), .none, .none, .none, .none, j24, j25] = R
  refine st_ifF0 (t_or (t_ne (r := true) (ev_call2 _ _ rfl rfl rfl rfl (g_plus_tables_eq (told (fst n)) (told (snd n)) kf.nd (by omega) (by omega))) (ev_call1 (dd (addAll (fst n) (snd n))) rfl (ev_call2 _ _ rfl rfl rfl rfl (g_law_add_eq (fst n) (snd n) hf.nd hs.nd ?_ (by omega) (by omega))) (g_law_told_eq _ (nd_addAll _ _ hf.nd) ?_)) ?_) (t_ne (r := true) (ev_call2 _ _ rfl rfl rfl rfl (g_times_tables_eq (told (fst n)) (told (snd n)) (by omega) (by omega) kt.sm)) (ev_call1 (dd (mulAll (fst n) (snd n))) rfl (ev_call2 _ _ rfl rfl rfl rfl (g_law_mul_eq (fst n) (snd n) hf.nd hs.nd (by omega) (by omega) hs.small)) (g_law_told_eq _ (nd_mulAll _ _ _ List.nodup_nil) ?_)) ?_)) ?_
  · intro k hk
    obtain ⟨x, h1, rfl⟩ := List.mem_map.mp hk
    exact hf.low x h1
  · have := addAll_len (snd n) (fst n)
    omega
  · rw [eq_dt, told_add hf.nd hs.nd]; simp
  · have h1 := mulAll_len (snd n) (fst n) []
    have h2 : (fst n).length * (snd n).length ≤ 3 * 3 := Nat.mul_le_mul lf ls
    unfold mulAll
    exact Nat.le_trans h1 (by simp; omega)
  · rw [eq_dt, told_mul]; simp
  refine st_frz ?_
  show exB F_law _ [.sh sc, .sh (.lst (dInts n)), .sh (.tup (dInts (one n))), .sh (.tup (dInts (two n))), .sh (.int (sz n : Nat)), .sh (.tup ((made n).map fun r => D.tup (dInts r))), s6, j7, j8, j9, .none, .none, .none, .none, j14, .sh (dd (fst n)), .sh (dd (snd n)), .sh (dd ((fst n).map sw)), .sh (dt (told (fst n))), .sh (dt (told (snd n))), .none, .none, .none, .none, j24, j25] = R
  have sl : ((fst n).map sw).length ≤ 3 := by rw [List.length_map]; exact lf
  refine st_ifF0 (t_or (t_ne (r := true) (ev_call2 _ _ rfl rfl rfl rfl (g_power2 (told (fst n)) (by omega) kf.sm one1)) (ev_call2 _ _ rfl rfl rfl rfl (g_times_tables_eq (told (fst n)) (told (fst n)) (by omega) (by omega) kf.sm)) ?_) (t_or (t_ne (r := true) (x := .tup (oneT.map eC)) (y := .tup (oneT.map eC)) (ev_call2 _ _ rfl rfl rfl rfl (g_power0 (told (fst n)))) rfl ?_) (t_ne (r := true) (ev_call1 _ rfl rfl (g_swapped_eq (told (fst n)) (by omega))) (ev_call1 _ rfl rfl (g_law_told_eq ((fst n).map sw) (nd_sw hf.nd) (by omega))) ?_))) k
  · rw [eq_dt]; simp
  · rfl
  · rw [eq_dt, sw_told]; simp
end
end K26
namespace K26
open Dx Tb
open PySem (Str)
section
variable {sc : D} {n : List Int} (hn : n.length = 60) {R : Res Out} {s6 j7 j8 j9 j14 j24 j25 : Slot}
include hn
theorem chF (k : ∀ s7 : Slot, exB F_law (d_law.body.drop 27) [.sh sc, .sh (.lst (dInts n)), .sh (.tup (dInts (one n))), .sh (.tup (dInts (two n))), .sh (.int (sz n : Nat)), .sh (.tup ((made n).map fun r => D.tup (dInts r))), s6, s7, j8, j9, .sh (.tup (dInts (putT (one n) (two n) (told (fst n))))), .none, .none, .none, j14, .sh (dd (fst n)), .sh (dd (snd n)), .sh (dd ((fst n).map sw)), .sh (dt (told (fst n))), .sh (dt (told (snd n))), .sh (.int (dg n 50)), .sh (.int (dg n 51)), .none, .none, j24, j25] = R) : exB F_law (d_law.body.drop 23) [.sh sc, .sh (.lst (dInts n)), .sh (.tup (dInts (one n))), .sh (.tup (dInts (two n))), .sh (.int (sz n : Nat)), .sh (.tup ((made n).map fun r => D.tup (dInts r))), s6, j7, j8, j9, .none, .none, .none, .none, j14, .sh (dd (fst n)), .sh (dd (snd n)), .sh (dd ((fst n).map sw)), .sh (dt (told (fst n))), .sh (dt (told (snd n))), .none, .none, .none, .none, j24, j25] = R := by
  have hf : TabD 3 (fst n) := tab_ok n 16 20
  have kf := hf.ok
  have l1 := (rowD_one n).len
  have l2 := (rowD_two n).len
  have n1 := (rowD_one n).nrm
  have n2 := (rowD_two n).nrm
  have a1 := dg_lim n 50
  have a2 := dg_lim n 51
  refine st_par2 (.int (dg n 50)) (.int (dg n 51)) rfl rfl (dg_ev (i := 50) rfl rfl (by omega)) (dg_ev (i := 51) rfl rfl (by omega)) ?_
  show exB F_law _ [.sh sc, .sh (.lst (dInts n)), .sh (.tup (dInts (one n))), .sh (.tup (dInts (two n))), .sh (.int (sz n : Nat)), .sh (.tup ((made n).map fun r => D.tup (dInts r))), s6, j7, j8, j9, .none, .none, .none, .none, j14, .sh (dd (fst n)), .sh (dd (snd n)), .sh (dd ((fst n).map sw)), .sh (dt (told (fst n))), .sh (dt (told (snd n))), .sh (.int (dg n 50)), .sh (.int (dg n 51)), .none, .none, j24, j25] = R
  refine st_ifF0 (t_ne (r := true) (ev_call3 _ _ _ rfl rfl rfl rfl rfl rfl (g_worth_of_table_eq (told (fst n)) (dg n 50) (dg n 51) kf (by omega) (by omega))) (ev_call3 _ _ _ rfl rfl rfl rfl rfl rfl (g_law_at_eq (told (fst n)) (dg n 50) (dg n 51) kf (by omega) (by omega))) (by rw [eqD_int]; simp)) ?_
  refine st_name (.tup (dInts (putT (one n) (two n) (told (fst n))))) rfl (ev_call3 _ _ _ rfl rfl rfl rfl rfl rfl (g_put_in_table_eq (told (fst n)) (one n) (two n) kf (by omega) (by omega) (by omega) (by omega))) ?_
  show exB F_law _ [.sh sc, .sh (.lst (dInts n)), .sh (.tup (dInts (one n))), .sh (.tup (dInts (two n))), .sh (.int (sz n : Nat)), .sh (.tup ((made n).map fun r => D.tup (dInts r))), s6, j7, j8, j9, .sh (.tup (dInts (putT (one n) (two n) (told (fst n))))), .none, .none, .none, j14, .sh (dd (fst n)), .sh (dd (snd n)), .sh (dd ((fst n).map sw)), .sh (dt (told (fst n))), .sh (dt (told (snd n))), .sh (.int (dg n 50)), .sh (.int (dg n 51)), .none, .none, j24, j25] = R
  refine st_for (for_see D.int [-2, -1, 0, 1, 2, 3, 4] (fun _ => none) (fun s7 : Slot => [.sh sc, .sh (.lst (dInts n)), .sh (.tup (dInts (one n))), .sh (.tup (dInts (two n))), .sh (.int (sz n : Nat)), .sh (.tup ((made n).map fun r => D.tup (dInts r))), s6, s7, j8, j9, .sh (.tup (dInts (putT (one n) (two n) (told (fst n))))), .none, .none, .none, j14, .sh (dd (fst n)), .sh (dd (snd n)), .sh (dd ((fst n).map sw)), .sh (dt (told (fst n))), .sh (dt (told (snd n))), .sh (.int (dg n 50)), .sh (.int (dg n 51)), .none, .none, j24, j25]) j7 rfl rfl rfl rfl ?_ ?_ ?_)
  · intro x s hx
    have hx : x.natAbs ≤ 7 := by
      simp at hx
      omega
    have h1 := (rowD_one n).val hx
    have h2 := (rowD_two n).val hx
    refine ⟨.sh (.int x), ?_⟩
    show exB F_law _ [.sh sc, .sh (.lst (dInts n)), .sh (.tup (dInts (one n))), .sh (.tup (dInts (two n))), .sh (.int (sz n : Nat)), .sh (.tup ((made n).map fun r => D.tup (dInts r))), s6, .sh (.int x), j8, j9, .sh (.tup (dInts (putT (one n) (two n) (told (fst n))))), .none, .none, .none, j14, .sh (dd (fst n)), .sh (dd (snd n)), .sh (dd ((fst n).map sw)), .sh (dt (told (fst n))), .sh (dt (told (snd n))), .sh (.int (dg n 50)), .sh (.int (dg n 51)), .none, .none, j24, j25] = _
    refine st_ifF0 (t_ne (r := true) (ev_call2 _ _ rfl rfl rfl rfl (g_law_worth_eq _ _ (small_abs (by omega)))) (ev_call3 _ (.int (val x (one n))) (.int (val x (two n))) rfl rfl rfl rfl (ev_call2 _ _ rfl rfl rfl rfl (g_law_worth_eq _ _ (small_abs (by omega)))) (ev_call2 _ _ rfl rfl rfl rfl (g_law_worth_eq _ _ (small_abs (by omega)))) (g_law_at_eq (told (fst n)) _ _ kf h1 h2)) (by rw [eqD_int, val_putT]; simp)) rfl
  · intro d hd
    rw [List.findSome?_eq_none_iff.mpr fun _ _ => rfl] at hd; cases hd
  · intro _ s
    exact k s
omit hn in
theorem eqs_ev {F : Fns} {i : Nat} {env : DEnv} {t : Str} (h : evE F (.var i) env = .ok (.str t)) (ht : PySem.PyData.strOk t = true) : evE F (.cmp .eq (.var i) (.lit (.str ""))) env = .ok (.bl (decide (t = ""))) := by
  rw [evE_cmp, h]
  show cmG .eq (.str t) (.str "") = _
  rw [cm_eq, eqD_str ht ok_lit.1]; rfl
omit hn in
theorem fin_ev {F : Fns} {i : Nat} {env : DEnv} {t : Str} (h : evE F (.var i) env = .ok (.str t)) (ht : PySem.PyData.strOk t = true) : evE F (.ife (.e (.cmp .ne (.var i) (.lit (.str "")))) (.var i) (.lit (.str "0"))) env = .ok (.str (fin0 t)) := by
  have h1 := t_ne (F := F) (env := env) (a := .var i) (b := .lit (.str "")) h rfl (eqD_str ht ok_lit.1)
  rw [evE_ife, h1]
  unfold fin0
  by_cases e : t = ""
  · rw [decide_eq_true e, if_pos e]; rfl
  · rw [decide_eq_false e, if_neg e]; exact h
omit hn in
theorem fin_strOk {t : Str} (h : PySem.PyData.strOk t = true) : PySem.PyData.strOk (fin0 t) = true := by
  unfold fin0
  split
  · exact ok_lit.2.2.2.2.2.2.2
  · exact h
omit hn in
theorem adds_ev {F : Fns} {i : Nat} {e : E} {env : DEnv} {t u : Str} (h : evE F (.var i) env = .ok (.str t)) (h2 : evE F e env = .ok (.str u)) (hl : t.length + u.length ≤ 1000000) : evE F (.bin .add (.var i) e) env = .ok (.str (t ++ u)) := by
  rw [evE_bin, h]
  show (evE F e env >>= fun y => opD .add (.str t) y) = _
  rw [h2]
  show (if fits (t.length + u.length) = true then _ else _) = _
  rw [if_pos (fits_of hl)]
omit hn in
theorem len_two {F : Fns} {i : Nat} {env : DEnv} {l : List Int} (h : evE F (.var i) env = .ok (.tup (dInts l))) : evE F (.bi .len [.var i]) env = .ok (.int (l.length : Nat)) := by
  rw [ev_bi1 _ h rfl]
  show Res.ok (D.int ((dInts l).length : Nat)) = _
  rw [len_dInts]
theorem chG (k : ∀ j8 : Slot, exB F_law (d_law.body.drop 31) [.sh sc, .sh (.lst (dInts n)), .sh (.tup (dInts (one n))), .sh (.tup (dInts (two n))), .sh (.int (sz n : Nat)), .sh (.tup ((made n).map fun r => D.tup (dInts r))), s6, j7, j8, j9, .sh (.tup (dInts (putT (one n) (two n) (told (fst n))))), .sh (.lst ((List.range (one n).length).map fun k : Nat => D.str (letterS "t" (k : Int)))), .sh (.str (rowT (one n))), .none, j14, .sh (dd (fst n)), .sh (dd (snd n)), .sh (dd ((fst n).map sw)), .sh (dt (told (fst n))), .sh (dt (told (snd n))), .sh (.int (dg n 50)), .sh (.int (dg n 51)), .none, .none, j24, j25] = R) : exB F_law (d_law.body.drop 27) [.sh sc, .sh (.lst (dInts n)), .sh (.tup (dInts (one n))), .sh (.tup (dInts (two n))), .sh (.int (sz n : Nat)), .sh (.tup ((made n).map fun r => D.tup (dInts r))), s6, j7, j8, j9, .sh (.tup (dInts (putT (one n) (two n) (told (fst n))))), .none, .none, .none, j14, .sh (dd (fst n)), .sh (dd (snd n)), .sh (dd ((fst n).map sw)), .sh (dt (told (fst n))), .sh (dt (told (snd n))), .sh (.int (dg n 50)), .sh (.int (dg n 51)), .none, .none, j24, j25] = R := by
  have l1 := (rowD_one n).len
  have hr := (rowD_one n).ok
  refine st_name (.lst ((List.range (one n).length).map fun k : Nat => D.str (letterS "t" (k : Int)))) rfl ?_ ?_
  · refine lc_map (fun i : Nat => D.int i) _ _ (ev_rng1 (len_two rfl) (by omega)) (by rw [List.length_range]; omega) ?_
    intro k hk
    have hk : k < (one n).length := by simpa using hk
    exact lc_val rfl rfl (ev_call2 (.str "t") (.int (k : Int)) rfl rfl rfl rfl (g_law_letter_eq (by rw [len_lit.2.2.2.2.1]; omega) (by omega) (by omega)))
  refine st_name (.str "") rfl rfl ?_
  show exB F_law _ [.sh sc, .sh (.lst (dInts n)), .sh (.tup (dInts (one n))), .sh (.tup (dInts (two n))), .sh (.int (sz n : Nat)), .sh (.tup ((made n).map fun r => D.tup (dInts r))), s6, j7, j8, j9, .sh (.tup (dInts (putT (one n) (two n) (told (fst n))))), .sh (.lst ((List.range (one n).length).map fun k : Nat => D.str (letterS "t" (k : Int)))), .sh (.str ""), .none, j14, .sh (dd (fst n)), .sh (dd (snd n)), .sh (dd ((fst n).map sw)), .sh (dt (told (fst n))), .sh (dt (told (snd n))), .sh (.int (dg n 50)), .sh (.int (dg n 51)), .none, .none, j24, j25] = R
  refine st_for (for_kN (fun i : Nat => D.int i) (List.range (one n).length).reverse (fun t k => if rowC (one n) k ≠ 0 then stepT t (rowC (one n) k) (letterS "t" k) else t) ("" : Str) (fun (t : Str) (s8 : Slot) => [.sh sc, .sh (.lst (dInts n)), .sh (.tup (dInts (one n))), .sh (.tup (dInts (two n))), .sh (.int (sz n : Nat)), .sh (.tup ((made n).map fun r => D.tup (dInts r))), s6, j7, s8, j9, .sh (.tup (dInts (putT (one n) (two n) (told (fst n))))), .sh (.lst ((List.range (one n).length).map fun k : Nat => D.str (letterS "t" (k : Int)))), .sh (.str t), .none, j14, .sh (dd (fst n)), .sh (dd (snd n)), .sh (dd ((fst n).map sw)), .sh (dt (told (fst n))), .sh (dt (told (snd n))), .sh (.int (dg n 50)), .sh (.int (dg n 51)), .none, .none, j24, j25]) j8 TOk rfl rfl (ev_rngDown (sub_ev (F := F_law) (x := ((one n).length : Int)) (m := 1) (len_two rfl)) rfl rfl (by omega)) rfl ⟨by rw [len_lit.1]; omega, ok_lit.1⟩ ?_ ?_)
  · intro j t i s hj ht
    have hi : i < (one n).length := by simpa using List.mem_of_getElem? hj
    have hjl : j < (one n).length := by
      have := (List.getElem?_eq_some_iff.mp hj).1
      simpa using this
    obtain ⟨h1, h2, h3⟩ := hr.at hi
    have hl := t_letter (show i ≤ 9 by omega)
    refine ⟨⟨.sh (.int i), ?_⟩, ?_⟩
    · show exB F_law _ [.sh sc, .sh (.lst (dInts n)), .sh (.tup (dInts (one n))), .sh (.tup (dInts (two n))), .sh (.int (sz n : Nat)), .sh (.tup ((made n).map fun r => D.tup (dInts r))), s6, j7, .sh (.int i), j9, .sh (.tup (dInts (putT (one n) (two n) (told (fst n))))), .sh (.lst ((List.range (one n).length).map fun k : Nat => D.str (letterS "t" (k : Int)))), .sh (.str t), .none, j14, .sh (dd (fst n)), .sh (dd (snd n)), .sh (dd ((fst n).map sw)), .sh (dt (told (fst n))), .sh (dt (told (snd n))), .sh (.int (dg n 50)), .sh (.int (dg n 51)), .none, .none, j24, j25] = _
      have ei : evE F_law (.idx (.var 2) (.var 8)) [.sh sc, .sh (.lst (dInts n)), .sh (.tup (dInts (one n))), .sh (.tup (dInts (two n))), .sh (.int (sz n : Nat)), .sh (.tup ((made n).map fun r => D.tup (dInts r))), s6, j7, .sh (.int i), j9, .sh (.tup (dInts (putT (one n) (two n) (told (fst n))))), .sh (.lst ((List.range (one n).length).map fun k : Nat => D.str (letterS "t" (k : Int)))), .sh (.str t), .none, j14, .sh (dd (fst n)), .sh (dd (snd n)), .sh (dd ((fst n).map sw)), .sh (dt (told (fst n))), .sh (dt (told (snd n))), .sh (.int (dg n 50)), .sh (.int (dg n 51)), .none, .none, j24, j25] = .ok (.int (rowC (one n) i)) := by
        rw [evE_idx]
        show optR (L2.atI (dInts (one n)) (i : Int)) = _
        rw [atI_natI, h3]; rfl
      have ew : evE F_law (.idx (.var 11) (.var 8)) [.sh sc, .sh (.lst (dInts n)), .sh (.tup (dInts (one n))), .sh (.tup (dInts (two n))), .sh (.int (sz n : Nat)), .sh (.tup ((made n).map fun r => D.tup (dInts r))), s6, j7, .sh (.int i), j9, .sh (.tup (dInts (putT (one n) (two n) (told (fst n))))), .sh (.lst ((List.range (one n).length).map fun k : Nat => D.str (letterS "t" (k : Int)))), .sh (.str t), .none, j14, .sh (dd (fst n)), .sh (dd (snd n)), .sh (dd ((fst n).map sw)), .sh (dt (told (fst n))), .sh (dt (told (snd n))), .sh (.int (dg n 50)), .sh (.int (dg n 51)), .none, .none, j24, j25] = .ok (.str (letterS "t" i)) := by
        rw [evE_idx]
        show optR (L2.atI ((List.range (one n).length).map fun k : Nat => D.str (letterS "t" (k : Int))) (i : Int)) = _
        rw [atI_natI, List.getElem?_map, List.getElem?_range hi]; rfl
      by_cases e : rowC (one n) i = 0
      · rw [if_neg (by simpa using e)]
        exact st_ifF0 (t_ne (r := true) (y := .int 0) ei rfl (by rw [eqD_int, decide_eq_true e])) rfl
      · rw [if_pos e]
        refine st_ifT (t_ne (r := false) (y := .int 0) ei rfl (by rw [eqD_int, decide_eq_false e])) ?_
        have hw := word_ok (f := decide (t = "")) h1 h2 hl.1 (by omega)
        have hlen := ht.len
        have ha : exB F_law [.asg (.name 12) (.bin .add (.var 12) (.call 23 [.idx (.var 2) (.var 8), .idx (.var 11) (.var 8), .cmp .eq (.var 12) (.lit (.str ""))]))] [.sh sc, .sh (.lst (dInts n)), .sh (.tup (dInts (one n))), .sh (.tup (dInts (two n))), .sh (.int (sz n : Nat)), .sh (.tup ((made n).map fun r => D.tup (dInts r))), s6, j7, .sh (.int i), j9, .sh (.tup (dInts (putT (one n) (two n) (told (fst n))))), .sh (.lst ((List.range (one n).length).map fun k : Nat => D.str (letterS "t" (k : Int)))), .sh (.str t), .none, j14, .sh (dd (fst n)), .sh (dd (snd n)), .sh (dd ((fst n).map sw)), .sh (dt (told (fst n))), .sh (dt (told (snd n))), .sh (.int (dg n 50)), .sh (.int (dg n 51)), .none, .none, j24, j25] = .ok (.nx [.sh sc, .sh (.lst (dInts n)), .sh (.tup (dInts (one n))), .sh (.tup (dInts (two n))), .sh (.int (sz n : Nat)), .sh (.tup ((made n).map fun r => D.tup (dInts r))), s6, j7, .sh (.int i), j9, .sh (.tup (dInts (putT (one n) (two n) (told (fst n))))), .sh (.lst ((List.range (one n).length).map fun k : Nat => D.str (letterS "t" (k : Int)))), .sh (.str (stepT t (rowC (one n) i) (letterS "t" i))), .none, j14, .sh (dd (fst n)), .sh (dd (snd n)), .sh (dd ((fst n).map sw)), .sh (dt (told (fst n))), .sh (dt (told (snd n))), .sh (.int (dg n 50)), .sh (.int (dg n 51)), .none, .none, j24, j25]) := by
          refine st_name (.str (stepT t (rowC (one n) i) (letterS "t" i))) rfl ?_ rfl
          exact adds_ev rfl (ev_call3 (.int (rowC (one n) i)) (.str (letterS "t" i)) (.bl (decide (t = ""))) rfl rfl rfl ei ew (eqs_ev rfl ht.ok) (g_law_word_eq h1 h2 hl.1 (by omega))) (by omega)
        show (exB F_law _ [.sh sc, .sh (.lst (dInts n)), .sh (.tup (dInts (one n))), .sh (.tup (dInts (two n))), .sh (.int (sz n : Nat)), .sh (.tup ((made n).map fun r => D.tup (dInts r))), s6, j7, .sh (.int i), j9, .sh (.tup (dInts (putT (one n) (two n) (told (fst n))))), .sh (.lst ((List.range (one n).length).map fun k : Nat => D.str (letterS "t" (k : Int)))), .sh (.str t), .none, j14, .sh (dd (fst n)), .sh (dd (snd n)), .sh (dd ((fst n).map sw)), .sh (dt (told (fst n))), .sh (dt (told (snd n))), .sh (.int (dg n 50)), .sh (.int (dg n 51)), .none, .none, j24, j25] >>= _) = _
        rw [ha]; rfl
    · split
      · exact ht.step h1 h2 hl.1 (by omega)
      · exact ht.more
  · intro s8 ht
    have ht : TOk _ (rowT (one n)) := ht
    show exB F_law _ [.sh sc, .sh (.lst (dInts n)), .sh (.tup (dInts (one n))), .sh (.tup (dInts (two n))), .sh (.int (sz n : Nat)), .sh (.tup ((made n).map fun r => D.tup (dInts r))), s6, j7, s8, j9, .sh (.tup (dInts (putT (one n) (two n) (told (fst n))))), .sh (.lst ((List.range (one n).length).map fun k : Nat => D.str (letterS "t" (k : Int)))), .sh (.str (rowT (one n))), .none, j14, .sh (dd (fst n)), .sh (dd (snd n)), .sh (dd ((fst n).map sw)), .sh (dt (told (fst n))), .sh (dt (told (snd n))), .sh (.int (dg n 50)), .sh (.int (dg n 51)), .none, .none, j24, j25] = R
    refine st_ifF0 (t_ne (r := true) (ev_call2 (.tup (dInts (one n))) (.str "t") rfl rfl rfl rfl (g_text_of_row_eq (one n) hr)) (fin_ev rfl ht.ok) ?_) (k s8)
    rw [eqD_str (fin_strOk ht.ok) (fin_strOk ht.ok)]; simp
theorem chH : exB F_law (d_law.body.drop 31) [.sh sc, .sh (.lst (dInts n)), .sh (.tup (dInts (one n))), .sh (.tup (dInts (two n))), .sh (.int (sz n : Nat)), .sh (.tup ((made n).map fun r => D.tup (dInts r))), s6, j7, j8, j9, .sh (.tup (dInts (putT (one n) (two n) (told (fst n))))), .sh (.lst ((List.range (one n).length).map fun k : Nat => D.str (letterS "t" (k : Int)))), .sh (.str (rowT (one n))), .none, j14, .sh (dd (fst n)), .sh (dd (snd n)), .sh (dd ((fst n).map sw)), .sh (dt (told (fst n))), .sh (dt (told (snd n))), .sh (.int (dg n 50)), .sh (.int (dg n 51)), .none, .none, j24, j25] = .ok (.ret (.bl true)) := by
  have hf : TabD 3 (fst n) := tab_ok n 16 20
  have kf := hf.ok
  have lf := kf.len
  have hm : ∀ c ∈ down (told (fst n)), c ∈ told (fst n) := fun c hc => (down_perm _).mem_iff.mp hc
  have hlim : ∀ c ∈ told (fst n), -9 ≤ c.2 ∧ c.2 ≤ 9 := fun c hc => by
    have := hf.lim c (mem_told.mp hc).1
    omega
  refine st_name (.str "") rfl rfl ?_
  show exB F_law _ [.sh sc, .sh (.lst (dInts n)), .sh (.tup (dInts (one n))), .sh (.tup (dInts (two n))), .sh (.int (sz n : Nat)), .sh (.tup ((made n).map fun r => D.tup (dInts r))), s6, j7, j8, j9, .sh (.tup (dInts (putT (one n) (two n) (told (fst n))))), .sh (.lst ((List.range (one n).length).map fun k : Nat => D.str (letterS "t" (k : Int)))), .sh (.str ""), .none, j14, .sh (dd (fst n)), .sh (dd (snd n)), .sh (dd ((fst n).map sw)), .sh (dt (told (fst n))), .sh (dt (told (snd n))), .sh (.int (dg n 50)), .sh (.int (dg n 51)), .none, .none, j24, j25] = _
  refine st_for (for_kN (fun c : Cl => EncD.enc (tri c)) (down (told (fst n))) (fun t c => stepT t c.2 (tabL c)) ("" : Str) (fun (t : Str) (s : Slot × Slot × Slot) => [.sh sc, .sh (.lst (dInts n)), .sh (.tup (dInts (one n))), .sh (.tup (dInts (two n))), .sh (.int (sz n : Nat)), .sh (.tup ((made n).map fun r => D.tup (dInts r))), s6, s.2.2, j8, j9, .sh (.tup (dInts (putT (one n) (two n) (told (fst n))))), .sh (.lst ((List.range (one n).length).map fun k : Nat => D.str (letterS "t" (k : Int)))), .sh (.str t), .none, j14, .sh (dd (fst n)), .sh (dd (snd n)), .sh (dd ((fst n).map sw)), .sh (dt (told (fst n))), .sh (dt (told (snd n))), .sh (.int (dg n 50)), .sh (.int (dg n 51)), s.1, s.2.1, j24, j25]) (.none, .none, j7) TOk rfl rfl ?_ rfl ⟨by rw [len_lit.1]; omega, ok_lit.1⟩ ?_ ?_)
  · rw [evIt_seq]
    have hl : evE F_law (.lc (.tup [.bin .sub (.lit (.int 0)) (.idx (.var 9) (.lit (.int 0))), .bin .sub (.lit (.int 0)) (.idx (.var 9) (.lit (.int 1))), .var 7]) (.tup [.name 9, .name 7]) (.seq (.var 18)) [] [9, 7]) [.sh sc, .sh (.lst (dInts n)), .sh (.tup (dInts (one n))), .sh (.tup (dInts (two n))), .sh (.int (sz n : Nat)), .sh (.tup ((made n).map fun r => D.tup (dInts r))), s6, j7, j8, j9, .sh (.tup (dInts (putT (one n) (two n) (told (fst n))))), .sh (.lst ((List.range (one n).length).map fun k : Nat => D.str (letterS "t" (k : Int)))), .sh (.str ""), .none, j14, .sh (dd (fst n)), .sh (dd (snd n)), .sh (dd ((fst n).map sw)), .sh (dt (told (fst n))), .sh (dt (told (snd n))), .sh (.int (dg n 50)), .sh (.int (dg n 51)), .none, .none, j24, j25] = .ok (.lst (((told (fst n)).map tri).map EncD.enc)) := by
      rw [List.map_map]
      refine lc_map eC (told (fst n)) (EncD.enc ∘ tri) rfl (by omega) ?_
      intro c _
      rfl
    have hs : sortD (((told (fst n)).map tri).map EncD.enc) = some ((((told (fst n)).map tri).mergeSort leO).map EncD.enc) := sortD_enc _ (by rw [List.length_map]; omega) (by decide) (.inl fun a ha => by
      obtain ⟨c, _, rfl⟩ := List.mem_map.mp ha
      rfl)
    rw [ev_bi1 _ hl (bi_sorted hs), down_tri _ kf.nd, List.map_map]; rfl
  · intro j t c s hj ht
    have hc := hm c (List.mem_of_getElem? hj)
    have hjl : j < 10 := by
      have h1 := (List.getElem?_eq_some_iff.mp hj).1
      rw [(down_perm _).length_eq] at h1
      omega
    have hl := tabL_ok (kf.low c hc)
    obtain ⟨h1, h2⟩ := hlim c hc
    have hw := word_ok (f := decide (t = "")) h1 h2 hl.1 (by omega)
    have hlen := ht.len
    refine ⟨⟨(.sh (.int (0 - c.1.1)), .sh (.int (0 - c.1.2)), .sh (.int c.2)), ?_⟩, ht.step h1 h2 hl.1 (by omega)⟩
    show exB F_law _ [.sh sc, .sh (.lst (dInts n)), .sh (.tup (dInts (one n))), .sh (.tup (dInts (two n))), .sh (.int (sz n : Nat)), .sh (.tup ((made n).map fun r => D.tup (dInts r))), s6, .sh (.int c.2), j8, j9, .sh (.tup (dInts (putT (one n) (two n) (told (fst n))))), .sh (.lst ((List.range (one n).length).map fun k : Nat => D.str (letterS "t" (k : Int)))), .sh (.str t), .none, j14, .sh (dd (fst n)), .sh (dd (snd n)), .sh (dd ((fst n).map sw)), .sh (dt (told (fst n))), .sh (dt (told (snd n))), .sh (.int (dg n 50)), .sh (.int (dg n 51)), .sh (.int (0 - c.1.1)), .sh (.int (0 - c.1.2)), j24, j25] = _
    refine st_name (.str (stepT t c.2 (tabL c))) rfl ?_ rfl
    refine adds_ev rfl (ev_call3 (.int c.2) (.str (tabL c)) (.bl (decide (t = ""))) rfl rfl rfl rfl ?_ (eqs_ev rfl ht.ok) (g_law_word_eq h1 h2 hl.1 (by omega))) (by omega)
    refine tabL_ev (kf.low c hc) (.inr rfl) rfl rfl ?_ ?_
    · show Res.ok (D.int (0 - (0 - c.1.1))) = _
      rw [show 0 - (0 - c.1.1) = c.1.1 by omega]
    · show Res.ok (D.int (0 - (0 - c.1.2))) = _
      rw [show 0 - (0 - c.1.2) = c.1.2 by omega]
  · intro s ht
    have ht : TOk _ (tabT (down (told (fst n)))) := ht
    show exB F_law _ [.sh sc, .sh (.lst (dInts n)), .sh (.tup (dInts (one n))), .sh (.tup (dInts (two n))), .sh (.int (sz n : Nat)), .sh (.tup ((made n).map fun r => D.tup (dInts r))), s6, s.2.2, j8, j9, .sh (.tup (dInts (putT (one n) (two n) (told (fst n))))), .sh (.lst ((List.range (one n).length).map fun k : Nat => D.str (letterS "t" (k : Int)))), .sh (.str (tabT (down (told (fst n))))), .none, j14, .sh (dd (fst n)), .sh (dd (snd n)), .sh (dd ((fst n).map sw)), .sh (dt (told (fst n))), .sh (dt (told (snd n))), .sh (.int (dg n 50)), .sh (.int (dg n 51)), s.1, s.2.1, j24, j25] = _
    refine st_ifF0 (t_or (t_ne (r := true) (ev_call1 _ rfl rfl (g_text_of_table_eq (told (fst n)) kf hlim)) (fin_ev rfl ht.ok) ?_) (t_notT (t_e (ev_call1 _ rfl rfl (g_is_table_eq (told (fst n)) kf))))) ?_
    · rw [eqD_str (fin_strOk ht.ok) (fin_strOk ht.ok)]; simp
    have c8 : cnt n 52 8 < 8 := cnt_lt n 52 8 (by omega)
    have hwl : cnt n 52 8 < wrongs.length := c8
    refine st_name wrongs[cnt n 52 8] rfl ?_ (st_ret rfl ?_)
    · rw [evE_idx]
      show (evE F_law (.bin .mod (.idx (.var 1) (.lit (.int 52))) (.lit (.int 8))) [.sh sc, .sh (.lst (dInts n)), .sh (.tup (dInts (one n))), .sh (.tup (dInts (two n))), .sh (.int (sz n : Nat)), .sh (.tup ((made n).map fun r => D.tup (dInts r))), s6, s.2.2, j8, j9, .sh (.tup (dInts (putT (one n) (two n) (told (fst n))))), .sh (.lst ((List.range (one n).length).map fun k : Nat => D.str (letterS "t" (k : Int)))), .sh (.str (tabT (down (told (fst n))))), .none, j14, .sh (dd (fst n)), .sh (dd (snd n)), .sh (dd ((fst n).map sw)), .sh (dt (told (fst n))), .sh (dt (told (snd n))), .sh (.int (dg n 50)), .sh (.int (dg n 51)), s.1, s.2.1, j24, j25] >>= fun y => idxD (.tup wrongs) y) = _
      rw [cnt_ev (n := n) (i := 52) rfl rfl (by omega) (by omega)]
      show optR (L2.atI wrongs (cnt n 52 8 : Int)) = _
      rw [atI_natI, List.getElem?_eq_getElem hwl]; rfl
    · rw [evE_not, ev_call1 wrongs[cnt n 52 8] rfl rfl (wrong_all _ (List.getElem_mem hwl))]; rfl
end
theorem g_law_true (ns : List Int) : g_law [.scr (ns.map .int)] = .ok (.bl true) := by
  obtain ⟨c, hc⟩ := g_law_cell_eq ns
  obtain ⟨n, hn, hd⟩ := g_law_draws_eq c
  refine run_ret rfl ?_
  refine st_name (.lst (dInts n)) rfl (ev_call2 (.int c) (.int 60) rfl rfl (ev_call2 (.scr (dInts ns)) (.int 0) rfl rfl rfl rfl hc) rfl hd) ?_
  exact chA hn fun s6 => chC hn fun s => chD hn fun j8 j9 => chE hn (chF hn fun s7 => chG hn fun j8 => chH hn)
theorem k26_holds : PySem.Challenge.rw_matroidworks_k26_polynomials.Holds := K26.holds fun ns _ => g_law_true ns
end K26
theorem PySem.Challenge.cw_matroidworks_k26_polynomials_holds : PySem.Challenge.rw_matroidworks_k26_polynomials.Holds := by
  exact K26.k26_holds
