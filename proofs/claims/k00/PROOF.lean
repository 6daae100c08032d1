import PyProof.Rows.All
import Wide.All
import OpenK.AllK
import Wide.FinOn
import KE.KStateDown
import HandS.ForMost
import HandS.ForExc
import HandS.Flow
import HandS.ExcInit
import HandS.TupAny
import HandS.Wide
import HandS.StrMore
import HandS.IsInst
import HandS.Deep
import HandS.Defaults
import HandS.Iter
import HandS.Style
import PyProof.Draws
import PyProof.EnumMake
import HandS.RaiseMore
import HandS.Text
import PyProof.ReprReads
import PyProof.ReprRoads
import HandS.Comp
import HandS.ExcField
import HandS.ExcIs
import HandS.Head0
import HandS.Head1
import HandS.Head2
import HandS.HeadEnd
import HandS.HeadHook1
import HandS.HeadHook2
import KE.IntTextLaws
import KE.IntTextText
import KE.KIntText
import PyProof.StrLaws
import PyProof.StrLawsRepr
import PyProof.ReprLen
import PySem.Challenge.RW_slipreach_k00_texts_cut_into_tokens
set_option Elab.async false
set_option linter.all false
section
set_option Elab.async false
set_option linter.all false
set_option autoImplicit false
set_option maxRecDepth 100000
set_option maxHeartbeats 2000000
/-! DLA: values as data (D), what stands in the heap for them (Rep), a def's state by data (Env, Rel). -/
namespace DL
open PySem PySem.Spec L2

/-- data that never changes any more -/
inductive D where
  | non | bl (b : Bool) | int (i : Int) | str (s : List Nat)
  | lst (xs : List D) | tup (xs : List D) | dic (kvs : List (D × D))
  | ins (c : Nat) (fs : List (Nat × D)) | glo (x : Nat)
  | exn (a dd c : Nat) (fs : List (Nat × D))
  deriving Inhabited
/-- what an expression gives: data, or the k-th object of the def's state -/
inductive RV where
  | val (d : D) | ob (k : Nat)
  deriving Inhabited
/-- an object of the state; fz: it changes no more -/
inductive OD where
  | fz (d : D) | lst (ds : List D) | lsr (xs : List RV) | tpr (xs : List RV) | dic (kvs : List (D × D)) | ins (c : Nat) (fs : List (Nat × RV))
  deriving Inhabited
structure Env where
  sl : List (Option RV)
  ob : List OD
/-- an exception: its class, its fields -/
structure Xc where
  c : Nat
  fs : List (Nat × D)
/-- what the text is read by: the written part, the module's names, the names by number -/
structure Cn where
  K : PySem.W.Frag
  mg : Str → Option Value
  nm : Nat → Str

def S (l : List Nat) : Str := ⟨l.toArray⟩
theorem S_list (l : List Nat) : (S l).cps.toList = l := rfl
theorem S_of (z : Str) : S z.cps.toList = z := by cases z; rfl
theorem S_inj {a b : List Nat} (h : S a = S b) : a = b := by
  have e := congrArg (fun z : Str => z.cps.toList) h
  exact e
theorem S_len (l : List Nat) : (S l).length = l.length := by
  show l.toArray.size = l.length
  simp

/-- keys of dicts: an int, a text -/
def dKey : Key → D
  | .inl i => .int i
  | .inr x => .str x.cps.toList

mutual
def Rep (T : Cn) (F : Hp) : D → V → Prop
  | .non, v => v = .non
  | .bl b, v => v = .bl b
  | .int i, v => v = .int i
  | .str s, v => v = .str (S s)
  | .lst xs, v => ∃ a vs, v = .ref a ∧ Rd F a (.lst vs) ∧ RepL T F xs vs
  | .tup xs, v => ∃ a vs, v = .ref a ∧ SqT T.K F a vs ∧ RepL T F xs vs
  | .dic kvs, v => ∃ a, v = .ref a ∧ ((∃ gs, F a = some (.dK gs) ∧ RepK T F kvs gs) ∨ (∃ gs, F a = some (.dT gs) ∧ RepT T F kvs gs))
  | .ins c fs, v => ∃ a C dx gs, v = .ref a ∧ T.mg (T.nm c) = some (.ref C) ∧ F a = some (.ins C dx gs) ∧ RepF T F fs gs
  | .glo x, v => ∃ a, v = .ref a ∧ T.mg (T.nm x) = some (.ref a)
  | .exn a dd _ fs, v => v = .ref a ∧ (fs = [] ∨ ∃ gs, F dd = some (.xd gs) ∧ RepX T F fs gs)
def RepL (T : Cn) (F : Hp) : List D → List V → Prop
  | [], vs => vs = []
  | d :: ds, vs => ∃ v r, vs = v :: r ∧ Rep T F d v ∧ RepL T F ds r
def RepF (T : Cn) (F : Hp) : List (Nat × D) → List (Str × V) → Prop
  | [], gs => gs = []
  | (f, d) :: fs, gs => ∃ v r, gs = (T.nm f, v) :: r ∧ Rep T F d v ∧ RepF T F fs r
def RepK (T : Cn) (F : Hp) : List (D × D) → List (Key × V) → Prop
  | [], gs => gs = []
  | (k, d) :: ks, gs => ∃ q v r, gs = (q, v) :: r ∧ k = dKey q ∧ Rep T F d v ∧ RepK T F ks r
def RepT (T : Cn) (F : Hp) : List (D × D) → List (List Key × V) → Prop
  | [], gs => gs = []
  | (k, d) :: ks, gs => ∃ q v r, gs = (q, v) :: r ∧ k = .tup (q.map dKey) ∧ Rep T F d v ∧ RepT T F ks r
def RepX (T : Cn) (F : Hp) : List (Nat × D) → List (Str × V) → Prop
  | [], _ => True
  | (f, d) :: fs, gs => (∃ v, gs.lookup (T.nm f) = some v ∧ Rep T F d v) ∧ RepX T F fs gs
end

/-- all that is tracked stays -/
def Ex (H H' : Hp) : Prop := ∀ a o, H a = some o → H' a = some o
theorem Ex.refl (H : Hp) : Ex H H := fun _ _ h => h
theorem Ex.trans {H H1 H2 : Hp} (a : Ex H H1) (b : Ex H1 H2) : Ex H H2 := fun x o h => b x o (a x o h)
theorem Ex.new {H : Hp} {p : Addr} {o : HO} (h : H p = none) : Ex H (upd H p o) := fun a u e => by
  rw [upd_ne (ne_of_none e h)]
  exact e
theorem Ex.free {H H' : Hp} {p : Addr} (e : Ex H H') (h : H' p = none) : H p = none := by
  cases h1 : H p with
  | none => rfl
  | some o =>
    rw [e p o h1] at h
    cases h
theorem Ex.rd {H H' : Hp} {a : Addr} {u : HO} (e : Ex H H') (h : Rd H a u) : Rd H' a u := by
  rcases h with h | ⟨o, h⟩
  · exact .inl (e _ _ h)
  · exact .inr ⟨o, e _ _ h⟩
theorem Ex.sql {K : PySem.W.Frag} {H H' : Hp} {a : Addr} {xs : List V} (e : Ex H H') (h : SqL K H a xs) : SqL K H' a xs := by
  rcases h with (h | ⟨o, h⟩) | h
  · exact .inl (.inl (e _ _ h))
  · exact .inl (.inr ⟨o, e _ _ h⟩)
  · exact .inr h
theorem Ex.sqt {K : PySem.W.Frag} {H H' : Hp} {a : Addr} {xs : List V} (e : Ex H H') (h : SqT K H a xs) : SqT K H' a xs := by
  rcases h with (h | ⟨o, h⟩) | h
  · exact .inl (.inl (e _ _ h))
  · exact .inl (.inr ⟨o, e _ _ h⟩)
  · exact .inr h

section
variable {T : Cn} {F F' : Hp}
mutual
theorem Rep.mono (e : Ex F F') : ∀ {d : D} {v : V}, Rep T F d v → Rep T F' d v
  | .non, _, h => h
  | .bl _, _, h => h
  | .int _, _, h => h
  | .str _, _, h => h
  | .lst xs, v, h => by
    unfold Rep at h ⊢
    obtain ⟨a, vs, rfl, h1, h2⟩ := h
    exact ⟨a, vs, rfl, e.rd h1, RepL.mono e h2⟩
  | .tup xs, v, h => by
    unfold Rep at h ⊢
    obtain ⟨a, vs, rfl, h1, h2⟩ := h
    exact ⟨a, vs, rfl, e.sqt h1, RepL.mono e h2⟩
  | .dic kvs, v, h => by
    unfold Rep at h ⊢
    obtain ⟨a, rfl, h | h⟩ := h
    · obtain ⟨gs, h1, h2⟩ := h
      exact ⟨a, rfl, .inl ⟨gs, e _ _ h1, RepK.mono e h2⟩⟩
    · obtain ⟨gs, h1, h2⟩ := h
      exact ⟨a, rfl, .inr ⟨gs, e _ _ h1, RepT.mono e h2⟩⟩
  | .ins c fs, v, h => by
    unfold Rep at h ⊢
    obtain ⟨a, C, dx, gs, rfl, h1, h2, h3⟩ := h
    exact ⟨a, C, dx, gs, rfl, h1, e _ _ h2, RepF.mono e h3⟩
  | .glo _, _, h => h
  | .exn a dd c fs, v, h => by
    unfold Rep at h ⊢
    obtain ⟨h0, h | ⟨gs, h1, h2⟩⟩ := h
    · exact ⟨h0, .inl h⟩
    · exact ⟨h0, .inr ⟨gs, e _ _ h1, RepX.mono e h2⟩⟩
theorem RepL.mono (e : Ex F F') : ∀ {ds : List D} {vs : List V}, RepL T F ds vs → RepL T F' ds vs
  | [], _, h => h
  | d :: ds, vs, h => by
    unfold RepL at h ⊢
    obtain ⟨v, r, rfl, h1, h2⟩ := h
    exact ⟨v, r, rfl, Rep.mono e h1, RepL.mono e h2⟩
theorem RepF.mono (e : Ex F F') : ∀ {ds : List (Nat × D)} {vs : List (Str × V)}, RepF T F ds vs → RepF T F' ds vs
  | [], _, h => h
  | (f, d) :: ds, vs, h => by
    unfold RepF at h ⊢
    obtain ⟨v, r, rfl, h1, h2⟩ := h
    exact ⟨v, r, rfl, Rep.mono e h1, RepF.mono e h2⟩
theorem RepK.mono (e : Ex F F') : ∀ {ds : List (D × D)} {vs : List (Key × V)}, RepK T F ds vs → RepK T F' ds vs
  | [], _, h => h
  | (k, d) :: ds, vs, h => by
    unfold RepK at h ⊢
    obtain ⟨q, v, r, rfl, h0, h1, h2⟩ := h
    exact ⟨q, v, r, rfl, h0, Rep.mono e h1, RepK.mono e h2⟩
theorem RepT.mono (e : Ex F F') : ∀ {ds : List (D × D)} {vs : List (List Key × V)}, RepT T F ds vs → RepT T F' ds vs
  | [], _, h => h
  | (k, d) :: ds, vs, h => by
    unfold RepT at h ⊢
    obtain ⟨q, v, r, rfl, h0, h1, h2⟩ := h
    exact ⟨q, v, r, rfl, h0, Rep.mono e h1, RepT.mono e h2⟩
theorem RepX.mono (e : Ex F F') : ∀ {ds : List (Nat × D)} {vs : List (Str × V)}, RepX T F ds vs → RepX T F' ds vs
  | [], _, h => by
    unfold RepX
    trivial
  | (f, d) :: ds, vs, h => by
    unfold RepX at h ⊢
    obtain ⟨⟨v, h1, h2⟩, h3⟩ := h
    exact ⟨⟨v, h1, Rep.mono e h2⟩, RepX.mono e h3⟩
end

theorem rep_non {v : V} : Rep T F .non v ↔ v = .non := by unfold Rep; exact Iff.rfl
theorem rep_bl {b : Bool} {v : V} : Rep T F (.bl b) v ↔ v = .bl b := by unfold Rep; exact Iff.rfl
theorem rep_int {i : Int} {v : V} : Rep T F (.int i) v ↔ v = .int i := by unfold Rep; exact Iff.rfl
theorem rep_str {s : List Nat} {v : V} : Rep T F (.str s) v ↔ v = .str (S s) := by unfold Rep; exact Iff.rfl
theorem rep_lst {xs : List D} {v : V} : Rep T F (.lst xs) v ↔ ∃ a vs, v = .ref a ∧ Rd F a (.lst vs) ∧ RepL T F xs vs := by rw [Rep]
theorem rep_tup {xs : List D} {v : V} : Rep T F (.tup xs) v ↔ ∃ a vs, v = .ref a ∧ SqT T.K F a vs ∧ RepL T F xs vs := by rw [Rep]
theorem rep_ins {c : Nat} {fs : List (Nat × D)} {v : V} : Rep T F (.ins c fs) v ↔ ∃ a C dx gs, v = .ref a ∧ T.mg (T.nm c) = some (.ref C) ∧ F a = some (.ins C dx gs) ∧ RepF T F fs gs := by rw [Rep]
theorem rep_dic {kvs : List (D × D)} {v : V} : Rep T F (.dic kvs) v ↔ ∃ a, v = .ref a ∧ ((∃ gs, F a = some (.dK gs) ∧ RepK T F kvs gs) ∨ (∃ gs, F a = some (.dT gs) ∧ RepT T F kvs gs)) := by rw [Rep]
theorem rep_exn {a dd c : Nat} {fs : List (Nat × D)} {v : V} : Rep T F (.exn a dd c fs) v ↔ v = .ref a ∧ (fs = [] ∨ ∃ gs, F dd = some (.xd gs) ∧ RepX T F fs gs) := by rw [Rep]
theorem repX_cons {f : Nat} {d : D} {fs : List (Nat × D)} {gs : List (Str × V)} : RepX T F ((f, d) :: fs) gs ↔ (∃ v, gs.lookup (T.nm f) = some v ∧ Rep T F d v) ∧ RepX T F fs gs := by rw [RepX]
theorem repX_nil {gs : List (Str × V)} : RepX T F [] gs := by
  unfold RepX
  trivial
theorem RepX.get {gs : List (Str × V)} {f : Nat} {d : D} : ∀ {fs : List (Nat × D)}, RepX T F fs gs → fs.lookup f = some d → ∃ v, gs.lookup (T.nm f) = some v ∧ Rep T F d v
  | [], _, h => by simp at h
  | (g, d') :: fs, hx, h => by
    obtain ⟨h1, h2⟩ := repX_cons.mp hx
    rw [List.lookup_cons] at h
    split at h
    · rename_i e
      have e' : f = g := by simpa using e
      cases h
      exact e' ▸ h1
    · exact RepX.get h2 h
theorem rep_glo {x : Nat} {v : V} : Rep T F (.glo x) v ↔ ∃ a, v = .ref a ∧ T.mg (T.nm x) = some (.ref a) := by rw [Rep]
theorem repL_nil {vs : List V} : RepL T F [] vs ↔ vs = [] := by rw [RepL]
theorem repL_cons {d : D} {ds : List D} {vs : List V} : RepL T F (d :: ds) vs ↔ ∃ v r, vs = v :: r ∧ Rep T F d v ∧ RepL T F ds r := by rw [RepL]
theorem RepL.nil : RepL T F [] [] := repL_nil.mpr rfl
theorem RepL.cons {d : D} {ds : List D} {v : V} {vs : List V} (h : Rep T F d v) (r : RepL T F ds vs) : RepL T F (d :: ds) (v :: vs) := repL_cons.mpr ⟨v, vs, rfl, h, r⟩
theorem RepL.len : ∀ {ds : List D} {vs : List V}, RepL T F ds vs → vs.length = ds.length
  | [], _, h => by rw [repL_nil.mp h]; rfl
  | d :: ds, _, h => by
    obtain ⟨v, r, rfl, _, h2⟩ := repL_cons.mp h
    show r.length + 1 = ds.length + 1
    rw [RepL.len h2]
theorem RepL.get : ∀ {ds : List D} {vs : List V} {i : Nat} {d : D}, RepL T F ds vs → ds[i]? = some d → ∃ v, vs[i]? = some v ∧ Rep T F d v
  | [], _, _, _, _, e => by simp at e
  | x :: ds, _, i, d, h, e => by
    obtain ⟨v, r, rfl, h1, h2⟩ := repL_cons.mp h
    cases i with
    | zero =>
      have e' : x = d := by simpa using e
      exact ⟨v, rfl, e' ▸ h1⟩
    | succ i => exact RepL.get (i := i) h2 (by simpa using e)
theorem RepL.get' : ∀ {ds : List D} {vs : List V} {i : Nat} {v : V}, RepL T F ds vs → vs[i]? = some v → ∃ d, ds[i]? = some d ∧ Rep T F d v := fun {ds vs i v} h e => by
  have hl := h.len
  have hi : i < ds.length := by
    have := (List.getElem?_eq_some_iff.mp e).1
    omega
  obtain ⟨v', e', r⟩ := h.get (List.getElem?_eq_getElem hi)
  rw [e] at e'
  cases e'
  exact ⟨_, List.getElem?_eq_getElem hi, r⟩
theorem RepL.append : ∀ {ds es : List D} {vs ws : List V}, RepL T F ds vs → RepL T F es ws → RepL T F (ds ++ es) (vs ++ ws)
  | [], _, _, _, h, h2 => by
    rw [repL_nil.mp h]
    exact h2
  | d :: ds, es, _, ws, h, h2 => by
    obtain ⟨v, r, rfl, h1, h3⟩ := repL_cons.mp h
    exact RepL.cons h1 (RepL.append h3 h2)
theorem RepL.take : ∀ {ds : List D} {vs : List V} (n : Nat), RepL T F ds vs → RepL T F (ds.take n) (vs.take n)
  | _, _, 0, _ => by simpa using RepL.nil
  | [], _, n + 1, h => by
    rw [repL_nil.mp h]
    exact RepL.nil
  | d :: ds, _, n + 1, h => by
    obtain ⟨v, r, rfl, h1, h3⟩ := repL_cons.mp h
    exact RepL.cons h1 (RepL.take n h3)
theorem RepL.drop : ∀ {ds : List D} {vs : List V} (n : Nat), RepL T F ds vs → RepL T F (ds.drop n) (vs.drop n)
  | _, _, 0, h => h
  | [], _, n + 1, h => by
    rw [repL_nil.mp h]
    exact RepL.nil
  | d :: ds, _, n + 1, h => by
    obtain ⟨v, r, rfl, h1, h3⟩ := repL_cons.mp h
    exact RepL.drop n h3
theorem RepL.set : ∀ {ds : List D} {vs : List V} {d : D} {v : V} (n : Nat), RepL T F ds vs → Rep T F d v → RepL T F (ds.set n d) (vs.set n v)
  | [], _, _, _, _, h, _ => by
    rw [repL_nil.mp h]
    exact RepL.nil
  | x :: ds, _, d, v, 0, h, hd => by
    obtain ⟨w, r, rfl, h1, h3⟩ := repL_cons.mp h
    exact RepL.cons hd h3
  | x :: ds, _, d, v, n + 1, h, hd => by
    obtain ⟨w, r, rfl, h1, h3⟩ := repL_cons.mp h
    exact RepL.cons h1 (RepL.set n h3 hd)
theorem RepL.ints : ∀ {ns : List Int}, RepL T F (ns.map D.int) (ns.map V.int)
  | [] => RepL.nil
  | n :: ns => RepL.cons (rep_int.mpr rfl) RepL.ints
theorem RepL.strs : ∀ {ss : List (List Nat)}, RepL T F (ss.map D.str) (ss.map fun s => V.str (S s))
  | [] => RepL.nil
  | n :: ns => RepL.cons (rep_str.mpr rfl) RepL.strs
theorem repL_strs : ∀ {ss : List (List Nat)} {vs : List V}, RepL T F (ss.map D.str) vs → vs = ss.map fun s => V.str (S s)
  | [], _, h => repL_nil.mp h
  | s :: ss, _, h => by
    obtain ⟨v, r, rfl, h1, h2⟩ := repL_cons.mp h
    rw [rep_str.mp h1, repL_strs h2]
    rfl
theorem repL_ints : ∀ {ss : List Int} {vs : List V}, RepL T F (ss.map D.int) vs → vs = ss.map V.int
  | [], _, h => repL_nil.mp h
  | s :: ss, _, h => by
    obtain ⟨v, r, rfl, h1, h2⟩ := repL_cons.mp h
    rw [rep_int.mp h1, repL_ints h2]
    rfl
theorem repF_nil {gs : List (Str × V)} : RepF T F [] gs ↔ gs = [] := by rw [RepF]
theorem repF_cons {f : Nat} {d : D} {fs : List (Nat × D)} {gs : List (Str × V)} : RepF T F ((f, d) :: fs) gs ↔ ∃ v r, gs = (T.nm f, v) :: r ∧ Rep T F d v ∧ RepF T F fs r := by rw [RepF]
theorem repK_nil {gs : List (Key × V)} : RepK T F [] gs ↔ gs = [] := by rw [RepK]
theorem repK_cons {k d : D} {fs : List (D × D)} {gs : List (Key × V)} : RepK T F ((k, d) :: fs) gs ↔ ∃ q v r, gs = (q, v) :: r ∧ k = dKey q ∧ Rep T F d v ∧ RepK T F fs r := by rw [RepK]
theorem repT_nil {gs : List (List Key × V)} : RepT T F [] gs ↔ gs = [] := by rw [RepT]
theorem repT_cons {k d : D} {fs : List (D × D)} {gs : List (List Key × V)} : RepT T F ((k, d) :: fs) gs ↔ ∃ q v r, gs = (q, v) :: r ∧ k = .tup (q.map dKey) ∧ Rep T F d v ∧ RepT T F fs r := by rw [RepT]
end

/-! ### the state -/
/-- a longer list of addresses -/
def Px (ad ad' : List Addr) : Prop := ∀ (k : Nat) (p : Addr), ad[k]? = some p → ad'[k]? = some p
theorem Px.refl (ad : List Addr) : Px ad ad := fun _ _ h => h
theorem Px.trans {a b c : List Addr} (h : Px a b) (g : Px b c) : Px a c := fun k p e => g k p (h k p e)
theorem Px.push (ad : List Addr) (p : Addr) : Px ad (ad ++ [p]) := fun k q e => by
  rw [List.getElem?_append_left (List.getElem?_eq_some_iff.mp e).1]
  exact e
theorem Px.app (ad bd : List Addr) : Px ad (ad ++ bd) := fun k q e => by
  rw [List.getElem?_append_left (List.getElem?_eq_some_iff.mp e).1]
  exact e

def RvR (T : Cn) (F : Hp) (ad : List Addr) : RV → V → Prop
  | .val d, v => Rep T F d v
  | .ob k, v => ∃ p, ad[k]? = some p ∧ v = .ref p
def RvL (T : Cn) (F : Hp) (ad : List Addr) : List RV → List V → Prop
  | [], vs => vs = []
  | r :: rs, vs => ∃ v q, vs = v :: q ∧ RvR T F ad r v ∧ RvL T F ad rs q
def RvF (T : Cn) (F : Hp) (ad : List Addr) : List (Nat × RV) → List (Str × V) → Prop
  | [], vs => vs = []
  | (f, r) :: rs, vs => ∃ v q, vs = (T.nm f, v) :: q ∧ RvR T F ad r v ∧ RvF T F ad rs q
theorem RvR.mono {T : Cn} {F F' : Hp} {ad ad' : List Addr} (e : Ex F F') (p : Px ad ad') : ∀ {r : RV} {v : V}, RvR T F ad r v → RvR T F' ad' r v
  | .val d, v, h => Rep.mono (T := T) e h
  | .ob k, v, ⟨q, h1, h2⟩ => ⟨q, p k q h1, h2⟩
theorem RvL.mono {T : Cn} {F F' : Hp} {ad ad' : List Addr} (e : Ex F F') (p : Px ad ad') : ∀ {rs : List RV} {vs : List V}, RvL T F ad rs vs → RvL T F' ad' rs vs
  | [], _, h => h
  | r :: rs, _, ⟨v, q, h0, h1, h2⟩ => ⟨v, q, h0, h1.mono e p, RvL.mono e p h2⟩
theorem RvF.mono {T : Cn} {F F' : Hp} {ad ad' : List Addr} (e : Ex F F') (p : Px ad ad') : ∀ {rs : List (Nat × RV)} {vs : List (Str × V)}, RvF T F ad rs vs → RvF T F' ad' rs vs
  | [], _, h => h
  | (f, r) :: rs, _, ⟨v, q, h0, h1, h2⟩ => ⟨v, q, h0, h1.mono e p, RvF.mono e p h2⟩
theorem RvL.len {T : Cn} {F : Hp} {ad : List Addr} : ∀ {rs : List RV} {vs : List V}, RvL T F ad rs vs → vs.length = rs.length
  | [], _, h => by rw [show _ = _ from h]; rfl
  | r :: rs, _, ⟨v, q, h0, _, h2⟩ => by rw [h0]; show q.length + 1 = rs.length + 1; rw [RvL.len h2]
theorem RvL.get {T : Cn} {F : Hp} {ad : List Addr} : ∀ {rs : List RV} {vs : List V} {i : Nat} {r : RV}, RvL T F ad rs vs → rs[i]? = some r → ∃ v, vs[i]? = some v ∧ RvR T F ad r v
  | [], _, _, _, _, e => by simp at e
  | x :: rs, _, i, r, ⟨v, q, h0, h1, h2⟩, e => by
    subst h0
    cases i with
    | zero =>
      have e' : x = r := by simpa using e
      exact ⟨v, rfl, e' ▸ h1⟩
    | succ i => exact RvL.get (i := i) h2 (by simpa using e)
theorem RvL.append {T : Cn} {F : Hp} {ad : List Addr} : ∀ {rs qs : List RV} {vs ws : List V}, RvL T F ad rs vs → RvL T F ad qs ws → RvL T F ad (rs ++ qs) (vs ++ ws)
  | [], _, _, _, h, g => by rw [show _ = _ from h]; exact g
  | r :: rs, _, _, _, ⟨v, q, h0, h1, h2⟩, g => by subst h0; exact ⟨v, _, rfl, h1, RvL.append h2 g⟩
theorem RvL.of {T : Cn} {F : Hp} {ad : List Addr} : ∀ {ds : List D} {vs : List V}, RepL T F ds vs → RvL T F ad (ds.map .val) vs
  | [], _, h => repL_nil.mp h
  | d :: ds, _, h => by
    obtain ⟨v, r, h0, h1, h2⟩ := repL_cons.mp h
    exact ⟨v, r, h0, h1, RvL.of h2⟩

/-- what the caller keeps: F0 the data that stood, B all that must stay, ad0 the caller's own objects -/
structure BF where
  F0 : Hp
  B : Hp
  ad0 : List Addr

def OAt (T : Cn) (c : BF) (F H : Hp) (ad : List Addr) (p : Addr) : OD → Prop
  | .fz d => (∃ o, F p = some o) ∧ Rep T F d (.ref p)
  | .lst ds => F p = none ∧ c.B p = none ∧ ∃ vs, H p = some (.lst vs) ∧ RepL T F ds vs
  | .lsr xs => F p = none ∧ c.B p = none ∧ ∃ vs, H p = some (.lst vs) ∧ RvL T F ad xs vs
  | .tpr xs => F p = none ∧ c.B p = none ∧ ∃ vs, H p = some (.tup vs) ∧ RvL T F ad xs vs
  | .dic kvs => F p = none ∧ c.B p = none ∧ ((∃ gs, H p = some (.dK gs) ∧ RepK T F kvs gs) ∨ (∃ gs, H p = some (.dT gs) ∧ RepT T F kvs gs))
  | .ins k fs => F p = none ∧ c.B p = none ∧ ∃ C dx gs, T.mg (T.nm k) = some (.ref C) ∧ H p = some (.ins C dx gs) ∧ RvF T F ad fs gs

theorem OAt.there {T : Cn} {c : BF} {F H : Hp} {ad : List Addr} {p : Addr} {o : OD} (fh : Ex F H) (h : OAt T c F H ad p o) : ∃ u, H p = some u := by
  cases o with
  | fz d => obtain ⟨⟨u, h⟩, _⟩ := h; exact ⟨u, fh _ _ h⟩
  | lst ds => obtain ⟨_, _, vs, h, _⟩ := h; exact ⟨_, h⟩
  | lsr ds => obtain ⟨_, _, vs, h, _⟩ := h; exact ⟨_, h⟩
  | tpr ds => obtain ⟨_, _, vs, h, _⟩ := h; exact ⟨_, h⟩
  | dic kvs => obtain ⟨_, _, ⟨gs, h, _⟩ | ⟨gs, h, _⟩⟩ := h <;> exact ⟨_, h⟩
  | ins k fs => obtain ⟨_, _, C, dx, gs, _, h, _⟩ := h; exact ⟨_, h⟩
/-- F grows elsewhere, H changes elsewhere -/
theorem OAt.mono {T : Cn} {c : BF} {F F' H H' : Hp} {ad ad' : List Addr} {p : Addr} {o : OD} (e : Ex F F') (hn : F p = none → F' p = none) (hp : ∀ u, H p = some u → H' p = some u) (px : Px ad ad') (h : OAt T c F H ad p o) : OAt T c F' H' ad' p o := by
  cases o with
  | fz d => obtain ⟨⟨u, h1⟩, h2⟩ := h; exact ⟨⟨u, e _ _ h1⟩, h2.mono e⟩
  | lst ds => obtain ⟨n, b, vs, h1, h2⟩ := h; exact ⟨hn n, b, vs, hp _ h1, h2.mono e⟩
  | lsr ds => obtain ⟨n, b, vs, h1, h2⟩ := h; exact ⟨hn n, b, vs, hp _ h1, h2.mono e px⟩
  | tpr ds => obtain ⟨n, b, vs, h1, h2⟩ := h; exact ⟨hn n, b, vs, hp _ h1, h2.mono e px⟩
  | dic kvs =>
    obtain ⟨n, b, ⟨gs, h1, h2⟩ | ⟨gs, h1, h2⟩⟩ := h
    · exact ⟨hn n, b, .inl ⟨gs, hp _ h1, h2.mono e⟩⟩
    · exact ⟨hn n, b, .inr ⟨gs, hp _ h1, h2.mono e⟩⟩
  | ins k fs => obtain ⟨n, b, C, dx, gs, h0, h1, h2⟩ := h; exact ⟨hn n, b, C, dx, gs, h0, hp _ h1, h2.mono e px⟩

structure Rel (T : Cn) (c : BF) (e : Env) (σ : St) (F H : Hp) (ad : List Addr) : Prop where
  len : e.sl.length = σ.length
  fh : Ex F H
  f0 : Ex c.F0 F
  bh : Ex c.B H
  fr : ∀ a o, F a = some o → c.F0 a = some o ∨ c.B a = none
  adl : ad.length = e.ob.length
  adn : ad.Nodup
  pre : Px c.ad0 ad
  ob : ∀ (k : Nat) (o : OD) (p : Addr), e.ob[k]? = some o → ad[k]? = some p → OAt T c F H ad p o
  sl : ∀ (i : Nat) (r : RV), e.sl[i]? = some (some r) → ∃ v, σ[i]? = some (some v) ∧ RvR T F ad r v

section
variable {T : Cn} {c : BF} {e : Env} {σ : St} {F H : Hp} {ad : List Addr}
theorem Rel.at (R : Rel T c e σ F H ad) {k : Nat} {o : OD} (h : e.ob[k]? = some o) : ∃ p, ad[k]? = some p ∧ OAt T c F H ad p o := by
  have hk : k < ad.length := by
    rw [R.adl]
    exact (List.getElem?_eq_some_iff.mp h).1
  exact ⟨ad[k], List.getElem?_eq_getElem hk, R.ob k o _ h (List.getElem?_eq_getElem hk)⟩
theorem Rel.obs (R : Rel T c e σ F H ad) {k : Nat} {p : Addr} (h : ad[k]? = some p) : ∃ o, e.ob[k]? = some o ∧ OAt T c F H ad p o := by
  have hk : k < e.ob.length := by
    rw [← R.adl]
    exact (List.getElem?_eq_some_iff.mp h).1
  exact ⟨e.ob[k], List.getElem?_eq_getElem hk, R.ob k _ p (List.getElem?_eq_getElem hk) h⟩
theorem Rel.tracked (R : Rel T c e σ F H ad) {k : Nat} {p : Addr} (h : ad[k]? = some p) : ∃ u, H p = some u := by
  obtain ⟨o, _, ho⟩ := R.obs h
  exact ho.there R.fh
/-- a new object of the state -/
theorem Rel.push (R : Rel T c e σ F H ad) {p : Addr} {u : HO} {o : OD} (hp : H p = none) (ho : OAt T c F (upd H p u) (ad ++ [p]) p o) : Rel T c { e with ob := e.ob ++ [o] } σ F (upd H p u) (ad ++ [p]) where
  len := R.len
  fh := fun a x h => Ex.new hp a x (R.fh a x h)
  f0 := R.f0
  bh := fun a x h => Ex.new hp a x (R.bh a x h)
  fr := R.fr
  adl := by
    show (ad ++ [p]).length = (e.ob ++ [o]).length
    rw [List.length_append, List.length_append, R.adl]
    rfl
  adn := by
    refine List.nodup_append.mpr ⟨R.adn, by simp, fun a ha b hb => ?_⟩
    have eb : b = p := by simpa using hb
    subst eb
    rintro rfl
    obtain ⟨k, hk⟩ := List.getElem?_of_mem ha
    obtain ⟨u, hu⟩ := R.tracked hk
    rw [hp] at hu
    cases hu
  pre := R.pre.trans (Px.push ad p)
  ob := fun k o' q h1 h2 => by
    by_cases hk : k < ad.length
    · rw [List.getElem?_append_left hk] at h2
      have h1' : e.ob[k]? = some o' := by
        have h1'' : (e.ob ++ [o])[k]? = some o' := h1
        rw [List.getElem?_append_left (by rw [← R.adl]; exact hk)] at h1''
        exact h1''
      exact OAt.mono (Ex.refl F) (fun n => n) (fun u hu => Ex.new hp _ _ hu) (Px.push ad p) (R.ob k o' q h1' h2)
    · have h1'' : (e.ob ++ [o])[k]? = some o' := h1
      have hk' : k = ad.length := by
        have := (List.getElem?_eq_some_iff.mp h2).1
        rw [List.length_append] at this
        have e1 : [p].length = 1 := rfl
        omega
      subst hk'
      have hl := R.adl
      rw [List.getElem?_append_right (Nat.le_refl _)] at h2
      rw [hl, List.getElem?_append_right (Nat.le_refl _)] at h1''
      simp at h1'' h2
      subst h1''
      subst h2
      exact ho
  sl := fun i r h => by
    obtain ⟨v, hv, hr⟩ := R.sl i r h
    exact ⟨v, hv, hr.mono (Ex.refl F) (Px.push ad p)⟩
/-- new data -/
theorem Rel.laid (R : Rel T c e σ F H ad) {p : Addr} {u : HO} (hp : H p = none) : Rel T c e σ (upd F p u) (upd H p u) ad where
  len := R.len
  fh := fun a x h => by
    by_cases ha : a = p
    · rw [ha, upd_same] at h ⊢
      exact h
    · rw [upd_ne ha] at h ⊢
      exact R.fh a x h
  f0 := R.f0.trans (Ex.new (R.fh.free hp))
  bh := fun a x h => Ex.new hp a x (R.bh a x h)
  fr := fun a x h => by
    by_cases ha : a = p
    · subst ha
      exact .inr (R.bh.free hp)
    · rw [upd_ne ha] at h
      exact R.fr a x h
  adl := R.adl
  adn := R.adn
  pre := R.pre
  ob := fun k o q h1 h2 => by
    have hq : q ≠ p := by
      rintro rfl
      obtain ⟨u, hu⟩ := R.tracked h2
      rw [hp] at hu
      cases hu
    exact OAt.mono (Ex.new (R.fh.free hp)) (fun n => by rw [upd_ne hq]; exact n) (fun u hu => Ex.new hp _ _ hu) (Px.refl ad) (R.ob k o q h1 h2)
  sl := fun i r h => by
    obtain ⟨v, hv, hr⟩ := R.sl i r h
    exact ⟨v, hv, hr.mono (Ex.new (R.fh.free hp)) (Px.refl ad)⟩
/-- something else is tracked anew -/
theorem Rel.other (R : Rel T c e σ F H ad) {H' : Hp} (h : Ex H H') : Rel T c e σ F H' ad where
  len := R.len
  fh := R.fh.trans h
  f0 := R.f0
  bh := R.bh.trans h
  fr := R.fr
  adl := R.adl
  adn := R.adn
  pre := R.pre
  ob := fun k o q h1 h2 => OAt.mono (Ex.refl F) (fun n => n) (fun u hu => h _ _ hu) (Px.refl ad) (R.ob k o q h1 h2)
  sl := R.sl
/-- an object that may change is not among the data -/
def OD.mut : OD → Bool
  | .fz _ => false
  | _ => true
theorem OAt.free {p : Addr} {o : OD} (m : o.mut = true) (h : OAt T c F H ad p o) : F p = none ∧ c.B p = none := by
  cases o with
  | fz d => cases m
  | lst ds => exact ⟨h.1, h.2.1⟩
  | lsr ds => exact ⟨h.1, h.2.1⟩
  | tpr ds => exact ⟨h.1, h.2.1⟩
  | dic kvs => exact ⟨h.1, h.2.1⟩
  | ins k fs => exact ⟨h.1, h.2.1⟩
theorem nodup_at {l : List Addr} (hn : l.Nodup) {i j : Nat} {x : Addr} (a : l[i]? = some x) (b : l[j]? = some x) : i = j := by
  obtain ⟨h1, e1⟩ := List.getElem?_eq_some_iff.mp a
  obtain ⟨h2, e2⟩ := List.getElem?_eq_some_iff.mp b
  exact (List.getElem_inj hn).mp (e1.trans e2.symm)
/-- an object of the state changes -/
theorem Rel.set (R : Rel T c e σ F H ad) {k : Nat} {p : Addr} {u : HO} {o o' : OD} (h : e.ob[k]? = some o) (m : o.mut = true) (hp : ad[k]? = some p) (ho : OAt T c F (upd H p u) ad p o') : Rel T c { e with ob := e.ob.set k o' } σ F (upd H p u) ad := by
  obtain ⟨fp, bp⟩ := (R.ob k o p h hp).free m
  exact {
    len := R.len
    fh := fun a x q => by
      rw [upd_ne (ne_of_none q fp)]
      exact R.fh a x q
    f0 := R.f0
    bh := fun a x q => by
      rw [upd_ne (ne_of_none q bp)]
      exact R.bh a x q
    fr := R.fr
    adl := by
      show ad.length = (e.ob.set k o').length
      rw [List.length_set]
      exact R.adl
    adn := R.adn
    pre := R.pre
    ob := fun j oj q h1 h2 => by
      have h1' : (e.ob.set k o')[j]? = some oj := h1
      by_cases hj : j = k
      · subst hj
        rw [List.getElem?_set_self (List.getElem?_eq_some_iff.mp h).1] at h1'
        cases h1'
        rw [hp] at h2
        cases h2
        exact ho
      · rw [List.getElem?_set_ne (Ne.symm hj)] at h1'
        have hq : q ≠ p := by
          rintro rfl
          exact hj (nodup_at R.adn h2 hp)
        exact OAt.mono (Ex.refl F) (fun n => n) (fun u hu => by rw [upd_ne hq]; exact hu) (Px.refl ad) (R.ob j oj q h1' h2)
    sl := R.sl }
/-- an object of the state changes no more -/
theorem Rel.freeze (R : Rel T c e σ F H ad) {k : Nat} {p : Addr} {u : HO} {o : OD} {d : D} (h : e.ob[k]? = some o) (m : o.mut = true) (hp : ad[k]? = some p) (hu : H p = some u) (hd : Rep T (upd F p u) d (.ref p)) : Rel T c { e with ob := e.ob.set k (.fz d) } σ (upd F p u) H ad := by
  obtain ⟨fp, bp⟩ := (R.ob k o p h hp).free m
  exact {
    len := R.len
    fh := fun a x q => by
      by_cases ha : a = p
      · subst ha
        rw [upd_same] at q
        cases q
        exact hu
      · rw [upd_ne ha] at q
        exact R.fh a x q
    f0 := R.f0.trans (Ex.new fp)
    bh := R.bh
    fr := fun a x q => by
      by_cases ha : a = p
      · subst ha
        exact .inr bp
      · rw [upd_ne ha] at q
        exact R.fr a x q
    adl := by
      show ad.length = (e.ob.set k (.fz d)).length
      rw [List.length_set]
      exact R.adl
    adn := R.adn
    pre := R.pre
    ob := fun j oj q h1 h2 => by
      have h1' : (e.ob.set k (.fz d))[j]? = some oj := h1
      by_cases hj : j = k
      · subst hj
        rw [List.getElem?_set_self (List.getElem?_eq_some_iff.mp h).1] at h1'
        cases h1'
        rw [hp] at h2
        cases h2
        exact ⟨⟨u, upd_same⟩, hd⟩
      · rw [List.getElem?_set_ne (Ne.symm hj)] at h1'
        have hq : q ≠ p := by
          rintro rfl
          exact hj (nodup_at R.adn h2 hp)
        exact OAt.mono (Ex.new fp) (fun n => by rw [upd_ne hq]; exact n) (fun u hu => hu) (Px.refl ad) (R.ob j oj q h1' h2)
    sl := fun i r q => by
      obtain ⟨v, hv, hr⟩ := R.sl i r q
      exact ⟨v, hv, hr.mono (Ex.new fp) (Px.refl ad)⟩ }
/-- a name is stored -/
theorem Rel.put (R : Rel T c e σ F H ad) {i : Nat} {r : RV} {v : V} (h : RvR T F ad r v) : Rel T c { e with sl := e.sl.set i (some r) } (σ.set i (some v)) F H ad where
  len := by
    show (e.sl.set i (some r)).length = (σ.set i (some v)).length
    rw [List.length_set, List.length_set]
    exact R.len
  fh := R.fh
  f0 := R.f0
  bh := R.bh
  fr := R.fr
  adl := R.adl
  adn := R.adn
  pre := R.pre
  ob := R.ob
  sl := fun j q hq => by
    have hq' : (e.sl.set i (some r))[j]? = some (some q) := hq
    by_cases hj : i = j
    · subst hj
      have hi : i < e.sl.length := by
        have := (List.getElem?_eq_some_iff.mp hq').1
        rwa [List.length_set] at this
      rw [List.getElem?_set_self hi] at hq'
      cases hq'
      rw [List.getElem?_set_self (by rw [← R.len]; exact hi)]
      exact ⟨v, rfl, h⟩
    · rw [List.getElem?_set_ne hj] at hq'
      rw [List.getElem?_set_ne hj]
      exact R.sl j q hq'
/-- names forgotten -/
theorem Rel.slots (R : Rel T c e σ F H ad) {sl' : List (Option RV)} {σ' : St} (hl : sl'.length = σ'.length) (h : ∀ (i : Nat) (r : RV), sl'[i]? = some (some r) → ∃ v, σ'[i]? = some (some v) ∧ RvR T F ad r v) : Rel T c { e with sl := sl' } σ' F H ad :=
  ⟨hl, R.fh, R.f0, R.bh, R.fr, R.adl, R.adn, R.pre, R.ob, h⟩
end

/-! ### what an object is as data -/
mutual
/-- it changes no more from here on; fuel n -/
def fzR : Nat → List OD → RV → Option (D × List OD)
  | _, ob, .val d => some (d, ob)
  | 0, _, .ob _ => none
  | n + 1, ob, .ob k => match ob[k]? with
    | some (.fz d) => some (d, ob)
    | some (.lst ds) => some (.lst ds, ob.set k (.fz (.lst ds)))
    | some (.dic kvs) => some (.dic kvs, ob.set k (.fz (.dic kvs)))
    | some (.lsr xs) => (match fzL n ob xs with
      | some (ds, ob') => (match ob'[k]? with
        | some (.lsr _) => some (.lst ds, ob'.set k (.fz (.lst ds)))
        | _ => none)
      | none => none)
    | some (.tpr xs) => (match fzL n ob xs with
      | some (ds, ob') => (match ob'[k]? with
        | some (.tpr _) => some (.tup ds, ob'.set k (.fz (.tup ds)))
        | _ => none)
      | none => none)
    | some (.ins c fs) => (match fzF n ob fs with
      | some (ds, ob') => (match ob'[k]? with
        | some (.ins _ _) => some (.ins c ds, ob'.set k (.fz (.ins c ds)))
        | _ => none)
      | none => none)
    | none => none
def fzL : Nat → List OD → List RV → Option (List D × List OD)
  | _, ob, [] => some ([], ob)
  | n, ob, r :: rs => match fzR n ob r with
    | some (d, ob') => (match fzL n ob' rs with
      | some (ds, ob'') => some (d :: ds, ob'')
      | none => none)
    | none => none
def fzF : Nat → List OD → List (Nat × RV) → Option (List (Nat × D) × List OD)
  | _, ob, [] => some ([], ob)
  | n, ob, (f, r) :: rs => match fzR n ob r with
    | some (d, ob') => (match fzF n ob' rs with
      | some (ds, ob'') => some ((f, d) :: ds, ob'')
      | none => none)
    | none => none
end
section
variable {T : Cn} {c : BF} {σ : St} {H : Hp} {ad : List Addr} {sl : List (Option RV)}
mutual
theorem fzR_ok : ∀ (n : Nat) {ob ob' : List OD} {F : Hp} {r : RV} {d : D}, Rel T c ⟨sl, ob⟩ σ F H ad → fzR n ob r = some (d, ob') →
    ∃ F', Ex F F' ∧ Rel T c ⟨sl, ob'⟩ σ F' H ad ∧ ∀ v, RvR T F ad r v → Rep T F' d v
  | n, ob, ob', F, .val d', d, R, h => by
    rw [fzR] at h
    cases h
    exact ⟨F, Ex.refl F, R, fun v hv => hv⟩
  | 0, ob, ob', F, .ob k, d, R, h => by
    rw [fzR] at h
    cases h
  | n + 1, ob, ob', F, .ob k, d, R, h => by
    rw [fzR] at h
    cases hk : ob[k]? with
    | none =>
      rw [hk] at h
      cases h
    | some o =>
      rw [hk] at h
      obtain ⟨p, hp, ho⟩ := R.at (k := k) (o := o) hk
      have only : ∀ {F' : Hp} {v : V}, RvR T F ad (.ob k) v → Rep T F' d (.ref p) → Rep T F' d v := fun {F' v} hv hr => by
        obtain ⟨q, hq, rfl⟩ := hv
        rw [hp] at hq
        cases hq
        exact hr
      cases o with
      | fz d' =>
        cases h
        exact ⟨F, Ex.refl F, R, fun v hv => only hv ho.2⟩
      | lst ds =>
        cases h
        obtain ⟨n1, n2, vs, h1, h2⟩ := ho
        have hr : Rep T (upd F p (.lst vs)) (.lst ds) (.ref p) := rep_lst.mpr ⟨p, vs, rfl, .inl upd_same, h2.mono (Ex.new n1)⟩
        exact ⟨_, Ex.new n1, R.freeze hk rfl hp h1 hr, fun v hv => only hv hr⟩
      | dic kvs =>
        cases h
        obtain ⟨n1, n2, ⟨gs, h1, h2⟩ | ⟨gs, h1, h2⟩⟩ := ho
        · have hr : Rep T (upd F p (.dK gs)) (.dic kvs) (.ref p) := rep_dic.mpr ⟨p, rfl, .inl ⟨gs, upd_same, h2.mono (Ex.new n1)⟩⟩
          exact ⟨_, Ex.new n1, R.freeze hk rfl hp h1 hr, fun v hv => only hv hr⟩
        · have hr : Rep T (upd F p (.dT gs)) (.dic kvs) (.ref p) := rep_dic.mpr ⟨p, rfl, .inr ⟨gs, upd_same, h2.mono (Ex.new n1)⟩⟩
          exact ⟨_, Ex.new n1, R.freeze hk rfl hp h1 hr, fun v hv => only hv hr⟩
      | lsr xs =>
        dsimp only at h
        cases hl : fzL n ob xs with
        | none =>
          rw [hl] at h
          cases h
        | some r =>
          obtain ⟨ds, ob1⟩ := r
          rw [hl] at h
          dsimp only at h
          obtain ⟨F1, e1, R1, q1⟩ := fzL_ok n R hl
          cases hk1 : ob1[k]? with
          | none =>
            rw [hk1] at h
            cases h
          | some o1 =>
            rw [hk1] at h
            cases o1 with
            | lsr ys =>
              cases h
              obtain ⟨n1, n2, vs, h1, h2⟩ := ho
              obtain ⟨m1, m2, ws, g1, g2⟩ := R1.ob k _ p hk1 hp
              rw [h1] at g1
              cases g1
              have hr : Rep T (upd F1 p (.lst vs)) (.lst ds) (.ref p) := rep_lst.mpr ⟨p, vs, rfl, .inl upd_same, (q1 vs h2).mono (Ex.new m1)⟩
              exact ⟨_, e1.trans (Ex.new m1), R1.freeze hk1 rfl hp h1 hr, fun v hv => only hv hr⟩
            | _ => cases h
      | tpr xs =>
        dsimp only at h
        cases hl : fzL n ob xs with
        | none =>
          rw [hl] at h
          cases h
        | some r =>
          obtain ⟨ds, ob1⟩ := r
          rw [hl] at h
          dsimp only at h
          obtain ⟨F1, e1, R1, q1⟩ := fzL_ok n R hl
          cases hk1 : ob1[k]? with
          | none =>
            rw [hk1] at h
            cases h
          | some o1 =>
            rw [hk1] at h
            cases o1 with
            | tpr ys =>
              cases h
              obtain ⟨n1, n2, vs, h1, h2⟩ := ho
              obtain ⟨m1, m2, ws, g1, g2⟩ := R1.ob k _ p hk1 hp
              rw [h1] at g1
              cases g1
              have hr : Rep T (upd F1 p (.tup vs)) (.tup ds) (.ref p) := rep_tup.mpr ⟨p, vs, rfl, .inl (.inl upd_same), (q1 vs h2).mono (Ex.new m1)⟩
              exact ⟨_, e1.trans (Ex.new m1), R1.freeze hk1 rfl hp h1 hr, fun v hv => only hv hr⟩
            | _ => cases h
      | ins c' fs =>
        dsimp only at h
        cases hl : fzF n ob fs with
        | none =>
          rw [hl] at h
          cases h
        | some r =>
          obtain ⟨ds, ob1⟩ := r
          rw [hl] at h
          dsimp only at h
          obtain ⟨F1, e1, R1, q1⟩ := fzF_ok n R hl
          cases hk1 : ob1[k]? with
          | none =>
            rw [hk1] at h
            cases h
          | some o1 =>
            rw [hk1] at h
            cases o1 with
            | ins c2 ys =>
              cases h
              obtain ⟨n1, n2, C, dx, gs, h0, h1, h2⟩ := ho
              obtain ⟨m1, m2, C2, dx2, gs2, g0, g1, g2⟩ := R1.ob k _ p hk1 hp
              have hr : Rep T (upd F1 p (.ins C dx gs)) (.ins c' ds) (.ref p) := rep_ins.mpr ⟨p, C, dx, gs, rfl, h0, upd_same, (q1 gs h2).mono (Ex.new m1)⟩
              exact ⟨_, e1.trans (Ex.new m1), R1.freeze hk1 rfl hp h1 hr, fun v hv => only hv hr⟩
            | _ => cases h
theorem fzL_ok : ∀ (n : Nat) {ob ob' : List OD} {F : Hp} {rs : List RV} {ds : List D}, Rel T c ⟨sl, ob⟩ σ F H ad → fzL n ob rs = some (ds, ob') →
    ∃ F', Ex F F' ∧ Rel T c ⟨sl, ob'⟩ σ F' H ad ∧ ∀ vs, RvL T F ad rs vs → RepL T F' ds vs
  | n, ob, ob', F, [], ds, R, h => by
    rw [fzL] at h
    cases h
    exact ⟨F, Ex.refl F, R, fun v hv => repL_nil.mpr hv⟩
  | n, ob, ob', F, r :: rs, ds, R, h => by
    rw [fzL] at h
    cases h1 : fzR n ob r with
    | none =>
      rw [h1] at h
      cases h
    | some x =>
      obtain ⟨d, ob1⟩ := x
      rw [h1] at h
      dsimp only at h
      cases h2 : fzL n ob1 rs with
      | none =>
        rw [h2] at h
        cases h
      | some y =>
        obtain ⟨es, ob2⟩ := y
        rw [h2] at h
        cases h
        obtain ⟨F1, e1, R1, q1⟩ := fzR_ok n R h1
        obtain ⟨F2, e2, R2, q2⟩ := fzL_ok n R1 h2
        refine ⟨F2, e1.trans e2, R2, fun vs hv => ?_⟩
        obtain ⟨v, q, rfl, a1, a2⟩ := hv
        exact RepL.cons ((q1 v a1).mono e2) (q2 q (a2.mono e1 (Px.refl ad)))
theorem fzF_ok : ∀ (n : Nat) {ob ob' : List OD} {F : Hp} {rs : List (Nat × RV)} {ds : List (Nat × D)}, Rel T c ⟨sl, ob⟩ σ F H ad → fzF n ob rs = some (ds, ob') →
    ∃ F', Ex F F' ∧ Rel T c ⟨sl, ob'⟩ σ F' H ad ∧ ∀ vs, RvF T F ad rs vs → RepF T F' ds vs
  | n, ob, ob', F, [], ds, R, h => by
    rw [fzF] at h
    cases h
    exact ⟨F, Ex.refl F, R, fun v hv => repF_nil.mpr hv⟩
  | n, ob, ob', F, (f, r) :: rs, ds, R, h => by
    rw [fzF] at h
    cases h1 : fzR n ob r with
    | none =>
      rw [h1] at h
      cases h
    | some x =>
      obtain ⟨d, ob1⟩ := x
      rw [h1] at h
      dsimp only at h
      cases h2 : fzF n ob1 rs with
      | none =>
        rw [h2] at h
        cases h
      | some y =>
        obtain ⟨es, ob2⟩ := y
        rw [h2] at h
        cases h
        obtain ⟨F1, e1, R1, q1⟩ := fzR_ok n R h1
        obtain ⟨F2, e2, R2, q2⟩ := fzF_ok n R1 h2
        refine ⟨F2, e1.trans e2, R2, fun vs hv => ?_⟩
        obtain ⟨v, q, rfl, a1, a2⟩ := hv
        exact repF_cons.mpr ⟨v, q, rfl, (q1 v a1).mono e2, q2 q (a2.mono e1 (Px.refl ad))⟩
end
end
@[simp] theorem fzR_val (n : Nat) (ob : List OD) (d : D) : fzR n ob (.val d) = some (d, ob) := by rw [fzR]
@[simp] theorem fzL_vals (n : Nat) (ob : List OD) : ∀ ds : List D, fzL n ob (ds.map .val) = some (ds, ob)
  | [] => by rw [List.map_nil, fzL]
  | d :: ds => by rw [List.map_cons, fzL, fzR_val]; dsimp only; rw [fzL_vals n ob ds]
@[simp] theorem fzL_nil (n : Nat) (ob : List OD) : fzL n ob [] = some ([], ob) := by rw [fzL]
end DL
end
section
set_option Elab.async false
set_option linter.all false
set_option autoImplicit false
set_option maxRecDepth 100000
set_option maxHeartbeats 2000000
/-! DLB: what expressions do to the state (EX, TX), and that the text's expressions do it (DE, DT). -/
namespace DL
open PySem PySem.Spec L2

abbrev EX := Env → (RV → Env → Prop) → (Xc → Env → Prop) → Prop
abbrev TX := Env → (Bool → Env → Prop) → (Xc → Env → Prop) → Prop
abbrev AX := Env → (List RV → Env → Prop) → (Xc → Env → Prop) → Prop
structure Post where
  nx : Env → Prop
  rt : RV → Env → Prop
  xc : Xc → Env → Prop
  bk : Env → Prop := fun _ => False
  ct : Env → Prop := fun _ => False
abbrev SX := Env → Post → Prop

/-! ### what stands for data -/
section
variable {T : Cn} {F : Hp} {ad : List Addr} {v : V}
theorem rv_bl {b : Bool} (h : RvR T F ad (.val (.bl b)) v) : v = .bl b := rep_bl.mp (show Rep T F (.bl b) v from h)
theorem rv_int {b : Int} (h : RvR T F ad (.val (.int b)) v) : v = .int b := rep_int.mp (show Rep T F (.int b) v from h)
theorem rv_str {b : List Nat} (h : RvR T F ad (.val (.str b)) v) : v = .str (S b) := rep_str.mp (show Rep T F (.str b) v from h)
theorem rv_non (h : RvR T F ad (.val .non) v) : v = .non := rep_non.mp (show Rep T F .non v from h)
end

/-! ### the link -/
def XRep (T : Cn) (F : Hp) (x : Xc) (cls : Value) (d : Option Addr) : Prop :=
  ∃ C, T.mg (T.nm x.c) = some (.ref C) ∧ cls = .ref C ∧ (x.fs = [] ∨ ∃ dd gs, d = some dd ∧ F dd = some (.xd gs) ∧ RepX T F x.fs gs)
def XL (T : Cn) (c : BF) (W : WX) (F : Hp) (ad : List Addr) (R : Xc → Env → Prop) : Prop :=
  ∀ cls d σ' H' F' ad' e' x, Ex F F' → Px ad ad' → Rel T c e' σ' F' H' ad' → XRep T F' x cls d → R x e' → W cls d σ' H'
def QL (T : Cn) (c : BF) (σ : St) (F : Hp) (ad : List Addr) (P : RV → Env → Prop) (Q : VK) : Prop :=
  ∀ v H' F' ad' e' r, Ex F F' → Px ad ad' → Rel T c e' σ F' H' ad' → RvR T F' ad' r v → P r e' → Q v H'
def LE (T : Cn) (W : WX) (t : EX) : TE := fun σ H Q => ∃ c F ad e P R, Rel T c e σ F H ad ∧ t e P R ∧ QL T c σ F ad P Q ∧ XL T c W F ad R
def LT (T : Cn) (W : WX) (t : TX) : TT := fun σ H Q => ∃ c F ad e P R, Rel T c e σ F H ad ∧ t e P R ∧
  (∀ b H' F' ad' e', Ex F F' → Px ad ad' → Rel T c e' σ F' H' ad' → P b e' → Q b H') ∧ XL T c W F ad R
def LA (T : Cn) (W : WX) (t : AX) : TA := fun σ H Q => ∃ c F ad e P R, Rel T c e σ F H ad ∧ t e P R ∧
  (∀ vs H' F' ad' e' rs, Ex F F' → Px ad ad' → Rel T c e' σ F' H' ad' → RvL T F' ad' rs vs → P rs e' → Q vs H') ∧ XL T c W F ad R
def LS (T : Cn) (W : WX) (t : SX) : TS := fun D σ H => ∃ c F ad e Po, Rel T c e σ F H ad ∧ t e Po ∧
  (∀ σ' H' F' ad' e', Ex F F' → Px ad ad' → Rel T c e' σ' F' H' ad' → Po.nx e' → D.nx σ' H') ∧
  (∀ v σ' H' F' ad' e' r, Ex F F' → Px ad ad' → Rel T c e' σ' F' H' ad' → RvR T F' ad' r v → Po.rt r e' → D.rt v H') ∧
  XL T c W F ad Po.xc ∧
  (∀ σ' H' F' ad' e', Ex F F' → Px ad ad' → Rel T c e' σ' F' H' ad' → Po.bk e' → D.bk σ' H') ∧
  (∀ σ' H' F' ad' e', Ex F F' → Px ad ad' → Rel T c e' σ' F' H' ad' → Po.ct e' → D.ct σ' H')
/-- the text's expression does t -/
structure DE (T : Cn) (X : Cx) (W : WX) (e : Expr) (t : EX) : Prop where
  pe : PE X e (LE T W t)
structure DT (T : Cn) (X : Cx) (W : WX) (e : Expr) (t : TX) : Prop where
  pt : PT X e (LT T W t)
structure DW (T : Cn) (X : Cx) (W : WX) (e : Expr) (t : TX) : Prop where
  pw : PW X e (LT T W t)
structure DA (T : Cn) (X : Cx) (W : WX) (es : List Expr) (t : AX) : Prop where
  pa : PA X es (LA T W t)
  hpl : ∀ pos, (backTo pos (starEach es X.env)).any (·.1) = false
  he : ∀ a r, es = a :: r → starEach es X.env = (false, eval a X.env) :: starEach r X.env ∧ ∀ pos, (backTo pos (starEach r X.env)).any (·.1) = false
structure DS (T : Cn) (X : Cx) (W : WX) (st : Stmt) (t : SX) : Prop where
  ps : PS X st (LS T W t)
structure DSs (T : Cn) (X : Cx) (W : WX) (st : List Stmt) (t : SX) : Prop where
  pss : PSs X st (LS T W t)

theorem PE.imp {X : Cx} {e : Expr} {t u : TE} (h : PE X e t) (g : ∀ σ H Q, u σ H Q → t σ H Q) : PE X e u := ⟨fun pins s σ H Q I q => h.run pins s σ H Q I (g σ H Q q)⟩
theorem PT.imp {X : Cx} {e : Expr} {t u : TT} (h : PT X e t) (g : ∀ σ H Q, u σ H Q → t σ H Q) : PT X e u := ⟨fun pins s σ H Q I q => h.run pins s σ H Q I (g σ H Q q)⟩
theorem PW.imp {X : Cx} {e : Expr} {t u : TT} (h : PW X e t) (g : ∀ σ H Q, u σ H Q → t σ H Q) : PW X e u := ⟨fun wh pins s σ H Q I q => h.run wh pins s σ H Q I (g σ H Q q)⟩
theorem PA.imp {X : Cx} {e : List Expr} {t u : TA} (h : PA X e t) (g : ∀ σ H Q, u σ H Q → t σ H Q) : PA X e u := ⟨fun pos pins s σ H Q I q => h.run pos pins s σ H Q I (g σ H Q q)⟩
theorem PS.imp {X : Cx} {e : Stmt} {t u : TS} (h : PS X e t) (g : ∀ D σ H, u D σ H → t D σ H) : PS X e u := ⟨fun pins s σ H D I q => h.run pins s σ H D I (g D σ H q)⟩
theorem PSs.imp {X : Cx} {e : List Stmt} {t u : TS} (h : PSs X e t) (g : ∀ D σ H, u D σ H → t D σ H) : PSs X e u := ⟨fun pins s σ H D I q => h.run pins s σ H D I (g D σ H q)⟩

theorem XL.mono {T : Cn} {c : BF} {W : WX} {F F' : Hp} {ad ad' : List Addr} {R : Xc → Env → Prop} (h : XL T c W F ad R) (e : Ex F F') (p : Px ad ad') : XL T c W F' ad' R :=
  fun cls d σ' H' F2 ad2 e' x e2 p2 => h cls d σ' H' F2 ad2 e' x (e.trans e2) (p.trans p2)
theorem QL.mono {T : Cn} {c : BF} {σ : St} {F F' : Hp} {ad ad' : List Addr} {P : RV → Env → Prop} {Q : VK} (h : QL T c σ F ad P Q) (e : Ex F F') (p : Px ad ad') : QL T c σ F' ad' P Q :=
  fun v H' F2 ad2 e' r e2 p2 => h v H' F2 ad2 e' r (e.trans e2) (p.trans p2)
theorem QL.val {T : Cn} {c : BF} {σ : St} {F H : Hp} {ad : List Addr} {P : RV → Env → Prop} {Q : VK} {e : Env} {v : V} {d : D} (h : QL T c σ F ad P Q) (R : Rel T c e σ F H ad) (r : Rep T F d v) (q : P (.val d) e) : Q v H :=
  h v H F ad e (.val d) (Ex.refl F) (Px.refl ad) R r q
theorem QL.any {T : Cn} {c : BF} {σ : St} {F H : Hp} {ad : List Addr} {P : RV → Env → Prop} {Q : VK} {e : Env} {v : V} {d : RV} (h : QL T c σ F ad P Q) (R : Rel T c e σ F H ad) (r : RvR T F ad d v) (q : P d e) : Q v H :=
  h v H F ad e d (Ex.refl F) (Px.refl ad) R r q
/-- a new object -/
theorem QL.new {T : Cn} {c : BF} {σ : St} {F H : Hp} {ad : List Addr} {P : RV → Env → Prop} {Q : VK} {e : Env} {o : OD} {u : HO} {p : Addr} (h : QL T c σ F ad P Q) (R : Rel T c e σ F H ad) (hp : H p = none)
    (ho : F p = none → c.B p = none → OAt T c F (upd H p u) (ad ++ [p]) p o) (q : P (.ob e.ob.length) { e with ob := e.ob ++ [o] }) : Q (.ref p) (upd H p u) := by
  have R2 := R.push hp (ho (R.fh.free hp) (R.bh.free hp))
  refine h (.ref p) _ F (ad ++ [p]) _ (.ob e.ob.length) (Ex.refl F) (Px.push ad p) R2 ⟨p, ?_, rfl⟩ q
  rw [← R.adl, List.getElem?_append_right (Nat.le_refl _), Nat.sub_self]
  rfl
/-- new data -/
theorem QL.laid {T : Cn} {c : BF} {σ : St} {F H : Hp} {ad : List Addr} {P : RV → Env → Prop} {Q : VK} {e : Env} {u : HO} {p : Addr} {d : D} (h : QL T c σ F ad P Q) (R : Rel T c e σ F H ad) (hp : H p = none)
    (ho : Ex F (upd F p u) → Rep T (upd F p u) d (.ref p)) (q : P (.val d) e) : Q (.ref p) (upd H p u) :=
  h (.ref p) _ (upd F p u) ad e (.val d) (Ex.new (R.fh.free hp)) (Px.refl ad) (R.laid hp) (ho (Ex.new (R.fh.free hp))) q

/-! ### names, constants -/
section
variable {T : Cn} {X : Cx} {W : WX}
def eVar (i : Nat) : EX := fun e P _ => ∃ r, e.sl[i]? = some (some r) ∧ P r e
def eD (d : D) : EX := fun e P _ => P (.val d) e
theorem de_var (i : Nat) {x : Str} {pos : Pos} (hN : X.N[i]? = some x := by rfl) (hv : Vis X.env.scope x := by first | exact Or.inl rfl | exact Or.inr (Or.inl rfl) | exact Or.inr (Or.inr rfl)) (hd : (x == ("__debug__" : Str)) = false := by decide)
    (hcd : (x == ("__classdict__" : Str)) = false := by decide) : DE T X W (.Name x pos) (eVar i) := ⟨PE.imp (pe_var hN hv hd hcd) fun σ H Q h => by
  obtain ⟨c, F, ad, e, P, R, rel, ⟨r, hr, q⟩, hq, _⟩ := h
  obtain ⟨v, hv, rr⟩ := rel.sl i r hr
  exact ⟨v, hv, hq.any rel rr q⟩⟩
theorem de_c {x : Expr} {v : V} {d : D} (h : PE X x (tC v)) (hr : ∀ F, Rep T F d v) : DE T X W x (eD d) := ⟨PE.imp h fun σ H Q h => by
  obtain ⟨c, F, ad, e, P, R, rel, q, hq, _⟩ := h
  exact hq.val rel (hr F) q⟩
theorem de_int {i : Int} {j : Nat} {pos : Pos} : DE T X W (.Constant (.int i) j pos) (eD (.int i)) := de_c pe_int fun _ => rep_int.mpr rfl
theorem de_bl {i : Bool} {j : Nat} {pos : Pos} : DE T X W (.Constant (.bool i) j pos) (eD (.bl i)) := de_c pe_bl fun _ => rep_bl.mpr rfl
theorem de_non {j : Nat} {pos : Pos} : DE T X W (.Constant .none j pos) (eD .non) := de_c pe_non fun _ => rep_non.mpr rfl
theorem de_str {x : Str} {j : Nat} {pos : Pos} : DE T X W (.Constant (.str x) j pos) (eD (.str x.cps.toList)) := de_c pe_str fun _ => rep_str.mpr (by rw [S_of])
/-- a name of the module -/
theorem de_glob {x : Str} {u : Value} {v : V} {d : D} {pos : Pos} (hm : X.mg x = some u) (r : RelV v u) (hr : ∀ F, Rep T F d v) (hg : Gl X x := by rfl) (hdb : (x == ("__debug__" : Str)) = false := by decide) : DE T X W (.Name x pos) (eD d) :=
  de_c (pe_glob hg hm r hdb) hr

/-! ### two operands -/
abbrev OX := Env → RV → RV → (RV → Env → Prop) → Prop
def OpD (T : Cn) (r : R2) (f : OX) : Prop := ∀ (c : BF) (F : Hp) (ad : List Addr) (e : Env) (σ : St) (H : Hp) (x y : V) (rx ry : RV) (P : RV → Env → Prop) (Q : VK),
  Rel T c e σ F H ad → RvR T F ad rx x → RvR T F ad ry y → f e rx ry P → QL T c σ F ad P Q → r x y H Q
def op2 (f : OX) (ta tb : EX) : EX := fun e P R => ta e (fun x e1 => tb e1 (fun y e2 => f e2 x y P) R) R
theorem le2 {f : OX} {r : R2} {ta tb : EX} (ho : OpD T r f) {σ : St} {H : Hp} {Q : VK} (h : LE T W (op2 f ta tb) σ H Q) : tOp r (LE T W ta) (LE T W tb) σ H Q := by
  obtain ⟨c, F, ad, e, P, R, rel, q, hq, hx⟩ := h
  refine ⟨c, F, ad, e, _, R, rel, q, fun v H1 F1 ad1 e1 rx x1 p1 rel1 r1 q1 => ?_, hx⟩
  refine ⟨c, F1, ad1, e1, _, R, rel1, q1, fun y H2 F2 ad2 e2 ry x2 p2 rel2 r2 q2 => ?_, hx.mono x1 p1⟩
  exact ho c F2 ad2 e2 σ H2 v y rx ry P Q rel2 (r1.mono x2 p2) r2 q2 (hq.mono (x1.trans x2) (p1.trans p2))
theorem de_op {op : Operator} {r : R2} {f : OX} {a b : Expr} {ta tb : EX} {pos : Pos} (hr : OpR X (binaryOp op) r) (ho : OpD T r f) (ha : DE T X W a ta) (hb : DE T X W b tb) : DE T X W (.BinOp a op b pos) (op2 f ta tb) :=
  ⟨PE.imp (pe_op hr ha.pe hb.pe) fun σ H Q h => le2 ho h⟩
theorem de_cmp {op : CmpOp} {r : R2} {f : OX} {a b : Expr} {ta tb : EX} {pos : Pos} (hr : OpR X (compareOp op) r) (ho : OpD T r f) (ha : DE T X W a ta) (hb : DE T X W b tb) (hm : behindInMarks op b = false := by first | rfl | exact nomark _) :
    DE T X W (.Compare a [op] [b] pos) (op2 f ta tb) := ⟨PE.imp (pe_cmpR hr ha.pe hb.pe hm) fun σ H Q h => le2 ho h⟩
/-- a value that is a bool, as a test -/
def tVal (t : EX) : TX := fun e P R => t e (fun r e1 => ∃ b, r = .val (.bl b) ∧ P b e1) R
theorem lt_val {t : EX} {σ : St} {H : Hp} {Q : Bool → Hp → Prop} (h : LT T W (tVal t) σ H Q) : tTest (LE T W t) σ H Q := by
  obtain ⟨c, F, ad, e, P, R, rel, q, hq, hx⟩ := h
  refine ⟨c, F, ad, e, _, R, rel, q, fun v H1 F1 ad1 e1 r x1 p1 rel1 r1 q1 => ?_, hx⟩
  obtain ⟨b, rfl, q2⟩ := q1
  exact ⟨b, rv_bl r1, hq b H1 F1 ad1 e1 x1 p1 rel1 q2⟩
theorem dt_cmp {op : CmpOp} {r : R2} {f : OX} {a b : Expr} {ta tb : EX} {pos : Pos} (hr : OpR X (compareOp op) r) (ho : OpD T r f) (ha : DE T X W a ta) (hb : DE T X W b tb) (hm : behindInMarks op b = false := by first | rfl | exact nomark _) :
    DT T X W (.Compare a [op] [b] pos) (tVal (op2 f ta tb)) := ⟨PT.imp (pt_cmpR hr ha.pe hb.pe hm) fun σ H Q h => by
  obtain ⟨c, F, ad, e, P, R, rel, q, hq, hx⟩ := h
  refine ⟨c, F, ad, e, _, R, rel, q, fun v H1 F1 ad1 e1 rx x1 p1 rel1 r1 q1 => ?_, hx⟩
  refine ⟨c, F1, ad1, e1, _, R, rel1, q1, fun y H2 F2 ad2 e2 ry x2 p2 rel2 r2 q2 => ?_, hx.mono x1 p1⟩
  refine ho c F2 ad2 e2 σ H2 v y rx ry _ _ rel2 (r1.mono x2 p2) r2 q2 fun z H3 F3 ad3 e3 rz x3 p3 rel3 r3 q3 => ?_
  obtain ⟨b, rfl, q4⟩ := q3
  exact ⟨b, rv_bl r3, hq b H3 F3 ad3 e3 ((x1.trans x2).trans x3) ((p1.trans p2).trans p3) rel3 q4⟩⟩
theorem dt_val {a : Expr} {t : EX} (h : DE T X W a t) (he : ∀ whole, isTrue a X.env whole = (do let v ← whole; standAt a.pos; holding [v] (truthy v)) := by intro _; rfl) : DT T X W a (tVal t) :=
  ⟨PT.imp (pt_val h.pe he) fun σ H Q h => lt_val h⟩

/-! ### and, or, not -/
def tAndX (t u : TX) : TX := fun e P R => t e (fun b e1 => if b = true then u e1 P R else P false e1) R
def tOrX (t u : TX) : TX := fun e P R => t e (fun b e1 => if b = true then P true e1 else u e1 P R) R
def tNotX (t : TX) : TX := fun e P R => t e (fun b e1 => P (!b) e1) R
variable {a b : Expr} {rest : List Expr} {ta tb : TX} {pos : Pos}
theorem DW.dt (h : DW T X W a ta) : DT T X W a ta := ⟨h.pw.pt⟩
theorem dw_and1 (h : DT T X W a ta) : DW T X W (.BoolOp .And [a] pos) ta := ⟨pw_and1 h.pt⟩
theorem dw_or1 (h : DT T X W a ta) : DW T X W (.BoolOp .Or [a] pos) ta := ⟨pw_or1 h.pt⟩
theorem dw_and (h : DT T X W a ta) (g : DW T X W (.BoolOp .And (b :: rest) pos) tb) : DW T X W (.BoolOp .And (a :: b :: rest) pos) (tAndX ta tb) := ⟨PW.imp (pw_and h.pt g.pw) fun σ H Q h => by
  obtain ⟨c, F, ad, e, P, R, rel, q, hq, hx⟩ := h
  refine ⟨c, F, ad, e, _, R, rel, q, fun k H1 F1 ad1 e1 x1 p1 rel1 q1 => ?_, hx⟩
  cases k with
  | true =>
    rw [if_pos rfl] at q1 ⊢
    exact ⟨c, F1, ad1, e1, P, R, rel1, q1, fun k H2 F2 ad2 e2 x2 p2 => hq k H2 F2 ad2 e2 (x1.trans x2) (p1.trans p2), hx.mono x1 p1⟩
  | false => exact hq false H1 F1 ad1 e1 x1 p1 rel1 q1⟩
theorem dw_or (h : DT T X W a ta) (g : DW T X W (.BoolOp .Or (b :: rest) pos) tb) : DW T X W (.BoolOp .Or (a :: b :: rest) pos) (tOrX ta tb) := ⟨PW.imp (pw_or h.pt g.pw) fun σ H Q h => by
  obtain ⟨c, F, ad, e, P, R, rel, q, hq, hx⟩ := h
  refine ⟨c, F, ad, e, _, R, rel, q, fun k H1 F1 ad1 e1 x1 p1 rel1 q1 => ?_, hx⟩
  cases k with
  | true => exact hq true H1 F1 ad1 e1 x1 p1 rel1 q1
  | false => exact ⟨c, F1, ad1, e1, P, R, rel1, q1, fun k H2 F2 ad2 e2 x2 p2 => hq k H2 F2 ad2 e2 (x1.trans x2) (p1.trans p2), hx.mono x1 p1⟩⟩
theorem dt_not (h : DT T X W a ta) : DT T X W (.UnaryOp .Not a pos) (tNotX ta) := ⟨PT.imp (pt_not h.pt) fun σ H Q h => by
  obtain ⟨c, F, ad, e, P, R, rel, q, hq, hx⟩ := h
  exact ⟨c, F, ad, e, _, R, rel, q, fun k H1 F1 ad1 e1 x1 p1 rel1 q1 => hq (!k) H1 F1 ad1 e1 x1 p1 rel1 q1, hx⟩⟩
/-! .. as values, the operands bools -/
def eAnd (t u : EX) : EX := fun e P R => t e (fun r e1 => ∃ k, r = .val (.bl k) ∧ if k = true then u e1 P R else P (.val (.bl false)) e1) R
def eOr (t u : EX) : EX := fun e P R => t e (fun r e1 => ∃ k, r = .val (.bl k) ∧ if k = true then P (.val (.bl true)) e1 else u e1 P R) R
def eNot (t : EX) : EX := fun e P R => t e (fun r e1 => ∃ k, r = .val (.bl k) ∧ P (.val (.bl (!k))) e1) R
variable {xa xb : EX}
theorem de_one {op : BoolOp} (h : DE T X W a xa) : DE T X W (.BoolOp op [a] pos) xa := ⟨pe_one h.pe⟩
theorem de_and (h : DE T X W a xa) (g : DE T X W (.BoolOp .And (b :: rest) pos) xb) : DE T X W (.BoolOp .And (a :: b :: rest) pos) (eAnd xa xb) := ⟨PE.imp (pe_and h.pe g.pe) fun σ H Q h => by
  obtain ⟨c, F, ad, e, P, R, rel, q, hq, hx⟩ := h
  refine ⟨c, F, ad, e, _, R, rel, q, fun v H1 F1 ad1 e1 r x1 p1 rel1 r1 q1 => ?_, hx⟩
  obtain ⟨k, rfl, q2⟩ := q1
  refine ⟨k, rv_bl r1, ?_⟩
  cases k with
  | true =>
    rw [if_pos rfl] at q2 ⊢
    exact ⟨c, F1, ad1, e1, P, R, rel1, q2, hq.mono x1 p1, hx.mono x1 p1⟩
  | false => exact (hq.mono x1 p1).val rel1 (rep_bl.mpr rfl) q2⟩
theorem de_or (h : DE T X W a xa) (g : DE T X W (.BoolOp .Or (b :: rest) pos) xb) : DE T X W (.BoolOp .Or (a :: b :: rest) pos) (eOr xa xb) := ⟨PE.imp (pe_or h.pe g.pe) fun σ H Q h => by
  obtain ⟨c, F, ad, e, P, R, rel, q, hq, hx⟩ := h
  refine ⟨c, F, ad, e, _, R, rel, q, fun v H1 F1 ad1 e1 r x1 p1 rel1 r1 q1 => ?_, hx⟩
  obtain ⟨k, rfl, q2⟩ := q1
  refine ⟨k, rv_bl r1, ?_⟩
  cases k with
  | true =>
    rw [if_pos rfl] at q2 ⊢
    exact (hq.mono x1 p1).val rel1 (rep_bl.mpr rfl) q2
  | false => exact ⟨c, F1, ad1, e1, P, R, rel1, q2, hq.mono x1 p1, hx.mono x1 p1⟩⟩
theorem de_not (h : DE T X W a xa) : DE T X W (.UnaryOp .Not a pos) (eNot xa) := ⟨PE.imp (pe_not h.pe) fun σ H Q h => by
  obtain ⟨c, F, ad, e, P, R, rel, q, hq, hx⟩ := h
  refine ⟨c, F, ad, e, _, R, rel, q, fun v H1 F1 ad1 e1 r x1 p1 rel1 r1 q1 => ?_, hx⟩
  obtain ⟨k, rfl, q2⟩ := q1
  exact ⟨k, rv_bl r1, (hq.mono x1 p1).val rel1 (rep_bl.mpr rfl) q2⟩⟩
def eIf (t : TX) (u w : EX) : EX := fun e P R => t e (fun b e1 => if b = true then u e1 P R else w e1 P R) R
theorem de_if {c' : Expr} (h : DT T X W c' ta) (g : DE T X W a xa) (g2 : DE T X W b xb) : DE T X W (.IfExp c' a b pos) (eIf ta xa xb) := ⟨PE.imp (pe_ifExp h.pt g.pe g2.pe) fun σ H Q h => by
  obtain ⟨c, F, ad, e, P, R, rel, q, hq, hx⟩ := h
  refine ⟨c, F, ad, e, _, R, rel, q, fun k H1 F1 ad1 e1 x1 p1 rel1 q1 => ?_, hx⟩
  cases k with
  | true =>
    rw [if_pos rfl] at q1 ⊢
    exact ⟨c, F1, ad1, e1, P, R, rel1, q1, hq.mono x1 p1, hx.mono x1 p1⟩
  | false => exact ⟨c, F1, ad1, e1, P, R, rel1, q1, hq.mono x1 p1, hx.mono x1 p1⟩⟩
/-- a < b < c -/
def eChain (f g : OX) (ta tb tc : EX) : EX := fun e P R => ta e (fun x e1 => tb e1 (fun y e2 => f e2 x y fun z e3 => ∃ k, z = .val (.bl k) ∧ if k = true then tc e3 (fun w e4 => g e4 y w P) R else P (.val (.bl false)) e3) R) R
theorem le_chain {r r' : R2} {f g : OX} {ta tb tc : EX} (ho : OpD T r f) (ho' : OpD T r' g) {σ : St} {H : Hp} {Q : VK} (h : LE T W (eChain f g ta tb tc) σ H Q) : tChain r r' (LE T W ta) (LE T W tb) (LE T W tc) σ H Q := by
  obtain ⟨c, F, ad, e, P, R, rel, q, hq, hx⟩ := h
  refine ⟨c, F, ad, e, _, R, rel, q, fun v H1 F1 ad1 e1 rx x1 p1 rel1 r1 q1 => ?_, hx⟩
  refine ⟨c, F1, ad1, e1, _, R, rel1, q1, fun y H2 F2 ad2 e2 ry x2 p2 rel2 r2 q2 => ?_, hx.mono x1 p1⟩
  refine ho c F2 ad2 e2 σ H2 v y rx ry _ _ rel2 (r1.mono x2 p2) r2 q2 fun z H3 F3 ad3 e3 rz x3 p3 rel3 r3 q3 => ?_
  obtain ⟨k, rfl, q4⟩ := q3
  refine ⟨k, rv_bl r3, ?_⟩
  have xx := (x1.trans x2).trans x3
  have pp := (p1.trans p2).trans p3
  cases k with
  | true =>
    rw [if_pos rfl] at q4 ⊢
    refine ⟨c, F3, ad3, e3, _, R, rel3, q4, fun w H4 F4 ad4 e4 rw x4 p4 rel4 r4 q5 => ?_, hx.mono xx pp⟩
    exact ho' c F4 ad4 e4 σ H4 y w ry rw P Q rel4 (r2.mono (x3.trans x4) (p3.trans p4)) r4 q5 (hq.mono (xx.trans x4) (pp.trans p4))
  | false => exact (hq.mono xx pp).val rel3 (rep_bl.mpr rfl) q4
theorem de_chain {op op' : CmpOp} {r r' : R2} {f g : OX} {c' : Expr} {xc : EX} (hr : OpR X (compareOp op) r) (ho : OpD T r f) (hr' : OpR X (compareOp op') r') (ho' : OpD T r' g) (ha : DE T X W a xa) (hb : DE T X W b xb) (hc : DE T X W c' xc)
    (hm : lastMarks [op, op'] [b, c'] = false := by with_unfolding_all rfl) : DE T X W (.Compare a [op, op'] [b, c'] pos) (eChain f g xa xb xc) :=
  ⟨PE.imp (pe_chain hr hr' ha.pe hb.pe hc.pe hm) fun σ H Q h => le_chain ho ho' h⟩
theorem LE.mono {t : EX} {σ : St} {H : Hp} {Q Q' : VK} (h : LE T W t σ H Q) (g : ∀ v H', Q v H' → Q' v H') : LE T W t σ H Q' := by
  obtain ⟨c, F, ad, e, P, R, rel, q, hq, hx⟩ := h
  exact ⟨c, F, ad, e, P, R, rel, q, fun v H' F' ad' e' r x p rel' r' q' => g v H' (hq v H' F' ad' e' r x p rel' r' q'), hx⟩
/-- the same as a test -/
theorem dt_chain {op op' : CmpOp} {r r' : R2} {f g : OX} {c' : Expr} {xc : EX} (hr : OpR X (compareOp op) r) (ho : OpD T r f) (hr' : OpR X (compareOp op') r') (ho' : OpD T r' g) (ha : DE T X W a xa) (hb : DE T X W b xb) (hc : DE T X W c' xc)
    (hm : lastMarks [op, op'] [b, c'] = false := by with_unfolding_all rfl) : DT T X W (.Compare a [op, op'] [b, c'] pos) (tVal (eChain f g xa xb xc)) :=
  ⟨PT.imp (pt_chain hr hr' ha.pe hb.pe hc.pe hm) fun σ H Q h => by
    obtain ⟨c, F, ad, e, P, R, rel, q, hq, hx⟩ := h
    refine le_chain (Q := fun x H' => ∃ k, x = .bl k ∧ Q k H') ho ho' ⟨c, F, ad, e, _, R, rel, q, fun v H1 F1 ad1 e1 r x1 p1 rel1 r1 q1 => ?_, hx⟩
    obtain ⟨b, rfl, q2⟩ := q1
    exact ⟨b, rv_bl r1, hq b H1 F1 ad1 e1 x1 p1 rel1 q2⟩⟩
end
end DL
end
section
set_option Elab.async false
set_option linter.all false
set_option autoImplicit false
set_option maxRecDepth 100000
set_option maxHeartbeats 2000000
/-! DLC: operators, comparisons, subscripts, slices, displays, built-ins by data. -/
namespace DL
open PySem PySem.Spec L2

/-- room on the machine's own stack -/
def U (X : Cx) : Prop := X.A.units + 100 < cLine
theorem U.of {X : Cx} {k : Nat} (hr : Room k X.A) : U X := by
  have := hr.un
  unfold U
  omega
theorem u64 {X : Cx} (h : U X) : X.A.units + 64 < cLine := by
  unfold U at h
  omega
theorem u65 {X : Cx} (h : U X) : X.A.units + 65 < cLine := by
  unfold U at h
  omega
/-! ### operands as data -/
def dv (e : Env) : RV → Option D
  | .val d => some d
  | .ob k => match e.ob[k]? with
    | some (.fz d) => some d
    | _ => none
/-- a list whose items are data -/
def lsD (e : Env) : RV → Option (List D)
  | .val (.lst ds) => some ds
  | .ob k => (match e.ob[k]? with
    | some (.fz (.lst ds)) => some ds
    | some (.lst ds) => some ds
    | _ => none)
  | _ => none
def tpD (e : Env) (r : RV) : Option (List D) := match dv e r with
  | some (.tup ds) => some ds
  | _ => none
def sqD (e : Env) (r : RV) : Option (List D) := match lsD e r with
  | some ds => some ds
  | none => tpD e r
/-- all of it as data, as it stands -/
def rd (e : Env) (r : RV) : Option D := match fzR 9 e.ob r with
  | some (d, _) => some d
  | none => none
@[simp] theorem dv_val (e : Env) (d : D) : dv e (.val d) = some d := rfl
@[simp] theorem rd_val (e : Env) (d : D) : rd e (.val d) = some d := by unfold rd; rw [fzR_val]
@[simp] theorem lsD_val (e : Env) (ds : List D) : lsD e (.val (.lst ds)) = some ds := rfl
@[simp] theorem tpD_val (e : Env) (ds : List D) : tpD e (.val (.tup ds)) = some ds := rfl
@[simp] theorem sqD_lst (e : Env) (ds : List D) : sqD e (.val (.lst ds)) = some ds := rfl
@[simp] theorem sqD_tup (e : Env) (ds : List D) : sqD e (.val (.tup ds)) = some ds := rfl
theorem dv_ob {e : Env} {k : Nat} {d : D} (h : e.ob[k]? = some (.fz d)) : dv e (.ob k) = some d := by simp [dv, h]
theorem lsD_ob {e : Env} {k : Nat} {ds : List D} (h : e.ob[k]? = some (.lst ds)) : lsD e (.ob k) = some ds := by simp [lsD, h]
theorem sqD_ob {e : Env} {k : Nat} {ds : List D} (h : e.ob[k]? = some (.lst ds)) : sqD e (.ob k) = some ds := by simp [sqD, lsD_ob h]
theorem rd_ob {e : Env} {k : Nat} {ds : List D} (h : e.ob[k]? = some (.lst ds)) : rd e (.ob k) = some (.lst ds) := by simp [rd, fzR, h]

section
variable {T : Cn} {c : BF} {e : Env} {σ : St} {F H : Hp} {ad : List Addr} {r : RV} {v : V} {d : D} {ds : List D}
theorem dv_ok (R : Rel T c e σ F H ad) (h : RvR T F ad r v) (q : dv e r = some d) : Rep T F d v := by
  cases r with
  | val d' =>
    cases q
    exact h
  | ob k =>
    unfold dv at q
    dsimp only at q
    cases hk : e.ob[k]? with
    | none =>
      rw [hk] at q
      cases q
    | some o =>
      rw [hk] at q
      cases o with
      | fz d' =>
        cases q
        obtain ⟨p, hp, rfl⟩ := h
        exact (R.ob k _ p hk hp).2
      | _ => cases q
theorem lsD_ok (R : Rel T c e σ F H ad) (h : RvR T F ad r v) (q : lsD e r = some ds) : ∃ a vs, v = .ref a ∧ Rd H a (.lst vs) ∧ RepL T F ds vs := by
  have fin : Rep T F (.lst ds) v → ∃ a vs, v = .ref a ∧ Rd H a (.lst vs) ∧ RepL T F ds vs := fun z => by
    obtain ⟨a, vs, rfl, h1, h2⟩ := rep_lst.mp z
    exact ⟨a, vs, rfl, R.fh.rd h1, h2⟩
  cases r with
  | val d' =>
    cases d' with
    | lst es =>
      cases q
      exact fin h
    | _ => cases q
  | ob k =>
    unfold lsD at q
    dsimp only at q
    cases hk : e.ob[k]? with
    | none =>
      rw [hk] at q
      cases q
    | some o =>
      rw [hk] at q
      obtain ⟨p, hp, rfl⟩ := h
      have ho := R.ob k _ p hk hp
      cases o with
      | fz d' =>
        cases d' with
        | lst es =>
          cases q
          exact fin ho.2
        | _ => cases q
      | lst es =>
        cases q
        obtain ⟨_, _, vs, h1, h2⟩ := ho
        exact ⟨p, vs, rfl, .inl h1, h2⟩
      | _ => cases q
theorem tpD_ok (R : Rel T c e σ F H ad) (h : RvR T F ad r v) (q : tpD e r = some ds) : ∃ a vs, v = .ref a ∧ SqT T.K F a vs ∧ RepL T F ds vs := by
  unfold tpD at q
  cases hd : dv e r with
  | none =>
    rw [hd] at q
    cases q
  | some d' =>
    rw [hd] at q
    cases d' with
    | tup es =>
      cases q
      exact rep_tup.mp (dv_ok R h hd)
    | _ => cases q
theorem sqD_ok (R : Rel T c e σ F H ad) (h : RvR T F ad r v) (q : sqD e r = some ds) : ∃ a vs, v = .ref a ∧ (SqL T.K H a vs ∨ SqT T.K H a vs) ∧ RepL T F ds vs := by
  unfold sqD at q
  cases hl : lsD e r with
  | some es =>
    rw [hl] at q
    cases q
    obtain ⟨a, vs, rfl, h1, h2⟩ := lsD_ok R h hl
    exact ⟨a, vs, rfl, .inl (.inl h1), h2⟩
  | none =>
    rw [hl] at q
    obtain ⟨a, vs, rfl, h1, h2⟩ := tpD_ok R h q
    exact ⟨a, vs, rfl, .inr (R.fh.sqt h1), h2⟩
theorem rd_ok (R : Rel T c e σ F H ad) (h : RvR T F ad r v) (q : rd e r = some d) : ∃ F', Ex F F' ∧ Ex F' H ∧ Rep T F' d v := by
  unfold rd at q
  cases hz : fzR 9 e.ob r with
  | none =>
    rw [hz] at q
    cases q
  | some x =>
    obtain ⟨d', ob'⟩ := x
    rw [hz] at q
    cases q
    obtain ⟨F', x1, R1, g⟩ := fzR_ok 9 (sl := e.sl) (ob := e.ob) R hz
    exact ⟨F', x1, R1.fh, g v h⟩
end

/-! ### numbers -/
section
variable {T : Cn} {X : Cx} {W : WX} {a b : Expr} {ta tb : EX} {pos : Pos}
/-- two ints to data -/
def ix2 (C : Int → Int → Prop) (g : Int → Int → D) : OX := fun e x y P => ∃ i j, dv e x = some (.int i) ∧ dv e y = some (.int j) ∧ C i j ∧ P (.val (g i j)) e
theorem ad_ix {C : Int → Int → Prop} {g : Int → Int → D} {g' : Int → Int → V} (hg : ∀ i j F, Rep T F (g i j) (g' i j)) : OpD T (rI C g') (ix2 C g) := by
  intro c F ad e σ H x y rx ry P Q rel r1 r2 h q
  obtain ⟨i, j, h1, h2, hc, hp⟩ := h
  exact ⟨i, j, rep_int.mp (dv_ok rel r1 h1), rep_int.mp (dv_ok rel r2 h2), hc, q.val rel (hg i j F) hp⟩
theorem ad_ix0 {g : Int → Int → D} {g' : Int → Int → V} (hg : ∀ i j F, Rep T F (g i j) (g' i j)) : OpD T (rI0 g') (ix2 (fun _ _ => True) g) := by
  intro c F ad e σ H x y rx ry P Q rel r1 r2 h q
  obtain ⟨i, j, h1, h2, hc, hp⟩ := h
  exact ⟨i, j, rep_int.mp (dv_ok rel r1 h1), rep_int.mp (dv_ok rel r2 h2), q.val rel (hg i j F) hp⟩
def subX : OX := ix2 (fun _ _ => True) fun i j => .int (i - j)
theorem de_sub (ha : DE T X W a ta) (hb : DE T X W b tb) : DE T X W (.BinOp a .Sub b pos) (op2 subX ta tb) := de_op op_sub (ad_ix0 fun _ _ _ => rep_int.mpr rfl) ha hb
def powX : OX := ix2 CPow fun i j => .int (i ^ j.toNat)
theorem de_pow (ha : DE T X W a ta) (hb : DE T X W b tb) : DE T X W (.BinOp a .Pow b pos) (op2 powX ta tb) := de_op op_pow (ad_ix fun _ _ _ => rep_int.mpr rfl) ha hb
def modX : OX := ix2 (fun _ j => 0 < j) fun i j => .int (i % j)
theorem de_mod (ha : DE T X W a ta) (hb : DE T X W b tb) : DE T X W (.BinOp a .Mod b pos) (op2 modX ta tb) := de_op op_mod (ad_ix fun _ _ _ => rep_int.mpr rfl) ha hb
def fdivX : OX := ix2 CDiv fun i j => .int (i / j)
theorem de_fdiv (ha : DE T X W a ta) (hb : DE T X W b tb) : DE T X W (.BinOp a .FloorDiv b pos) (op2 fdivX ta tb) := de_op op_fdiv (ad_ix fun _ _ _ => rep_int.mpr rfl) ha hb
def imulX : OX := ix2 CMul fun i j => .int (i * j)
theorem de_imul (ha : DE T X W a ta) (hb : DE T X W b tb) : DE T X W (.BinOp a .Mult b pos) (op2 imulX ta tb) := de_op op_mul (ad_ix fun _ _ _ => rep_int.mpr rfl) ha hb
def iltX : OX := ix2 (fun _ _ => True) fun i j => .bl (decide (i < j))
def ileX : OX := ix2 (fun _ _ => True) fun i j => .bl (decide (i ≤ j))
def igtX : OX := ix2 (fun _ _ => True) fun i j => .bl (decide (j < i))
def igeX : OX := ix2 (fun _ _ => True) fun i j => .bl (decide (j ≤ i))
theorem ad_lt : OpD T (rI0 fun i j => .bl (decide (i < j))) iltX := ad_ix0 fun _ _ _ => rep_bl.mpr rfl
theorem ad_le : OpD T (rI0 fun i j => .bl (decide (i ≤ j))) ileX := ad_ix0 fun _ _ _ => rep_bl.mpr rfl
theorem ad_gt : OpD T (rI0 fun i j => .bl (decide (j < i))) igtX := ad_ix0 fun _ _ _ => rep_bl.mpr rfl
theorem ad_ge : OpD T (rI0 fun i j => .bl (decide (j ≤ i))) igeX := ad_ix0 fun _ _ _ => rep_bl.mpr rfl

/-! ### + of numbers, texts, lists, tuples -/
def addX : OX := fun e x y P => (∃ i j, dv e x = some (.int i) ∧ dv e y = some (.int j) ∧ P (.val (.int (i + j))) e) ∨
  (∃ i j, dv e x = some (.str i) ∧ dv e y = some (.str j) ∧ i.length + j.length ≤ sizeLine ∧ P (.val (.str (i ++ j))) e) ∨
  (∃ i j, lsD e x = some i ∧ lsD e y = some j ∧ i.length + j.length ≤ sizeLine ∧ P (.ob e.ob.length) { e with ob := e.ob ++ [.lst (i ++ j)] }) ∨
  (∃ i j, tpD e x = some i ∧ tpD e y = some j ∧ i.length + j.length ≤ sizeLine ∧ P (.val (.tup (i ++ j))) e)
/-- list + list, whoever may write them -/
def rCatR : R2 := fun x y H Q => ∃ l b xs zs, x = .ref l ∧ y = .ref b ∧ Rd H l (.lst xs) ∧ Rd H b (.lst zs) ∧ xs.length + zs.length ≤ sizeLine ∧ ∀ p, H p = none → Q (.ref p) (upd H p (.lst (xs ++ zs)))
theorem op_catR : OpR X (binaryOp .Add) rCatR := by
  intro pins s σ H x y v u Q I rx ry h
  obtain ⟨l, b, xs, zs, rfl, rfl, hH, hB, hz, q⟩ := h
  cases rx
  cases ry
  obtain ⟨_, its, n, r, e1⟩ := hH.ok I.hok
  obtain ⟨_, its2, n2, r2, e2⟩ := hB.ok I.hok
  have l1 := r.length
  have l2 := r2.length
  refine PySem.P.add_list e1 e2 ?_ (by rw [List.size_toArray, List.size_toArray]; omega)
  rw [show its.toArray ++ its2.toArray = (its ++ its2).toArray by simp]
  exact ⟨.ref _, _, I.lnew (t' := s.toks) (r.append r2) (by rw [List.length_append]; omega), rfl, q _ I.fresh⟩
abbrev rAddD (K : PySem.W.Frag) : R2 := fun x y H Q => (rI0 (fun i j => .int (i + j))) x y H Q ∨ (fun x y H Q => (fun x y H Q => ∃ i j, x = .str i ∧ y = .str j ∧ i.length + j.length ≤ sizeLine ∧ Q (.str (i ++ j)) H : R2) x y H Q ∨
  (fun x y H Q => rCatR x y H Q ∨ rCatA K x y H Q : R2) x y H Q : R2) x y H Q
theorem op_addD : OpR X (binaryOp .Add) (rAddD X.K) := OpR.or op_add (OpR.or op_add_str (OpR.or op_catR op_catA))
theorem S_app (i j : List Nat) : S i ++ S j = S (i ++ j) := by
  show (⟨i.toArray ++ j.toArray⟩ : Str) = ⟨(i ++ j).toArray⟩
  simp
theorem ad_add {K : PySem.W.Frag} (hK : K = T.K) : OpD T (rAddD K) addX := by
  subst hK
  intro c F ad e σ H x y rx ry P Q rel r1 r2 h q
  rcases h with ⟨i, j, h1, h2, hp⟩ | ⟨i, j, h1, h2, hl, hp⟩ | ⟨i, j, h1, h2, hl, hp⟩ | ⟨i, j, h1, h2, hl, hp⟩
  · exact .inl ⟨i, j, rep_int.mp (dv_ok rel r1 h1), rep_int.mp (dv_ok rel r2 h2), q.val rel (rep_int.mpr rfl) hp⟩
  · refine .inr (.inl ⟨S i, S j, rep_str.mp (dv_ok rel r1 h1), rep_str.mp (dv_ok rel r2 h2), by rw [S_len, S_len]; exact hl, q.val rel (rep_str.mpr ?_) hp⟩)
    rw [S_app]
  · obtain ⟨a, vs, rfl, g1, g2⟩ := lsD_ok rel r1 h1
    obtain ⟨b, ws, rfl, k1, k2⟩ := lsD_ok rel r2 h2
    refine .inr (.inr (.inl ⟨a, b, vs, ws, rfl, rfl, g1, k1, by rw [g2.len, k2.len]; exact hl, fun p hp' => ?_⟩))
    exact q.new (o := .lst (i ++ j)) rel hp' (fun fp bp => ⟨fp, bp, _, upd_same, g2.append k2⟩) hp
  · obtain ⟨a, vs, rfl, g1, g2⟩ := tpD_ok rel r1 h1
    obtain ⟨b, ws, rfl, k1, k2⟩ := tpD_ok rel r2 h2
    refine .inr (.inr (.inr ⟨a, b, vs, ws, rfl, rfl, rel.fh.sqt g1, rel.fh.sqt k1, by rw [g2.len, k2.len]; exact hl, fun h0 => ?_, fun h0 h00 => ?_, fun h0 h00 p hp' => ?_⟩))
    · subst h0
      have hi : i = [] := List.eq_nil_of_length_eq_zero (by rw [← g2.len]; rfl)
      subst hi
      exact q.val rel (rep_tup.mpr ⟨b, ws, rfl, k1, k2⟩) hp
    · subst h00
      have hj : j = [] := List.eq_nil_of_length_eq_zero (by rw [← k2.len]; rfl)
      subst hj
      rw [List.append_nil] at hp
      exact q.val rel (rep_tup.mpr ⟨a, vs, rfl, g1, g2⟩) hp
    · refine q.laid rel hp' (fun x1 => ?_) hp
      exact rep_tup.mpr ⟨p, _, rfl, .inl (.inl upd_same), (g2.mono x1).append (k2.mono x1)⟩
theorem de_add (ha : DE T X W a ta) (hb : DE T X W b tb) (hK : X.K = T.K := by rfl) : DE T X W (.BinOp a .Add b pos) (op2 addX ta tb) := de_op op_addD (ad_add hK) ha hb
/-! * of a list and a number -/
def lmulX : OX := fun e x y P => ∃ i j, lsD e x = some i ∧ dv e y = some (.int j) ∧ -(2 ^ 63) ≤ j ∧ j < 2 ^ 63 ∧ i.length * j.toNat ≤ sizeLine ∧ P (.ob e.ob.length) { e with ob := e.ob ++ [.lst (List.replicate j.toNat i).flatten] }
end

/-! ### equality of data -/
mutual
def D.py : D → PyData
  | .non => .none
  | .bl b => .bool b
  | .int i => .int i
  | .str s => .str (S s)
  | .lst xs => .list (pyL xs)
  | .tup xs => .tuple (pyL xs)
  | _ => .none
def pyL : List D → List PyData
  | [] => []
  | d :: ds => d.py :: pyL ds
end
/-- data of this depth at most, without dicts and instances, its texts of signs that are ones -/
def Lay : Nat → D → Prop
  | _, .non => True
  | _, .bl _ => True
  | _, .int _ => True
  | _, .str s => ∀ c ∈ s, c < 1114112
  | n + 1, .lst xs => ∀ d ∈ xs, Lay n d
  | n + 1, .tup xs => ∀ d ∈ xs, Lay n d
  | _, _ => False
theorem strOk_S {s : List Nat} (h : ∀ c ∈ s, c < 1114112) : PyData.strOk (S s) = true := by
  show (s.toArray.all fun c => decide (c < 0x110000)) = true
  rw [Array.all_eq_true]
  intro i hi
  have h2 : s.toArray[i] ∈ s := by simp
  exact decide_eq_true (h _ h2)
theorem pyL_mem {ds : List D} {p : PyData} : p ∈ pyL ds → ∃ d ∈ ds, d.py = p := by
  induction ds with
  | nil =>
    intro h
    rw [pyL] at h
    cases h
  | cons d ds ih =>
    intro h
    rw [pyL] at h
    rcases List.mem_cons.mp h with h | h
    · exact ⟨d, List.mem_cons_self .., h.symm⟩
    · obtain ⟨x, hx, e⟩ := ih h
      exact ⟨x, List.mem_cons_of_mem _ hx, e⟩
theorem layAll_of {l : List PyData} (h : ∀ p ∈ l, p.canLay0 = true) : PyData.canLayAll0 l = true := by
  induction l with
  | nil => rfl
  | cons p l ih =>
    show (p.canLay0 && PyData.canLayAll0 l) = true
    rw [h p (List.mem_cons_self ..), ih fun q hq => h q (List.mem_cons_of_mem _ hq)]
    rfl
theorem depthAll_of {n : Nat} {l : List PyData} (h : ∀ p ∈ l, p.depth ≤ n) : PyData.depthAll l ≤ n := by
  induction l with
  | nil =>
    rw [PyData.depthAll]
    exact Nat.zero_le _
  | cons p l ih =>
    rw [PyData.depthAll]
    exact Nat.max_le.mpr ⟨h p (List.mem_cons_self ..), ih fun q hq => h q (List.mem_cons_of_mem _ hq)⟩
theorem lay_py : ∀ {n : Nat} {d : D}, Lay n d → d.py.canLay0 = true ∧ d.py.depth ≤ n
  | n, .non, _ => ⟨by rw [D.py, PyData.canLay0], by rw [D.py, PyData.depth]; exact Nat.zero_le _⟩
  | n, .bl b, _ => ⟨by rw [D.py, PyData.canLay0], by rw [D.py, PyData.depth]; exact Nat.zero_le _⟩
  | n, .int i, _ => ⟨by rw [D.py, PyData.canLay0], by rw [D.py, PyData.depth]; exact Nat.zero_le _⟩
  | n, .str s, h => ⟨by
      have h' : ∀ c ∈ s, c < 1114112 := by cases n <;> simpa [Lay] using h
      rw [D.py, PyData.canLay0]
      exact strOk_S h', by rw [D.py, PyData.depth]; exact Nat.zero_le _⟩
  | n + 1, .lst xs, h => by
    have h' : ∀ d ∈ xs, Lay n d := by simpa [Lay] using h
    have g : ∀ p ∈ pyL xs, p.canLay0 = true ∧ p.depth ≤ n := fun p hp => by
      obtain ⟨d, hd, rfl⟩ := pyL_mem hp
      exact lay_py (h' d hd)
    refine ⟨?_, ?_⟩
    · rw [D.py, PyData.canLay0]
      exact layAll_of fun p hp => (g p hp).1
    · rw [D.py, PyData.depth]
      exact Nat.succ_le_succ (depthAll_of fun p hp => (g p hp).2)
  | n + 1, .tup xs, h => by
    have h' : ∀ d ∈ xs, Lay n d := by simpa [Lay] using h
    have g : ∀ p ∈ pyL xs, p.canLay0 = true ∧ p.depth ≤ n := fun p hp => by
      obtain ⟨d, hd, rfl⟩ := pyL_mem hp
      exact lay_py (h' d hd)
    refine ⟨?_, ?_⟩
    · rw [D.py, PyData.canLay0]
      exact layAll_of fun p hp => (g p hp).1
    · rw [D.py, PyData.depth]
      exact Nat.succ_le_succ (depthAll_of fun p hp => (g p hp).2)
  | 0, .lst xs, h => by simp [Lay] at h
  | 0, .tup xs, h => by simp [Lay] at h
  | n, .dic _, h => by cases n <;> simp [Lay] at h
  | n, .ins _ _, h => by cases n <;> simp [Lay] at h
  | n, .glo _, h => by cases n <;> simp [Lay] at h
  | n, .exn _ _ _ _, h => by cases n <;> simp [Lay] at h
theorem lay_shaped {n : Nat} {d : D} (h : Lay n d) (hn : n ≤ 64) : SeqAt.shaped d.py = true := by
  obtain ⟨h1, h2⟩ := lay_py h
  unfold SeqAt.shaped
  rw [h1, decide_eq_true (Nat.le_trans h2 hn)]
  rfl
section
variable {T : Cn} {F H : Hp}
theorem dp_of : ∀ {n : Nat} {d : D} {v : V}, Lay n d → Rep T F d v → Ex F H → Dp T.K H v d.py
  | n, .non, v, _, h, _ => by rw [rep_non.mp h, D.py]; exact .non
  | n, .bl b, v, _, h, _ => by rw [rep_bl.mp h, D.py]; exact .bl b
  | n, .int i, v, _, h, _ => by rw [rep_int.mp h, D.py]; exact .int i
  | n, .str s, v, _, h, _ => by rw [rep_str.mp h, D.py]; exact .str _
  | n + 1, .lst xs, v, l, h, x => by
    have l' : ∀ d ∈ xs, Lay n d := by simpa [Lay] using l
    obtain ⟨a, vs, rfl, h1, h2⟩ := rep_lst.mp h
    rw [D.py]
    refine .lst (.inl (x.rd h1)) ?_
    clear l h h1
    induction xs generalizing vs with
    | nil =>
      rw [repL_nil.mp h2, pyL]
      exact .nil
    | cons d ds ih =>
      obtain ⟨v, r, rfl, g1, g2⟩ := repL_cons.mp h2
      rw [pyL]
      exact .cons (dp_of (l' d (List.mem_cons_self ..)) g1 x) (ih (fun d' hd => l' d' (List.mem_cons_of_mem _ hd)) r g2)
  | n + 1, .tup xs, v, l, h, x => by
    have l' : ∀ d ∈ xs, Lay n d := by simpa [Lay] using l
    obtain ⟨a, vs, rfl, h1, h2⟩ := rep_tup.mp h
    rw [D.py]
    refine .tup (x.sqt h1) ?_
    clear l h h1
    induction xs generalizing vs with
    | nil =>
      rw [repL_nil.mp h2, pyL]
      exact .nil
    | cons d ds ih =>
      obtain ⟨v, r, rfl, g1, g2⟩ := repL_cons.mp h2
      rw [pyL]
      exact .cons (dp_of (l' d (List.mem_cons_self ..)) g1 x) (ih (fun d' hd => l' d' (List.mem_cons_of_mem _ hd)) r g2)
  | 0, .lst xs, _, l, _, _ => by simp [Lay] at l
  | 0, .tup xs, _, l, _, _ => by simp [Lay] at l
  | n, .dic _, _, l, _, _ => by cases n <;> simp [Lay] at l
  | n, .ins _ _, _, l, _, _ => by cases n <;> simp [Lay] at l
  | n, .glo _, _, l, _, _ => by cases n <;> simp [Lay] at l
  | n, .exn _ _ _ _, _, l, _, _ => by cases n <;> simp [Lay] at l
end
/-- Python's == of data -/
def eqv (a b : D) : Bool := PyData.eqv a.py b.py
section
variable {T : Cn} {X : Cx} {W : WX} {a b : Expr} {ta tb : EX} {pos : Pos}
def eqX (neg : Bool) : OX := fun e x y P => (∃ i j, rd e x = some i ∧ rd e y = some j ∧ Lay 60 i ∧ Lay 60 j ∧ P (.val (.bl (if neg then !eqv i j else eqv i j))) e) ∨
  (∃ i j, dv e x = some (.str i) ∧ dv e y = some (.str j) ∧ P (.val (.bl (if neg then !decide (i = j) else decide (i = j)))) e)
theorem dec_S (i j : List Nat) : decide (V.str (S i) = V.str (S j)) = decide (i = j) := by
  rw [Bool.eq_iff_iff, decide_eq_true_eq, decide_eq_true_eq]
  exact ⟨fun h => S_inj (V.str.inj h), fun h => by rw [h]⟩
theorem ad_eq {K : PySem.W.Frag} (hK : K = T.K) : OpD T (fun x y H Q => rEqD K x y H Q ∨ rEq x y H Q) (eqX false) := by
  subst hK
  intro c F ad e σ H x y rx ry P Q rel r1 r2 h q
  rcases h with ⟨i, j, h1, h2, l1, l2, hp⟩ | ⟨i, j, h1, h2, hp⟩
  · obtain ⟨F1, _, x1, g1⟩ := rd_ok rel r1 h1
    obtain ⟨F2, _, x2, g2⟩ := rd_ok rel r2 h2
    exact .inl ⟨i.py, j.py, dp_of l1 g1 x1, dp_of l2 g2 x2, lay_shaped l1 (by decide), lay_shaped l2 (by decide), q.val rel (rep_bl.mpr rfl) hp⟩
  · obtain rfl := rep_str.mp (dv_ok rel r1 h1)
    obtain rfl := rep_str.mp (dv_ok rel r2 h2)
    exact .inr ⟨rfl, by rw [dec_S]; exact q.val rel (rep_bl.mpr rfl) hp⟩
theorem ad_ne {K : PySem.W.Frag} (hK : K = T.K) : OpD T (fun x y H Q => rNeD K x y H Q ∨ rNe x y H Q) (eqX true) := by
  subst hK
  intro c F ad e σ H x y rx ry P Q rel r1 r2 h q
  rcases h with ⟨i, j, h1, h2, l1, l2, hp⟩ | ⟨i, j, h1, h2, hp⟩
  · obtain ⟨F1, _, x1, g1⟩ := rd_ok rel r1 h1
    obtain ⟨F2, _, x2, g2⟩ := rd_ok rel r2 h2
    exact .inl ⟨i.py, j.py, dp_of l1 g1 x1, dp_of l2 g2 x2, lay_shaped l1 (by decide), lay_shaped l2 (by decide), q.val rel (rep_bl.mpr rfl) hp⟩
  · obtain rfl := rep_str.mp (dv_ok rel r1 h1)
    obtain rfl := rep_str.mp (dv_ok rel r2 h2)
    exact .inr ⟨rfl, by rw [dec_S]; exact q.val rel (rep_bl.mpr rfl) hp⟩
theorem de_eq (hu : U X) (ha : DE T X W a ta) (hb : DE T X W b tb) (hK : X.K = T.K := by rfl) : DE T X W (.Compare a [.Eq] [b] pos) (op2 (eqX false) ta tb) := de_cmp (OpR.or (op_eqD (u64 hu)) op_eq) (ad_eq hK) ha hb
theorem de_ne (hu : U X) (ha : DE T X W a ta) (hb : DE T X W b tb) (hK : X.K = T.K := by rfl) : DE T X W (.Compare a [.NotEq] [b] pos) (op2 (eqX true) ta tb) := de_cmp (OpR.or (op_neD (u64 hu)) op_ne) (ad_ne hK) ha hb
theorem dt_eq (hu : U X) (ha : DE T X W a ta) (hb : DE T X W b tb) (hK : X.K = T.K := by rfl) : DT T X W (.Compare a [.Eq] [b] pos) (tVal (op2 (eqX false) ta tb)) := dt_cmp (OpR.or (op_eqD (u64 hu)) op_eq) (ad_eq hK) ha hb
theorem dt_ne (hu : U X) (ha : DE T X W a ta) (hb : DE T X W b tb) (hK : X.K = T.K := by rfl) : DT T X W (.Compare a [.NotEq] [b] pos) (tVal (op2 (eqX true) ta tb)) := dt_cmp (OpR.or (op_neD (u64 hu)) op_ne) (ad_ne hK) ha hb
end
end DL
end
section
set_option Elab.async false
set_option linter.all false
set_option autoImplicit false
set_option maxRecDepth 100000
set_option maxHeartbeats 2000000
/-! DLD: in, is, subscripts, slices, displays, arguments, built-in functions and methods by data. -/
namespace DL
open PySem PySem.Spec L2
section
variable {T : Cn} {X : Cx} {W : WX} {a b : Expr} {ta tb : EX} {pos : Pos}
/-! ### is None -/
def D.isN : D → Bool
  | .non => true
  | _ => false
def isNX (neg : Bool) (ta : EX) : EX := fun e P R => ta e (fun r e1 => ∃ d, dv e1 r = some d ∧ P (.val (.bl (if neg then !d.isN else d.isN))) e1) R
theorem non_iff {F : Hp} {d : D} {v : V} (h : Rep T F d v) : decide (v = .non) = d.isN := by
  cases d with
  | non => rw [rep_non.mp h]; rfl
  | bl b => rw [rep_bl.mp h]; rfl
  | int i => rw [rep_int.mp h]; rfl
  | str s => rw [rep_str.mp h]; rfl
  | lst xs => obtain ⟨a, vs, rfl, _⟩ := rep_lst.mp h; rfl
  | tup xs => obtain ⟨a, vs, rfl, _⟩ := rep_tup.mp h; rfl
  | dic kvs => obtain ⟨a, rfl, _⟩ := rep_dic.mp h; rfl
  | ins c fs => obtain ⟨a, C, dx, gs, rfl, _⟩ := rep_ins.mp h; rfl
  | glo x => obtain ⟨a, rfl, _⟩ := rep_glo.mp h; rfl
  | exn a dd c fs => obtain ⟨rfl, _⟩ := rep_exn.mp h; rfl
theorem de_isN {j : Nat} {p2 : Pos} (ha : DE T X W a ta) : DE T X W (.Compare a [.Is] [.Constant .none j p2] pos) (isNX false ta) := ⟨PE.imp (pe_cmp (pc_isN ha.pe) rfl) fun σ H Q h => by
  obtain ⟨c, F, ad, e, P, R, rel, q, hq, hx⟩ := h
  refine ⟨c, F, ad, e, _, R, rel, q, fun v H1 F1 ad1 e1 r x1 p1 rel1 r1 q1 => ?_, hx⟩
  obtain ⟨d, hd, q2⟩ := q1
  rw [non_iff (dv_ok rel1 r1 hd)]
  exact (hq.mono x1 p1).val rel1 (rep_bl.mpr rfl) q2⟩
theorem de_notN {j : Nat} {p2 : Pos} (ha : DE T X W a ta) : DE T X W (.Compare a [.IsNot] [.Constant .none j p2] pos) (isNX true ta) := ⟨PE.imp (pe_cmp (pc_notN ha.pe) rfl) fun σ H Q h => by
  obtain ⟨c, F, ad, e, P, R, rel, q, hq, hx⟩ := h
  refine ⟨c, F, ad, e, _, R, rel, q, fun v H1 F1 ad1 e1 r x1 p1 rel1 r1 q1 => ?_, hx⟩
  obtain ⟨d, hd, q2⟩ := q1
  rw [non_iff (dv_ok rel1 r1 hd)]
  exact (hq.mono x1 p1).val rel1 (rep_bl.mpr rfl) q2⟩
theorem dt_isN {j : Nat} {p2 : Pos} (ha : DE T X W a ta) : DT T X W (.Compare a [.Is] [.Constant .none j p2] pos) (tVal (isNX false ta)) := ⟨PT.imp (pt_cmp (pc_isN ha.pe) rfl) fun σ H Q h => by
  obtain ⟨c, F, ad, e, P, R, rel, q, hq, hx⟩ := h
  refine ⟨c, F, ad, e, _, R, rel, q, fun v H1 F1 ad1 e1 r x1 p1 rel1 r1 q1 => ?_, hx⟩
  obtain ⟨d, hd, k, ek, q2⟩ := q1
  refine ⟨_, rfl, ?_⟩
  rw [non_iff (dv_ok rel1 r1 hd)]
  have e2 : D.bl d.isN = D.bl k := RV.val.inj ek
  rw [D.bl.inj e2]
  exact hq k H1 F1 ad1 e1 x1 p1 rel1 q2⟩
theorem dt_notN {j : Nat} {p2 : Pos} (ha : DE T X W a ta) : DT T X W (.Compare a [.IsNot] [.Constant .none j p2] pos) (tVal (isNX true ta)) := ⟨PT.imp (pt_cmp (pc_notN ha.pe) rfl) fun σ H Q h => by
  obtain ⟨c, F, ad, e, P, R, rel, q, hq, hx⟩ := h
  refine ⟨c, F, ad, e, _, R, rel, q, fun v H1 F1 ad1 e1 r x1 p1 rel1 r1 q1 => ?_, hx⟩
  obtain ⟨d, hd, k, ek, q2⟩ := q1
  refine ⟨_, rfl, ?_⟩
  rw [non_iff (dv_ok rel1 r1 hd)]
  have e2 : D.bl (!d.isN) = D.bl k := RV.val.inj ek
  rw [D.bl.inj e2]
  exact hq k H1 F1 ad1 e1 x1 p1 rel1 q2⟩

/-! ### in -/
def items : D → Option (List D)
  | .lst xs => some xs
  | .tup xs => some xs
  | _ => none
def inX (neg : Bool) : OX := fun e x y P => (∃ c z, dv e x = some (.str [c]) ∧ dv e y = some (.str z) ∧ P (.val (.bl (if neg then !decide (c ∈ z) else decide (c ∈ z)))) e) ∨
  (∃ i d js, rd e x = some i ∧ rd e y = some d ∧ items d = some js ∧ Lay 59 i ∧ (∀ j ∈ js, Lay 59 j) ∧ P (.val (.bl (if neg then !js.any (fun z => eqv z i) else js.any (fun z => eqv z i)))) e)
def rInTD (K : PySem.W.Frag) (neg : Bool) : R2 := fun x y H Q => ∃ d ds, Dp K H x d ∧ Dp K H y (.tuple ds) ∧ SeqAt.shaped d = true ∧ SeqAt.shaped (.tuple ds) = true ∧ Q (.bl (if neg then !ds.any (fun z => PyData.eqv z d) else ds.any (fun z => PyData.eqv z d))) H
theorem room_in {A : Around} {d : PyData} {ds : List PyData} (h : SeqAt.shaped d = true) (hu : A.units + 65 < cLine) : A.units + 1 + min (PyData.depthAll ds) d.depth < cLine := by
  have h1 := SeqAt.depth_of_shaped h
  have h2 : min (PyData.depthAll ds) d.depth ≤ d.depth := Nat.min_le_right _ _
  omega
theorem op_inTD (hu : X.A.units + 65 < cLine) : OpR X (compareOp .In) (rInTD X.K false) := by
  intro pins s σ H x y v u Q I rx ry h
  obtain ⟨d, ds, hd, he, sd, se, q⟩ := h
  obtain ⟨as, r1⟩ := Dp.reads I d x v hd rx
  obtain ⟨bs, r2⟩ := Dp.reads I (.tuple ds) y u he ry
  exact SeqAt.in_tuple_reads r2 r1 (SeqAt.canLay_of_shaped se) (SeqAt.canLay_of_shaped sd) (room_in sd hu) ⟨.bl _, H, I, rfl, q⟩
theorem op_notInTD (hu : X.A.units + 65 < cLine) : OpR X (compareOp .NotIn) (rInTD X.K true) := by
  intro pins s σ H x y v u Q I rx ry h
  obtain ⟨d, ds, hd, he, sd, se, q⟩ := h
  obtain ⟨as, r1⟩ := Dp.reads I d x v hd rx
  obtain ⟨bs, r2⟩ := Dp.reads I (.tuple ds) y u he ry
  exact SeqAt.notIn_tuple_reads r2 r1 (SeqAt.canLay_of_shaped se) (SeqAt.canLay_of_shaped sd) (room_in sd hu) ⟨.bl _, H, I, rfl, q⟩
abbrev rInA (K : PySem.W.Frag) : R2 := fun x y H Q => (fun x y H Q => ∃ (c : Nat) (z : Str), x = .str ⟨#[c]⟩ ∧ y = .str z ∧ Q (.bl (decide (c ∈ z.cps.toList))) H : R2) x y H Q ∨ (fun x y H Q => rInD K x y H Q ∨ rInTD K false x y H Q : R2) x y H Q
abbrev rNinA (K : PySem.W.Frag) : R2 := fun x y H Q => (fun x y H Q => ∃ (c : Nat) (z : Str), x = .str ⟨#[c]⟩ ∧ y = .str z ∧ Q (.bl (!decide (c ∈ z.cps.toList))) H : R2) x y H Q ∨ (fun x y H Q => rNotInD K x y H Q ∨ rInTD K true x y H Q : R2) x y H Q
theorem op_inA (hu : U X) : OpR X (compareOp .In) (rInA X.K) := OpR.or op_in_sign (OpR.or (op_inD (u65 hu)) (op_inTD (u65 hu)))
theorem op_ninA (hu : U X) : OpR X (compareOp .NotIn) (rNinA X.K) := OpR.or op_notIn_sign (OpR.or (op_notInD (u65 hu)) (op_notInTD (u65 hu)))
theorem pyL_any (js : List D) (i : D) : ((pyL js).any fun z => PyData.eqv z i.py) = js.any fun z => eqv z i := by
  induction js with
  | nil => rw [pyL]; rfl
  | cons d ds ih =>
    rw [pyL, List.any_cons, List.any_cons, ih]
    rfl
theorem lay_lst {n : Nat} {js : List D} (h : ∀ j ∈ js, Lay n j) : Lay (n + 1) (.lst js) := by unfold Lay; exact h
theorem lay_tup {n : Nat} {js : List D} (h : ∀ j ∈ js, Lay n j) : Lay (n + 1) (.tup js) := by unfold Lay; exact h
theorem ad_in {K : PySem.W.Frag} (hK : K = T.K) : OpD T (rInA K) (inX false) := by
  subst hK
  intro c F ad e σ H x y rx ry P Q rel r1 r2 h q
  rcases h with ⟨k, z, h1, h2, hp⟩ | ⟨i, d, js, h1, h2, h3, l1, l2, hp⟩
  · exact .inl ⟨k, S z, rep_str.mp (dv_ok rel r1 h1), rep_str.mp (dv_ok rel r2 h2), q.val rel (rep_bl.mpr rfl) hp⟩
  · obtain ⟨F1, _, x1, g1⟩ := rd_ok rel r1 h1
    obtain ⟨F2, _, x2, g2⟩ := rd_ok rel r2 h2
    have d1 := dp_of l1 g1 x1
    cases d with
    | lst xs =>
      cases h3
      have d2 := dp_of (lay_lst l2) g2 x2
      rw [D.py] at d2
      refine .inr (.inl ⟨i.py, pyL js, d1, d2, lay_shaped l1 (by decide), ?_, ?_⟩)
      · have := lay_shaped (lay_lst l2) (by decide)
        rwa [D.py] at this
      · rw [pyL_any]
        exact q.val rel (rep_bl.mpr rfl) hp
    | tup xs =>
      cases h3
      have d2 := dp_of (lay_tup l2) g2 x2
      rw [D.py] at d2
      refine .inr (.inr ⟨i.py, pyL js, d1, d2, lay_shaped l1 (by decide), ?_, ?_⟩)
      · have := lay_shaped (lay_tup l2) (by decide)
        rwa [D.py] at this
      · rw [pyL_any]
        exact q.val rel (rep_bl.mpr rfl) hp
    | _ => cases h3
theorem ad_nin {K : PySem.W.Frag} (hK : K = T.K) : OpD T (rNinA K) (inX true) := by
  subst hK
  intro c F ad e σ H x y rx ry P Q rel r1 r2 h q
  rcases h with ⟨k, z, h1, h2, hp⟩ | ⟨i, d, js, h1, h2, h3, l1, l2, hp⟩
  · exact .inl ⟨k, S z, rep_str.mp (dv_ok rel r1 h1), rep_str.mp (dv_ok rel r2 h2), q.val rel (rep_bl.mpr rfl) hp⟩
  · obtain ⟨F1, _, x1, g1⟩ := rd_ok rel r1 h1
    obtain ⟨F2, _, x2, g2⟩ := rd_ok rel r2 h2
    have d1 := dp_of l1 g1 x1
    cases d with
    | lst xs =>
      cases h3
      have d2 := dp_of (lay_lst l2) g2 x2
      rw [D.py] at d2
      refine .inr (.inl ⟨i.py, pyL js, d1, d2, lay_shaped l1 (by decide), ?_, ?_⟩)
      · have := lay_shaped (lay_lst l2) (by decide)
        rwa [D.py] at this
      · rw [pyL_any]
        exact q.val rel (rep_bl.mpr rfl) hp
    | tup xs =>
      cases h3
      have d2 := dp_of (lay_tup l2) g2 x2
      rw [D.py] at d2
      refine .inr (.inr ⟨i.py, pyL js, d1, d2, lay_shaped l1 (by decide), ?_, ?_⟩)
      · have := lay_shaped (lay_tup l2) (by decide)
        rwa [D.py] at this
      · rw [pyL_any, if_pos rfl]
        exact q.val rel (rep_bl.mpr rfl) hp
    | _ => cases h3
theorem de_in (hu : U X) (ha : DE T X W a ta) (hb : DE T X W b tb) (hK : X.K = T.K := by rfl) (hm : behindInMarks .In b = false := by rfl) : DE T X W (.Compare a [.In] [b] pos) (op2 (inX false) ta tb) := de_cmp (op_inA hu) (ad_in hK) ha hb hm
theorem de_nin (hu : U X) (ha : DE T X W a ta) (hb : DE T X W b tb) (hK : X.K = T.K := by rfl) (hm : behindInMarks .NotIn b = false := by rfl) : DE T X W (.Compare a [.NotIn] [b] pos) (op2 (inX true) ta tb) := de_cmp (op_ninA hu) (ad_nin hK) ha hb hm
theorem dt_in (hu : U X) (ha : DE T X W a ta) (hb : DE T X W b tb) (hK : X.K = T.K := by rfl) (hm : behindInMarks .In b = false := by rfl) : DT T X W (.Compare a [.In] [b] pos) (tVal (op2 (inX false) ta tb)) := dt_cmp (op_inA hu) (ad_in hK) ha hb hm
theorem dt_nin (hu : U X) (ha : DE T X W a ta) (hb : DE T X W b tb) (hK : X.K = T.K := by rfl) (hm : behindInMarks .NotIn b = false := by rfl) : DT T X W (.Compare a [.NotIn] [b] pos) (tVal (op2 (inX true) ta tb)) := dt_cmp (op_ninA hu) (ad_nin hK) ha hb hm

/-! ### subscripts -/
def ixX : OX := fun e x y P => (∃ ds i d, sqD e x = some ds ∧ dv e y = some (.int i) ∧ atI ds i = some d ∧ P (.val d) e) ∨
  (∃ s i k, dv e x = some (.str s) ∧ dv e y = some (.int i) ∧ s.length ≤ sizeLine ∧ atI s i = some k ∧ P (.val (.str [k])) e)
theorem RepL.atI {F : Hp} {ds : List D} {vs : List V} {i : Int} {d : D} (h : RepL T F ds vs) (q : L2.atI ds i = some d) : ∃ v, L2.atI vs i = some v ∧ Rep T F d v := by
  unfold L2.atI at q ⊢
  rw [h.len]
  cases hx : ixN ds.length i with
  | none =>
    rw [hx] at q
    cases q
  | some j =>
    rw [hx] at q
    exact h.get q
theorem ad_ix3 {K : PySem.W.Frag} (hK : K = T.K) : OpD T (rIx K) ixX := by
  subst hK
  intro c F ad e σ H x y rx ry P Q rel r1 r2 h q
  rcases h with ⟨ds, i, d, h1, h2, h3, hp⟩ | ⟨s, i, k, h1, h2, hl, h3, hp⟩
  · obtain ⟨a, vs, rfl, g1, g2⟩ := sqD_ok rel r1 h1
    obtain ⟨w, hw, rw⟩ := g2.atI h3
    rcases g1 with g1 | g1
    · exact .inl ⟨a, vs, i, w, rfl, rep_int.mp (dv_ok rel r2 h2), g1, hw, q.val rel rw hp⟩
    · exact .inr (.inl ⟨a, vs, i, w, rfl, rep_int.mp (dv_ok rel r2 h2), g1, hw, q.val rel rw hp⟩)
  · exact .inr (.inr ⟨S s, i, k, rep_str.mp (dv_ok rel r1 h1), rep_int.mp (dv_ok rel r2 h2), by rw [S_len]; exact hl, h3, q.val rel (rep_str.mpr rfl) hp⟩)
theorem de_ix (ha : DE T X W a ta) (hb : DE T X W b tb) (hK : X.K = T.K := by rfl) (hs : PlainIx b := by exact fun _ _ => rfl) : DE T X W (.Subscript a b pos) (op2 ixX ta tb) := ⟨PE.imp (pe_ix ix_seq ha.pe hb.pe hs) fun σ H Q h => le2 (ad_ix3 hK) h⟩

/-! ### slices -/
abbrev PX := Env → (Option Int → Env → Prop) → (Xc → Env → Prop) → Prop
def LO (T : Cn) (W : WX) (t : PX) : TO := fun σ H Q => ∃ c F ad e P R, Rel T c e σ F H ad ∧ t e P R ∧
  (∀ o H' F' ad' e', Ex F F' → Px ad ad' → Rel T c e' σ F' H' ad' → P o e' → Q o H') ∧ XL T c W F ad R
structure DO (T : Cn) (X : Cx) (W : WX) (e : Option Expr) (t : PX) : Prop where
  po : PO X e (LO T W t)
def pNone : PX := fun e P _ => P none e
def pSome (t : EX) : PX := fun e P R => t e (fun r e1 => ∃ i, dv e1 r = some (.int i) ∧ P (some i) e1) R
theorem do_none : DO T X W none pNone := ⟨⟨fun pins s σ H Q I h => po_none.run pins s σ H Q I (by
  obtain ⟨c, F, ad, e, P, R, rel, q, hq, hx⟩ := h
  exact hq none H F ad e (Ex.refl F) (Px.refl ad) rel q)⟩⟩
theorem do_some (ha : DE T X W a ta) : DO T X W (some a) (pSome ta) := ⟨⟨fun pins s σ H Q I h => (po_some ha.pe).run pins s σ H Q I (by
  obtain ⟨c, F, ad, e, P, R, rel, q, hq, hx⟩ := h
  refine ⟨c, F, ad, e, _, R, rel, q, fun v H1 F1 ad1 e1 r x1 p1 rel1 r1 q1 => ?_, hx⟩
  obtain ⟨i, hi, q2⟩ := q1
  exact ⟨i, rep_int.mp (dv_ok rel1 r1 hi), hq (some i) H1 F1 ad1 e1 x1 p1 rel1 q2⟩)⟩⟩
/-- xs[lo:hi] -/
def cut {α : Type} (xs : List α) (lo hi : Option Int) : List α := (xs.drop (HT.sIx xs.length 0 lo)).take (HT.sIx xs.length xs.length hi - HT.sIx xs.length 0 lo)
def slX : Env → RV → Option Int → Option Int → (RV → Env → Prop) → Prop := fun e x lo hi P => (∃ ds, lsD e x = some ds ∧ P (.ob e.ob.length) { e with ob := e.ob ++ [.lst (cut ds lo hi)] }) ∨
  (∃ ds, tpD e x = some ds ∧ P (.val (.tup (cut ds lo hi))) e) ∨ (∃ s, dv e x = some (.str s) ∧ s.length ≤ sizeLine ∧ P (.val (.str (cut s lo hi))) e)
def eSl (ta : EX) (tl th : PX) : EX := fun e P R => ta e (fun x e1 => tl e1 (fun lo e2 => th e2 (fun hi e3 => slX e3 x lo hi P) R) R) R
abbrev rSl3 (K : PySem.W.Frag) : V → Option Int → Option Int → Hp → VK → Prop := fun x lo hi H Q => rSlL K x lo hi H Q ∨ (fun x lo hi H Q => rSlA K x lo hi H Q ∨ rSlS x lo hi H Q : V → Option Int → Option Int → Hp → VK → Prop) x lo hi H Q
theorem sl_3 : SlR X (rSl3 X.K) := SlR.or sl_list (SlR.or sl_tupA sl_str)
theorem RepL.cut {F : Hp} {ds : List D} {vs : List V} (h : RepL T F ds vs) (lo hi : Option Int) : RepL T F (DL.cut ds lo hi) (cutV vs lo hi) := by
  unfold DL.cut cutV
  rw [h.len]
  exact (h.drop _).take _
theorem de_sl {lo hi : Option Expr} {tl th : PX} {p2 : Pos} (ha : DE T X W a ta) (hl : DO T X W lo tl) (hh : DO T X W hi th) (hK : X.K = T.K := by rfl) : DE T X W (.Subscript a (.Slice lo hi none p2) pos) (eSl ta tl th) := ⟨PE.imp (pe_slice sl_3 ha.pe hl.po hh.po) fun σ H Q h => by
  obtain ⟨c, F, ad, e, P, R, rel, q, hq, hx⟩ := h
  refine ⟨c, F, ad, e, _, R, rel, q, fun v H1 F1 ad1 e1 r x1 p1 rel1 r1 q1 => ?_, hx⟩
  refine ⟨c, F1, ad1, e1, _, R, rel1, q1, fun lo H2 F2 ad2 e2 x2 p2 rel2 q2 => ?_, hx.mono x1 p1⟩
  refine ⟨c, F2, ad2, e2, _, R, rel2, q2, fun hi H3 F3 ad3 e3 x3 p3 rel3 q3 => ?_, hx.mono (x1.trans x2) (p1.trans p2)⟩
  have r3 := r1.mono (x2.trans x3) (p2.trans p3)
  have hq3 := hq.mono ((x1.trans x2).trans x3) ((p1.trans p2).trans p3)
  rw [hK]
  rcases q3 with ⟨ds, h1, hp⟩ | ⟨ds, h1, hp⟩ | ⟨s, h1, hl, hp⟩
  · obtain ⟨a, vs, rfl, g1, g2⟩ := lsD_ok rel3 r3 h1
    exact .inl ⟨a, vs, rfl, .inl g1, fun p hp' => hq3.new (o := .lst (cut ds lo hi)) rel3 hp' (fun fp bp => ⟨fp, bp, _, upd_same, g2.cut lo hi⟩) hp⟩
  · obtain ⟨a, vs, rfl, g1, g2⟩ := tpD_ok rel3 r3 h1
    refine .inr (.inl ⟨a, vs, rfl, rel3.fh.sqt g1, fun hw => ?_, fun _ p hp' => ?_⟩)
    · have e0 : cut ds lo hi = ds := by
        unfold cut
        rw [← g2.len, hw.1, hw.2, List.drop_zero, Nat.sub_zero, g2.len, List.take_length]
      rw [e0] at hp
      exact hq3.val rel3 (rep_tup.mpr ⟨a, vs, rfl, g1, g2⟩) hp
    · exact hq3.laid rel3 hp' (fun x1 => rep_tup.mpr ⟨p, _, rfl, .inl (.inl upd_same), (g2.cut lo hi).mono x1⟩) hp
  · refine .inr (.inr ⟨S s, rep_str.mp (dv_ok rel3 r3 h1), by rw [S_len]; exact hl, hq3.val rel3 (rep_str.mpr ?_) hp⟩)
    unfold cutS cut
    rw [S_len]
    rfl⟩

/-! ### arguments, displays -/
def aNil : AX := fun e P _ => P [] e
def aCons (t : EX) (u : AX) : AX := fun e P R => t e (fun r e1 => u e1 (fun rs e2 => P (r :: rs) e2) R) R
theorem da_nil : DA T X W [] aNil := ⟨PA.imp pa_nil fun σ H Q h => by
  obtain ⟨c, F, ad, e, P, R, rel, q, hq, hx⟩ := h
  exact hq [] H F ad e [] (Ex.refl F) (Px.refl ad) rel rfl q, fun _ => rfl, fun _ _ h => nomatch h⟩
theorem da_cons {es : List Expr} {u : AX} (ha : DE T X W a ta) (hr : DA T X W es u) (hs : starEach (a :: es) X.env = (false, eval a X.env) :: starEach es X.env := by rfl) : DA T X W (a :: es) (aCons ta u) := ⟨PA.imp (pa_cons ha.pe hr.pa hs) fun σ H Q h => by
  obtain ⟨c, F, ad, e, P, R, rel, q, hq, hx⟩ := h
  refine ⟨c, F, ad, e, _, R, rel, q, fun v H1 F1 ad1 e1 r x1 p1 rel1 r1 q1 => ?_, hx⟩
  refine ⟨c, F1, ad1, e1, _, R, rel1, q1, fun vs H2 F2 ad2 e2 rs x2 p2 rel2 r2 q2 => ?_, hx.mono x1 p1⟩
  exact hq (v :: vs) H2 F2 ad2 e2 (r :: rs) (x1.trans x2) (p1.trans p2) rel2 ⟨v, vs, rfl, r1.mono x2 p2, r2⟩ q2, fun pos => by
    rw [hs]
    exact hr.hpl pos, fun a' r' h => by
    cases h
    exact ⟨hs, hr.hpl⟩⟩
/-- all of them data -/
def allD (e : Env) : List RV → Option (List D)
  | [] => some []
  | r :: rs => match dv e r with
    | some d => (match allD e rs with
      | some ds => some (d :: ds)
      | none => none)
    | none => none
@[simp] theorem allD_nil (e : Env) : allD e [] = some [] := rfl
@[simp] theorem allD_val (e : Env) (d : D) (rs : List RV) : allD e (.val d :: rs) = (match allD e rs with | some ds => some (d :: ds) | none => none) := rfl
theorem allD_ok {c : BF} {e : Env} {σ : St} {F H : Hp} {ad : List Addr} (R : Rel T c e σ F H ad) : ∀ {rs : List RV} {vs : List V} {ds : List D}, RvL T F ad rs vs → allD e rs = some ds → RepL T F ds vs
  | [], vs, ds, h, q => by
    cases q
    exact repL_nil.mpr h
  | r :: rs, vs, ds, h, q => by
    obtain ⟨v, w, rfl, h1, h2⟩ := h
    unfold allD at q
    cases hd : dv e r with
    | none =>
      rw [hd] at q
      cases q
    | some d =>
      rw [hd] at q
      dsimp only at q
      cases hs : allD e rs with
      | none =>
        rw [hs] at q
        cases q
      | some es =>
        rw [hs] at q
        cases q
        exact RepL.cons (dv_ok R h1 hd) (allD_ok R h2 hs)
/-- [..]; (..): data where all of it is data -/
def eLst (t : AX) : EX := fun e P R => t e (fun rs e1 => rs.length ≤ sizeLine ∧ P (.ob e1.ob.length) { e1 with ob := e1.ob ++ [match allD e1 rs with | some ds => .lst ds | none => .lsr rs] }) R
def eTup (t : AX) : EX := fun e P R => t e (fun rs e1 => rs.length ≤ sizeLine ∧ match allD e1 rs with
  | some ds => P (.val (.tup ds)) e1
  | none => P (.ob e1.ob.length) { e1 with ob := e1.ob ++ [.tpr rs] }) R
theorem de_lst {es : List Expr} {u : AX} (h : DA T X W es u) : DE T X W (.List es pos) (eLst u) := ⟨PE.imp (pe_lst h.pa) fun σ H Q h => by
  obtain ⟨c, F, ad, e, P, R, rel, q, hq, hx⟩ := h
  refine ⟨c, F, ad, e, _, R, rel, q, fun vs H1 F1 ad1 e1 rs x1 p1 rel1 r1 q1 => ?_, hx⟩
  obtain ⟨hl, q2⟩ := q1
  refine ⟨by rw [r1.len]; exact hl, fun p hp => ?_⟩
  cases hd : allD e1 rs with
  | some ds =>
    rw [hd] at q2
    exact (hq.mono x1 p1).new (o := .lst ds) rel1 hp (fun fp bp => ⟨fp, bp, _, upd_same, allD_ok rel1 r1 hd⟩) q2
  | none =>
    rw [hd] at q2
    exact (hq.mono x1 p1).new (o := .lsr rs) rel1 hp (fun fp bp => ⟨fp, bp, _, upd_same, r1.mono (Ex.refl F1) (Px.push ad1 p)⟩) q2⟩
theorem de_tup {es : List Expr} {u : AX} {k : Nat} (h : DA T X W es u) : DE T X W (.Tuple es k pos) (eTup u) := ⟨PE.imp (pe_tup h.pa) fun σ H Q h => by
  obtain ⟨c, F, ad, e, P, R, rel, q, hq, hx⟩ := h
  refine ⟨c, F, ad, e, _, R, rel, q, fun vs H1 F1 ad1 e1 rs x1 p1 rel1 r1 q1 => ?_, hx⟩
  obtain ⟨hl, q2⟩ := q1
  refine ⟨by rw [r1.len]; exact hl, fun p hp => ?_⟩
  cases hd : allD e1 rs with
  | some ds =>
    rw [hd] at q2
    exact (hq.mono x1 p1).laid rel1 hp (fun x => rep_tup.mpr ⟨p, _, rfl, .inl (.inl upd_same), (allD_ok rel1 r1 hd).mono x⟩) q2
  | none =>
    rw [hd] at q2
    exact (hq.mono x1 p1).new (o := .tpr rs) rel1 hp (fun fp bp => ⟨fp, bp, _, upd_same, r1.mono (Ex.refl F1) (Px.push ad1 p)⟩) q2⟩

/-! ### built-in functions -/
abbrev BX := Env → List RV → (RV → Env → Prop) → Prop
def CaD (T : Cn) (r : List V → Hp → VK → Prop) (f : BX) : Prop := ∀ (c : BF) (F : Hp) (ad : List Addr) (e : Env) (σ : St) (H : Hp) (xs : List V) (rs : List RV) (P : RV → Env → Prop) (Q : VK),
  Rel T c e σ F H ad → RvL T F ad rs xs → f e rs P → QL T c σ F ad P Q → r xs H Q
def eB (f : BX) (u : AX) : EX := fun e P R => u e (fun rs e1 => f e1 rs P) R
theorem lb {r : List V → Hp → VK → Prop} {f : BX} {u : AX} (ho : CaD T r f) {σ : St} {H : Hp} {Q : VK} (h : LE T W (eB f u) σ H Q) : tCB r (LA T W u) σ H Q := by
  obtain ⟨c, F, ad, e, P, R, rel, q, hq, hx⟩ := h
  exact ⟨c, F, ad, e, _, R, rel, q, fun vs H1 F1 ad1 e1 rs x1 p1 rel1 r1 q1 => ho c F1 ad1 e1 σ H1 vs rs P Q rel1 r1 q1 (hq.mono x1 p1), hx⟩
theorem de_B {x : Str} {p : Pos} {id : String} {es : List Expr} {r : List V → Hp → VK → Prop} {f : BX} {u : AX} (hc : CallR X (.builtin id) r) (ho : CaD T r f) (hg : Gl X x) (hm : X.mg x = none) (hv : bootBuiltins x = some (.builtin id)) (ha : DA T X W (a :: es) u)
    (hn : x ≠ "__name__" := by decide) (hdb : (x == ("__debug__" : Str)) = false := by decide) : DE T X W (.Call (.Name x p) (a :: es) [] pos) (eB f u) := ⟨PE.imp (pe_callB hc hg hm hv ha.pa hn hdb (ha.he _ _ rfl).1 ((ha.he _ _ rfl).2 _)) fun σ H Q h => lb ho h⟩
theorem de_Ty {x : Str} {p : Pos} {id : String} {es : List Expr} {r : List V → Hp → VK → Prop} {f : BX} {u : AX} (hc : CallR X (.type id) r) (ho : CaD T r f) (hg : Gl X x) (hm : X.mg x = none) (hv : bootBuiltins x = some (.type id)) (ha : DA T X W (a :: es) u)
    (hn : x ≠ "__name__" := by decide) (hdb : (x == ("__debug__" : Str)) = false := by decide) : DE T X W (.Call (.Name x p) (a :: es) [] pos) (eB f u) := ⟨PE.imp (pe_callTy hc hg hm hv ha.pa hn hdb (ha.he _ _ rfl).1 ((ha.he _ _ rfl).2 _)) fun σ H Q h => lb ho h⟩
theorem CallR.or {v : Value} {r r' : List V → Hp → VK → Prop} (h : CallR X v r) (h' : CallR X v r') : CallR X v (fun xs H Q => r xs H Q ∨ r' xs H Q) := by
  intro pins s σ H xs us Q I rx q
  rcases q with q | q
  · exact h pins s σ H xs us Q I rx q
  · exact h' pins s σ H xs us Q I rx q
theorem rv1 {F : Hp} {ad : List Addr} {r : RV} {xs : List V} (h : RvL T F ad [r] xs) : ∃ v, xs = [v] ∧ RvR T F ad r v := by
  obtain ⟨v, q, rfl, h1, h2⟩ := h
  rw [show q = [] from h2]
  exact ⟨v, rfl, h1⟩
theorem rv2 {F : Hp} {ad : List Addr} {r r' : RV} {xs : List V} (h : RvL T F ad [r, r'] xs) : ∃ v w, xs = [v, w] ∧ RvR T F ad r v ∧ RvR T F ad r' w := by
  obtain ⟨v, q, rfl, h1, w, q2, rfl, h2, h3⟩ := h
  rw [show q2 = [] from h3]
  exact ⟨v, w, rfl, h1, h2⟩
/-- len -/
def lenX : BX := fun e rs P => ∃ r, rs = [r] ∧ ((∃ s, dv e r = some (.str s) ∧ s.length ≤ sizeLine ∧ P (.val (.int s.length)) e) ∨ (∃ ds, sqD e r = some ds ∧ P (.val (.int ds.length)) e))
theorem de_len {p : Pos} {es : List Expr} {u : AX} (hm : X.mg "len" = none) (ha : DA T X W (a :: es) u) (hK : X.K = T.K := by rfl) (hg : Gl X "len" := by rfl) : DE T X W (.Call (.Name "len" p) (a :: es) [] pos) (eB lenX u) := de_B call_len (by
  rw [hK]
  intro c F ad e σ H xs rs P Q rel r1 h q
  obtain ⟨r, rfl, h⟩ := h
  obtain ⟨v, rfl, rr⟩ := rv1 r1
  rcases h with ⟨s, h1, hl, hp⟩ | ⟨ds, h1, hp⟩
  · refine ⟨v, s.length, rfl, ?_, q.val rel (rep_int.mpr rfl) hp⟩
    rw [rep_str.mp (dv_ok rel rr h1)]
    exact ⟨by rw [S_len]; exact hl, (S_len s).symm⟩
  · obtain ⟨a, vs, rfl, g1, g2⟩ := sqD_ok rel rr h1
    refine ⟨.ref a, ds.length, rfl, ?_, q.val rel (rep_int.mpr rfl) hp⟩
    rcases g1 with g1 | g1
    · exact .inl ⟨vs, g1, g2.len.symm⟩
    · exact .inr ⟨vs, g1, g2.len.symm⟩) hg hm PySem.boot_len ha
/-- int -/
def intX : BX := fun e rs P => ∃ r, rs = [r] ∧ ((∃ i, dv e r = some (.int i) ∧ P (.val (.int i)) e) ∨ (∃ k, dv e r = some (.bl k) ∧ P (.val (.int (if k then 1 else 0))) e) ∨
  (∃ s n, dv e r = some (.str s) ∧ PySem.intText? (S s) = some n ∧ s.length ≤ 640 ∧ P (.val (.int n)) e))
theorem de_intC {p : Pos} {es : List Expr} {u : AX} (hm : X.mg "int" = none) (ha : DA T X W (a :: es) u) (hg : Gl X "int" := by rfl) : DE T X W (.Call (.Name "int" p) (a :: es) [] pos) (eB intX u) := de_Ty (CallR.or call_int1 call_int_str) (by
  intro c F ad e σ H xs rs P Q rel r1 h q
  obtain ⟨r, rfl, h⟩ := h
  obtain ⟨v, rfl, rr⟩ := rv1 r1
  rcases h with ⟨i, h1, hp⟩ | ⟨k, h1, hp⟩ | ⟨s, n, h1, h2, hl, hp⟩
  · exact .inl (.inl ⟨i, by rw [rep_int.mp (dv_ok rel rr h1)], q.val rel (rep_int.mpr rfl) hp⟩)
  · exact .inl (.inr ⟨k, by rw [rep_bl.mp (dv_ok rel rr h1)], q.val rel (rep_int.mpr rfl) hp⟩)
  · exact .inr ⟨S s, n, by rw [rep_str.mp (dv_ok rel rr h1)], h2, by rw [S_len]; exact hl, q.val rel (rep_int.mpr rfl) hp⟩) hg hm (by decide +kernel) ha
/-- str of a number -/
def strX : BX := fun e rs P => ∃ r i, rs = [r] ∧ dv e r = some (.int i) ∧ i.natAbs.log2 < 1920 ∧ P (.val (.str (toString i : Str).cps.toList)) e
theorem de_strC {p : Pos} {es : List Expr} {u : AX} (hm : X.mg "str" = none) (ha : DA T X W (a :: es) u) (hg : Gl X "str" := by rfl) : DE T X W (.Call (.Name "str" p) (a :: es) [] pos) (eB strX u) := de_Ty call_str_int (by
  intro c F ad e σ H xs rs P Q rel r1 h q
  obtain ⟨r, i, rfl, h1, h2, hp⟩ := h
  obtain ⟨v, rfl, rr⟩ := rv1 r1
  exact ⟨i, by rw [rep_int.mp (dv_ok rel rr h1)], h2, q.val rel (rep_str.mpr (by rw [S_of])) hp⟩) hg hm (by decide +kernel) ha
/-- abs -/
def absX : BX := fun e rs P => ∃ r i, rs = [r] ∧ dv e r = some (.int i) ∧ P (.val (.int (if i < 0 then -i else i))) e
theorem de_abs {p : Pos} {es : List Expr} {u : AX} (hm : X.mg "abs" = none) (ha : DA T X W (a :: es) u) (hg : Gl X "abs" := by rfl) : DE T X W (.Call (.Name "abs" p) (a :: es) [] pos) (eB absX u) := de_B call_abs (by
  intro c F ad e σ H xs rs P Q rel r1 h q
  obtain ⟨r, i, rfl, h1, hp⟩ := h
  obtain ⟨v, rfl, rr⟩ := rv1 r1
  exact ⟨i, by rw [rep_int.mp (dv_ok rel rr h1)], q.val rel (rep_int.mpr rfl) hp⟩) hg hm (by decide +kernel) ha
/-- list -/
def listX : BX := fun e rs P => ∃ r ds, rs = [r] ∧ sqD e r = some ds ∧ P (.ob e.ob.length) { e with ob := e.ob ++ [.lst ds] }
theorem de_list {p : Pos} {es : List Expr} {u : AX} (hm : X.mg "list" = none) (ha : DA T X W (a :: es) u) (hK : X.K = T.K := by rfl) (hg : Gl X "list" := by rfl) : DE T X W (.Call (.Name "list" p) (a :: es) [] pos) (eB listX u) := de_Ty call_list_of (by
  rw [hK]
  intro c F ad e σ H xs rs P Q rel r1 h q
  obtain ⟨r, ds, rfl, h1, hp⟩ := h
  obtain ⟨v, rfl, rr⟩ := rv1 r1
  obtain ⟨a, vs, rfl, g1, g2⟩ := sqD_ok rel rr h1
  exact ⟨a, vs, rfl, g1, fun l hl => q.new (o := .lst ds) rel hl (fun fp bp => ⟨fp, bp, _, upd_same, g2⟩) hp⟩) hg hm (by decide +kernel) ha
/-- sum of ints -/
def sumX : BX := fun e rs P => ∃ (r : RV) (ns : List Int), rs = [r] ∧ lsD e r = some (ns.map D.int) ∧ P (.val (.int ns.sum)) e
theorem de_sum {p : Pos} {es : List Expr} {u : AX} (hc : X.calm = true) (hm : X.mg "sum" = none) (ha : DA T X W (a :: es) u) (hK : X.K = T.K := by rfl) (hg : Gl X "sum" := by rfl) : DE T X W (.Call (.Name "sum" p) (a :: es) [] pos) (eB sumX u) := de_B (cr_sum hc) (by
  rw [hK]
  intro c F ad e σ H xs rs P Q rel r1 h q
  obtain ⟨r, ns, rfl, h1, hp⟩ := h
  obtain ⟨v, rfl, rr⟩ := rv1 r1
  obtain ⟨a, vs, rfl, g1, g2⟩ := lsD_ok rel rr h1
  refine ⟨a, ns, rfl, ?_, q.val rel (rep_int.mpr rfl) hp⟩
  rw [← repL_ints g2]
  exact .inl g1) hg hm (by decide +kernel) ha
def minX : BX := fun e rs P => ∃ r r' i j, rs = [r, r'] ∧ dv e r = some (.int i) ∧ dv e r' = some (.int j) ∧ P (.val (.int (if j < i then j else i))) e
def maxX : BX := fun e rs P => ∃ r r' i j, rs = [r, r'] ∧ dv e r = some (.int i) ∧ dv e r' = some (.int j) ∧ P (.val (.int (if j > i then j else i))) e
theorem de_min {p : Pos} {es : List Expr} {u : AX} (hc : X.calm = true) (hm : X.mg "min" = none) (ha : DA T X W (a :: es) u) (hg : Gl X "min" := by rfl) : DE T X W (.Call (.Name "min" p) (a :: es) [] pos) (eB minX u) := de_B (call_min2 hc) (by
  intro c F ad e σ H xs rs P Q rel r1 h q
  obtain ⟨r, r', i, j, rfl, h1, h2, hp⟩ := h
  obtain ⟨v, w, rfl, rr, rr'⟩ := rv2 r1
  exact ⟨i, j, by rw [rep_int.mp (dv_ok rel rr h1), rep_int.mp (dv_ok rel rr' h2)], q.val rel (rep_int.mpr rfl) hp⟩) hg hm (by decide +kernel) ha
theorem de_max {p : Pos} {es : List Expr} {u : AX} (hc : X.calm = true) (hm : X.mg "max" = none) (ha : DA T X W (a :: es) u) (hg : Gl X "max" := by rfl) : DE T X W (.Call (.Name "max" p) (a :: es) [] pos) (eB maxX u) := de_B (call_max2 hc) (by
  intro c F ad e σ H xs rs P Q rel r1 h q
  obtain ⟨r, r', i, j, rfl, h1, h2, hp⟩ := h
  obtain ⟨v, w, rfl, rr, rr'⟩ := rv2 r1
  exact ⟨i, j, by rw [rep_int.mp (dv_ok rel rr h1), rep_int.mp (dv_ok rel rr' h2)], q.val rel (rep_int.mpr rfl) hp⟩) hg hm (by decide +kernel) ha
end
end DL
end
section
set_option Elab.async false
set_option linter.all false
set_option autoImplicit false
set_option maxRecDepth 100000
set_option maxHeartbeats 2000000
/-! DLE: defs' contracts (FX), what a def keeps (FnG), the call (eCall), a def from its body. -/
namespace DL
open PySem PySem.Spec L2

/-! ### objects under other numbers -/
def RV.ren (g : Nat → Nat) : RV → RV
  | .val d => .val d
  | .ob k => .ob (g k)
def OD.ren (g : Nat → Nat) : OD → OD
  | .fz d => .fz d
  | .lst ds => .lst ds
  | .lsr xs => .lsr (xs.map (RV.ren g))
  | .tpr xs => .tpr (xs.map (RV.ren g))
  | .dic kvs => .dic kvs
  | .ins c fs => .ins c (fs.map fun p => (p.1, p.2.ren g))
def RV.below (n : Nat) : RV → Bool
  | .val _ => true
  | .ob k => decide (k < n)
def OD.below (n : Nat) : OD → Bool
  | .lsr xs => xs.all (RV.below n)
  | .tpr xs => xs.all (RV.below n)
  | .ins _ fs => fs.all fun p => p.2.below n
  | _ => true
@[simp] theorem ren_val (g : Nat → Nat) (d : D) : (RV.val d).ren g = .val d := rfl
@[simp] theorem ren_ob (g : Nat → Nat) (k : Nat) : (RV.ob k).ren g = .ob (g k) := rfl
@[simp] theorem ren_lst (g : Nat → Nat) (ds : List D) : (OD.lst ds).ren g = .lst ds := rfl
@[simp] theorem ren_fz (g : Nat → Nat) (d : D) : (OD.fz d).ren g = .fz d := rfl
@[simp] theorem ren_dic (g : Nat → Nat) (d : List (D × D)) : (OD.dic d).ren g = .dic d := rfl
theorem OD.mut_ren (g : Nat → Nat) (o : OD) : (o.ren g).mut = o.mut := by cases o <;> rfl
section
variable {T : Cn} {F H : Hp} {ad bd : List Addr} {g : Nat → Nat} {n : Nat}
/-- bd's k is ad's g k, for k below n -/
def Sees (n : Nat) (g : Nat → Nat) (bd ad : List Addr) : Prop := ∀ (k : Nat) (p : Addr), k < n → (bd[k]? = some p ↔ ad[g k]? = some p)
theorem RvR.in_ (h : Sees n g bd ad) : ∀ {r : RV} {v : V}, r.below n = true → (RvR T F bd r v ↔ RvR T F ad (r.ren g) v)
  | .val d, v, _ => Iff.rfl
  | .ob k, v, hb => by
    have hk : k < n := by simpa [RV.below] using hb
    constructor
    · rintro ⟨p, h1, h2⟩
      exact ⟨p, (h k p hk).mp h1, h2⟩
    · rintro ⟨p, h1, h2⟩
      exact ⟨p, (h k p hk).mpr h1, h2⟩
theorem RvL.in_ (h : Sees n g bd ad) : ∀ {rs : List RV} {vs : List V}, rs.all (RV.below n) = true → (RvL T F bd rs vs ↔ RvL T F ad (rs.map (RV.ren g)) vs)
  | [], vs, _ => Iff.rfl
  | r :: rs, vs, hb => by
    have hb1 : r.below n = true ∧ rs.all (RV.below n) = true := by simpa using hb
    constructor
    · rintro ⟨v, q, h0, h1, h2⟩
      exact ⟨v, q, h0, (RvR.in_ h hb1.1).mp h1, (RvL.in_ h hb1.2).mp h2⟩
    · rintro ⟨v, q, h0, h1, h2⟩
      exact ⟨v, q, h0, (RvR.in_ h hb1.1).mpr h1, (RvL.in_ h hb1.2).mpr h2⟩
theorem RvF.in_ (h : Sees n g bd ad) : ∀ {rs : List (Nat × RV)} {vs : List (Str × V)}, (rs.all fun p => p.2.below n) = true → (RvF T F bd rs vs ↔ RvF T F ad (rs.map fun p => (p.1, p.2.ren g)) vs)
  | [], vs, _ => Iff.rfl
  | (f, r) :: rs, vs, hb => by
    have hb1 : r.below n = true ∧ (rs.all fun p => p.2.below n) = true := by simpa using hb
    constructor
    · rintro ⟨v, q, h0, h1, h2⟩
      exact ⟨v, q, h0, (RvR.in_ h hb1.1).mp h1, (RvF.in_ h hb1.2).mp h2⟩
    · rintro ⟨v, q, h0, h1, h2⟩
      exact ⟨v, q, h0, (RvR.in_ h hb1.1).mpr h1, (RvF.in_ h hb1.2).mpr h2⟩
/-- an object, seen from the other list, under another frame c' -/
theorem OAt.in_ {c c' : BF} {p : Addr} {o : OD} (h : Sees n g bd ad) (hb : o.below n = true) (hB : F p = none → (c.B p = none ↔ c'.B p = none)) : OAt T c F H bd p o ↔ OAt T c' F H ad p (o.ren g) := by
  cases o with
  | fz d => exact Iff.rfl
  | lst ds => exact ⟨fun ⟨a, b, r⟩ => ⟨a, (hB a).mp b, r⟩, fun ⟨a, b, r⟩ => ⟨a, (hB a).mpr b, r⟩⟩
  | dic ds => exact ⟨fun ⟨a, b, r⟩ => ⟨a, (hB a).mp b, r⟩, fun ⟨a, b, r⟩ => ⟨a, (hB a).mpr b, r⟩⟩
  | lsr xs => exact ⟨fun ⟨a, b, vs, r, q⟩ => ⟨a, (hB a).mp b, vs, r, (RvL.in_ h hb).mp q⟩, fun ⟨a, b, vs, r, q⟩ => ⟨a, (hB a).mpr b, vs, r, (RvL.in_ h hb).mpr q⟩⟩
  | tpr xs => exact ⟨fun ⟨a, b, vs, r, q⟩ => ⟨a, (hB a).mp b, vs, r, (RvL.in_ h hb).mp q⟩, fun ⟨a, b, vs, r, q⟩ => ⟨a, (hB a).mpr b, vs, r, (RvL.in_ h hb).mpr q⟩⟩
  | ins k fs => exact ⟨fun ⟨a, b, C, dx, gs, r0, r, q⟩ => ⟨a, (hB a).mp b, C, dx, gs, r0, r, (RvF.in_ h hb).mp q⟩, fun ⟨a, b, C, dx, gs, r0, r, q⟩ => ⟨a, (hB a).mpr b, C, dx, gs, r0, r, (RvF.in_ h hb).mpr q⟩⟩
end

/-! ### the call's frame -/
/-- the callee's numbers in the caller's: the passed ones, then the new ones -/
def out (ks : List Nat) (N : Nat) (j : Nat) : Nat := match ks[j]? with
  | some k => k
  | none => N + (j - ks.length)
def putAll : List Nat → List OD → List OD → List OD
  | k :: ks, o :: os, ob => putAll ks os (ob.set k o)
  | _, _, ob => ob
/-- the caller's objects behind the call -/
def back (ks : List Nat) (ob ob' : List OD) : List OD := putAll ks ((ob'.take ks.length).map (OD.ren (out ks ob.length))) ob ++ (ob'.drop ks.length).map (OD.ren (out ks ob.length))
theorem putAll_len : ∀ (ks : List Nat) (os ob : List OD), (putAll ks os ob).length = ob.length
  | [], _, _ => by simp [putAll]
  | _ :: _, [], _ => by simp [putAll]
  | k :: ks, o :: os, ob => by rw [putAll, putAll_len ks os, List.length_set]
theorem putAll_out : ∀ (ks : List Nat) (os ob : List OD) {i : Nat}, i ∉ ks → (putAll ks os ob)[i]? = ob[i]?
  | [], _, _, _, _ => by simp [putAll]
  | _ :: _, [], _, _, _ => by simp [putAll]
  | k :: ks, o :: os, ob, i, h => by
    have h2 : i ≠ k ∧ i ∉ ks := by simpa using h
    rw [putAll, putAll_out ks os _ h2.2, List.getElem?_set_ne (Ne.symm h2.1)]
theorem putAll_at : ∀ (ks : List Nat) (os ob : List OD) {j k : Nat} {o : OD}, ks.Nodup → ks[j]? = some k → os[j]? = some o → k < ob.length → (putAll ks os ob)[k]? = some o
  | [], _, _, j, _, _, _, h, _, _ => by simp at h
  | _ :: _, [], _, j, _, _, _, _, h, _ => by simp at h
  | k0 :: ks, o0 :: os, ob, 0, k, o, nd, h1, h2, h3 => by
    have e1 : k0 = k := by simpa using h1
    have e2 : o0 = o := by simpa using h2
    subst e1
    subst e2
    rw [putAll, putAll_out ks os _ (List.nodup_cons.mp nd).1, List.getElem?_set_self h3]
  | k0 :: ks, o0 :: os, ob, j + 1, k, o, nd, h1, h2, h3 => by
    rw [putAll]
    exact putAll_at ks os _ (List.nodup_cons.mp nd).2 (j := j) (by simpa using h1) (by simpa using h2) (by rw [List.length_set]; exact h3)
@[simp] theorem back_nil (ob ob' : List OD) : back [] ob ob' = ob ++ ob'.map (OD.ren (out [] ob.length)) := by simp [back, putAll]
@[simp] theorem back_nil0 (ob : List OD) : back [] ob [] = ob := by simp [back, putAll]
@[simp] theorem back_one (k : Nat) (ob : List OD) (o : OD) : back [k] ob [o] = ob.set k (o.ren (out [k] ob.length)) := by simp [back, putAll]
theorem out_one (k N : Nat) : out [k] N 0 = k := rfl

/-- what is passed: ks, seen by the callee as obl -/
structure Pass (ob : List OD) (ks : List Nat) (obl : List OD) (rs rsl : List RV) : Prop where
  len : obl.length = ks.length
  nd : ks.Nodup
  at_ : ∀ (j : Nat) (o : OD), obl[j]? = some o → o.below ks.length = true ∧ ∃ k, ks[j]? = some k ∧ ob[k]? = some (o.ren (out ks ob.length))
  rb : rsl.all (RV.below ks.length) = true
  rs : rs = rsl.map (RV.ren (out ks ob.length))
theorem Pass.data (ob : List OD) (ds : List D) : Pass ob [] [] (ds.map .val) (ds.map .val) :=
  ⟨rfl, List.nodup_nil, fun j o h => by simp at h, by simp [RV.below], by simp⟩
section
variable {T : Cn} {c : BF} {sl : List (Option RV)} {ob : List OD} {σ : St} {F H : Hp} {ad : List Addr} {ks : List Nat} {obl : List OD} {rs rsl : List RV}
theorem enter (R : Rel T c ⟨sl, ob⟩ σ F H ad) (P : Pass ob ks obl rs rsl) : ∃ bd : List Addr, bd.length = ks.length ∧ (∀ j k : Nat, ks[j]? = some k → bd[j]? = ad[k]?) ∧ Sees ks.length (out ks ob.length) bd ad ∧
    Rel T ⟨F, fun a => if a ∈ bd then none else H a, bd⟩ ⟨[], obl⟩ [] F H bd := by
  have hk : ∀ {j k : Nat}, ks[j]? = some k → k < ad.length := fun {j k} h => by
    have hj : j < obl.length := by rw [P.len]; exact (List.getElem?_eq_some_iff.mp h).1
    obtain ⟨_, k', e1, e2⟩ := P.at_ j _ (List.getElem?_eq_getElem hj)
    rw [h] at e1
    cases e1
    rw [R.adl]
    exact (List.getElem?_eq_some_iff.mp e2).1
  have hbd : ∀ j k, ks[j]? = some k → (ks.map fun k => ad.getD k 0)[j]? = ad[k]? := fun j k h => by
    rw [List.getElem?_map, h]
    show some (ad.getD k 0) = _
    rw [List.getD_eq_getElem?_getD, List.getElem?_eq_getElem (hk h)]
    rfl
  refine ⟨ks.map fun k => ad.getD k 0, by simp, hbd, ?_, ?_⟩
  · intro k p hlt
    have e : ks[k]? = some ks[k] := List.getElem?_eq_getElem hlt
    have eo : out ks ob.length k = ks[k] := by simp [out, e]
    rw [hbd k _ e, eo]
  · have S : Sees ks.length (out ks ob.length) (ks.map fun k => ad.getD k 0) ad := by
      intro k p hlt
      have e : ks[k]? = some ks[k] := List.getElem?_eq_getElem hlt
      have eo : out ks ob.length k = ks[k] := by simp [out, e]
      rw [hbd k _ e, eo]
    exact {
      len := rfl
      fh := R.fh
      f0 := Ex.refl F
      bh := fun a o h => by
        have h' : (if a ∈ (ks.map fun k => ad.getD k 0) then none else H a) = some o := h
        split at h'
        · cases h'
        · exact h'
      fr := fun a o h => .inl h
      adl := by
        show (ks.map _).length = obl.length
        rw [List.length_map, P.len]
      adn := by
        have inj : ∀ i j p, (ks.map fun k => ad.getD k 0)[i]? = some p → (ks.map fun k => ad.getD k 0)[j]? = some p → i = j := fun i j p h1 h2 => by
          have hi : i < ks.length := by have := (List.getElem?_eq_some_iff.mp h1).1; simpa using this
          have hj : j < ks.length := by have := (List.getElem?_eq_some_iff.mp h2).1; simpa using this
          have e1 : ks[i]? = some ks[i] := List.getElem?_eq_getElem hi
          have e2 : ks[j]? = some ks[j] := List.getElem?_eq_getElem hj
          rw [hbd i _ e1] at h1
          rw [hbd j _ e2] at h2
          have e3 := nodup_at R.adn h1 h2
          exact nodup_at P.nd e1 (by rw [e2, e3])
        refine List.pairwise_iff_getElem.mpr fun i j hi hj hij he => ?_
        have := inj i j _ (List.getElem?_eq_getElem hi) (by rw [List.getElem?_eq_getElem hj, he])
        omega
      pre := Px.refl _
      ob := fun j o p h1 h2 => by
        obtain ⟨hb, k, e1, e2⟩ := P.at_ j o h1
        have h3 : ad[k]? = some p := by rw [← hbd j k e1]; exact h2
        have q := R.ob k _ p e2 h3
        refine (OAt.in_ (c' := c) S hb fun fp => ⟨fun _ => ?_, fun _ => ?_⟩).mpr q
        · by_cases hm : (o.ren (out ks ob.length)).mut = true
          · exact (q.free hm).2
          · cases o with
            | fz d =>
              obtain ⟨⟨u, hu⟩, _⟩ := q
              rw [fp] at hu
              cases hu
            | _ => exact absurd rfl hm
        · show (if p ∈ (ks.map fun k => ad.getD k 0) then none else H p) = none
          rw [if_pos (List.mem_of_getElem? h2)]
      sl := fun i r h => by simp at h }
/-- behind the call -/
theorem leave {bd bd' : List Addr} {ob' : List OD} {F' H' : Hp} (R : Rel T c ⟨sl, ob⟩ σ F H ad) (P : Pass ob ks obl rs rsl) (hl : bd.length = ks.length) (hbd : ∀ j k : Nat, ks[j]? = some k → bd[j]? = ad[k]?)
    (R' : Rel T ⟨F, fun a => if a ∈ bd then none else H a, bd⟩ ⟨[], ob'⟩ [] F' H' bd') (e : Ex F F') (px : Px bd bd') (hm : ∀ (j : Nat) (o : OD), obl.length ≤ j → ob'[j]? = some o → o.mut = true) (hbl : ∀ o ∈ ob', o.below ob'.length = true) :
    Rel T c ⟨sl, back ks ob ob'⟩ σ F' H' (ad ++ bd'.drop ks.length) ∧ Px ad (ad ++ bd'.drop ks.length) ∧ Sees ob'.length (out ks ob.length) bd' (ad ++ bd'.drop ks.length) := by
  have hkl : ∀ {j k : Nat}, ks[j]? = some k → k < ad.length := fun {j k} h => by
    have hj : j < bd.length := by rw [hl]; exact (List.getElem?_eq_some_iff.mp h).1
    have := hbd j k h
    rw [List.getElem?_eq_getElem hj] at this
    exact (List.getElem?_eq_some_iff.mp this.symm).1
  have hle : ks.length ≤ bd'.length := by
    rw [← hl]
    by_cases h0 : bd.length = 0
    · omega
    · have := px (bd.length - 1) bd[bd.length - 1] (List.getElem?_eq_getElem (by omega))
      have := (List.getElem?_eq_some_iff.mp this).1
      omega
  have hol : ob'.length = bd'.length := R'.adl.symm
  -- the numbers
  have S : Sees ob'.length (out ks ob.length) bd' (ad ++ bd'.drop ks.length) := fun j p hj => by
    unfold out
    cases e1 : ks[j]? with
    | some k =>
      show _ ↔ (ad ++ bd'.drop ks.length)[k]? = some p
      rw [List.getElem?_append_left (hkl e1), ← hbd j k e1]
      have hj' : j < bd.length := by rw [hl]; exact (List.getElem?_eq_some_iff.mp e1).1
      have h1 := px j _ (List.getElem?_eq_getElem hj')
      rw [h1, List.getElem?_eq_getElem hj']
    | none =>
      have hj2 : ks.length ≤ j := List.getElem?_eq_none_iff.mp e1
      show _ ↔ (ad ++ bd'.drop ks.length)[ob.length + (j - ks.length)]? = some p
      have hal : ad.length = ob.length := R.adl
      rw [List.getElem?_append_right (by omega), List.getElem?_drop]
      have : ks.length + (ob.length + (j - ks.length) - ad.length) = j := by omega
      rw [this]
  have new_free : ∀ {j : Nat} {p : Addr}, ks.length ≤ j → bd'[j]? = some p → (F' p = none) ∧ p ∉ bd ∧ H p = none := fun {j p} hj h => by
    have hj2 : j < ob'.length := by rw [hol]; exact (List.getElem?_eq_some_iff.mp h).1
    have q := R'.ob j _ p (List.getElem?_eq_getElem hj2) h
    obtain ⟨f1, b1⟩ := q.free (hm j _ (by rw [P.len]; exact hj) (List.getElem?_eq_getElem hj2))
    have b2 : (if p ∈ bd then none else H p) = none := b1
    have nin : p ∉ bd := fun hp => by
      obtain ⟨i, hi⟩ := List.getElem?_of_mem hp
      have e2 := nodup_at R'.adn (px i p hi) h
      have := (List.getElem?_eq_some_iff.mp hi).1
      omega
    rw [if_neg nin] at b2
    exact ⟨f1, nin, b2⟩
  have pxa : Px ad (ad ++ bd'.drop ks.length) := Px.app ad _
  refine ⟨?_, pxa, S⟩
  exact {
    len := R.len
    fh := R'.fh
    f0 := R.f0.trans e
    bh := fun a o h => by
      by_cases ha : a ∈ bd
      · -- a passed object is not in c.B, or it stands in F
        obtain ⟨j, hj⟩ := List.getElem?_of_mem ha
        have hjk : j < ks.length := by have := (List.getElem?_eq_some_iff.mp hj).1; omega
        have ek : ks[j]? = some ks[j] := List.getElem?_eq_getElem hjk
        have hadk : ad[ks[j]]? = some a := by rw [← hbd j _ ek]; exact hj
        obtain ⟨ok, ek2, q⟩ := R.obs hadk
        by_cases hmu : ok.mut = true
        · rw [(q.free hmu).2] at h
          cases h
        · cases ok with
          | fz d =>
            obtain ⟨⟨u, hu⟩, _⟩ := q
            have h1 := R.bh a o h
            have h2 := R.fh a u hu
            rw [h1] at h2
            cases h2
            exact R'.fh a o (e a o hu)
          | _ => exact absurd rfl hmu
      · refine R'.bh a o ?_
        show (if a ∈ bd then none else H a) = some o
        rw [if_neg ha]
        exact R.bh a o h
    fr := fun a o hFa => by
      rcases R'.fr a o hFa with h | h
      · exact R.fr a o h
      · have h' : (if a ∈ bd then none else H a) = none := h
        by_cases ha : a ∈ bd
        · obtain ⟨j, hj⟩ := List.getElem?_of_mem ha
          have hjk : j < ks.length := by have := (List.getElem?_eq_some_iff.mp hj).1; omega
          have ek : ks[j]? = some ks[j] := List.getElem?_eq_getElem hjk
          have hadk : ad[ks[j]]? = some a := by rw [← hbd j _ ek]; exact hj
          obtain ⟨ok, ek2, q⟩ := R.obs hadk
          by_cases hmu : ok.mut = true
          · exact .inr (q.free hmu).2
          · cases ok with
            | fz d =>
              obtain ⟨⟨u, hu⟩, _⟩ := q
              have h2 := e a u hu
              rw [hFa] at h2
              cases h2
              exact R.fr a o hu
            | _ => exact absurd rfl hmu
        · rw [if_neg ha] at h'
          refine .inr ?_
          cases hb : c.B a with
          | none => rfl
          | some u =>
            rw [R.bh a u hb] at h'
            cases h'
    adl := by
      show (ad ++ bd'.drop ks.length).length = (back ks ob ob').length
      have := R.adl
      have e1 : ad.length = ob.length := this
      simp [back, putAll_len, e1, hol]
    adn := by
      refine List.nodup_append.mpr ⟨R.adn, R'.adn.sublist (List.drop_sublist _ _), fun a ha b hb => ?_⟩
      rintro rfl
      obtain ⟨j, hj⟩ := List.getElem?_of_mem hb
      rw [List.getElem?_drop] at hj
      obtain ⟨_, _, n3⟩ := new_free (by omega) hj
      obtain ⟨i, hi⟩ := List.getElem?_of_mem ha
      obtain ⟨u, hu⟩ := R.tracked hi
      rw [n3] at hu
      cases hu
    pre := R.pre.trans pxa
    ob := fun i o p h1 h2 => by
      have h1' : (back ks ob ob')[i]? = some o := h1
      unfold back at h1'
      have eal : ad.length = ob.length := R.adl
      by_cases hi : i < ad.length
      · rw [List.getElem?_append_left hi] at h2
        rw [List.getElem?_append_left (by rw [putAll_len]; omega)] at h1'
        by_cases hik : i ∈ ks
        · obtain ⟨j, hj⟩ := List.getElem?_of_mem hik
          have hjk : j < ks.length := (List.getElem?_eq_some_iff.mp hj).1
          have hjo : j < ob'.length := by omega
          have hos : ((ob'.take ks.length).map (OD.ren (out ks ob.length)))[j]? = some (ob'[j].ren (out ks ob.length)) := by
            rw [List.getElem?_map, List.getElem?_take_of_lt hjk, List.getElem?_eq_getElem hjo]
            rfl
          rw [putAll_at ks _ ob P.nd hj hos (by omega)] at h1'
          cases h1'
          have hbp : bd[j]? = some p := by rw [hbd j i hj]; exact h2
          have q := R'.ob j _ p (List.getElem?_eq_getElem hjo) (px j p hbp)
          refine (OAt.in_ (c' := c) S (hbl _ (List.getElem_mem hjo)) fun fp => ⟨fun _ => ?_, fun _ => ?_⟩).mp q
          · obtain ⟨ok, ek2, q0⟩ := R.obs h2
            by_cases hmu : ok.mut = true
            · exact (q0.free hmu).2
            · cases ok with
              | fz d =>
                obtain ⟨⟨u, hu⟩, _⟩ := q0
                have := e p u hu
                rw [fp] at this
                cases this
              | _ => exact absurd rfl hmu
          · show (if p ∈ bd then none else H p) = none
            rw [if_pos (List.mem_of_getElem? hbp)]
        · rw [putAll_out ks _ ob hik] at h1'
          have q0 := R.ob i o p h1' h2
          have nin : p ∉ bd := fun hp => by
            obtain ⟨j, hj⟩ := List.getElem?_of_mem hp
            have hjk : j < ks.length := by have := (List.getElem?_eq_some_iff.mp hj).1; omega
            have ek : ks[j]? = some ks[j] := List.getElem?_eq_getElem hjk
            rw [hbd j _ ek] at hj
            have := nodup_at R.adn hj h2
            exact hik (this ▸ List.mem_of_getElem? ek)
          refine OAt.mono e (fun fn => ?_) (fun u hu => ?_) pxa q0
          · cases hF : F' p with
            | none => rfl
            | some u =>
              rcases R'.fr p u hF with z | z
              · have z' : F p = some u := z
                rw [fn] at z'
                cases z'
              · have z' : (if p ∈ bd then none else H p) = none := z
                rw [if_neg nin] at z'
                obtain ⟨u2, hu2⟩ := R.tracked h2
                rw [z'] at hu2
                cases hu2
          · refine R'.bh p u ?_
            show (if p ∈ bd then none else H p) = some u
            rw [if_neg nin]
            exact hu
      · rw [List.getElem?_append_right (by omega), List.getElem?_drop] at h2
        rw [List.getElem?_append_right (by rw [putAll_len]; omega), putAll_len, List.getElem?_map, List.getElem?_drop] at h1'
        rw [eal] at h2
        have hjo : ks.length + (i - ob.length) < ob'.length := by rw [hol]; exact (List.getElem?_eq_some_iff.mp h2).1
        rw [List.getElem?_eq_getElem hjo] at h1'
        have h1'' := Option.some.inj h1'
        subst h1''
        obtain ⟨n1, n2, n3⟩ := new_free (by omega) h2
        have q := R'.ob _ _ p (List.getElem?_eq_getElem hjo) h2
        refine (OAt.in_ (c' := c) S (hbl _ (List.getElem_mem hjo)) fun fp => ⟨fun _ => ?_, fun _ => ?_⟩).mp q
        · cases hb : c.B p with
          | none => rfl
          | some u =>
            rw [R.bh p u hb] at n3
            cases n3
        · show (if p ∈ bd then none else H p) = none
          rw [if_neg n2]
          exact n3
    sl := fun i r h => by
      obtain ⟨v, hv, hr⟩ := R.sl i r h
      exact ⟨v, hv, hr.mono e pxa⟩ }
end
end DL
end
section
set_option Elab.async false
set_option linter.all false
set_option autoImplicit false
set_option maxRecDepth 100000
set_option maxHeartbeats 2000000
/-! DLF: contracts of defs (FX), FnG, the call, a def from its body. -/
namespace DL
open PySem PySem.Spec L2
open PyProof.Rows hiding St

/-- what a def does with its arguments and the objects that are passed -/
abbrev FX := List RV → List OD → (RV → List OD → Prop) → (Xc → List OD → Prop) → Prop
def okNew (n : Nat) (ob' : List OD) : Prop := (∀ (j : Nat) (o : OD), n ≤ j → ob'[j]? = some o → o.mut = true) ∧ ∀ o ∈ ob', o.below ob'.length = true
def spF (T : Cn) (f : FX) : Sp := fun vs H Q E => ∃ c F ad rs ob P R, Rel T c ⟨[], ob⟩ [] F H ad ∧ RvL T F ad rs vs ∧ f rs ob P R ∧
  (∀ v H' F' ad' ob' r, Ex F F' → Px ad ad' → Rel T c ⟨[], ob'⟩ [] F' H' ad' → RvR T F' ad' r v → okNew ob.length ob' → r.below ob'.length = true → P r ob' → Q v H') ∧
  (∀ cls d H' F' ad' ob' x, Ex F F' → Px ad ad' → Rel T c ⟨[], ob'⟩ [] F' H' ad' → XRep T F' x cls d → okNew ob.length ob' → R x ob' → E cls d H')
/-- the def at f keeps fx -/
structure FnG (T : Cn) (P : Program) (w : World) (base : Heap) (k : Nat) (f : Addr) (fd : FuncData) (ps : List Str) (fx : FX) : Prop where
  len : ∀ rs ob P R, fx rs ob P R → rs.length = ps.length
  run : ∀ (A : Around) (outer : List PySem.Env) (s : Shared) (H : Hp) (args : Args) (us : List Value) (vs : List V) (Q : VK) (E : XK), Room k A → A.guards = some [] → Env0 P w T.K T.mg base A outer s H → BindsTo s fd args (ps.zip us) → Vals vs us →
    spF T fx vs H Q E → codeAny (model P w) A (.call (.ref f) args) (CR (L2.CX P w) outer P w H s Q E) s
theorem FnG.mono {T : Cn} {P : Program} {w : World} {base : Heap} {j k : Nat} {f : Addr} {fd : FuncData} {ps : List Str} {fx : FX} (F : FnG T P w base j f fd ps fx) (h : j ≤ k) : FnG T P w base k f fd ps fx :=
  ⟨F.len, fun A outer s H args us vs Q E hr => F.run A outer s H args us vs Q E (hr.mono h)⟩

/-! ### arguments -/
/-- which arguments change no more (true) -/
def frz : List Bool → List OD → List RV → Option (List RV × List OD)
  | _, ob, [] => some ([], ob)
  | true :: m, ob, r :: rs => match fzR 9 ob r with
    | some (d, ob') => (match frz m ob' rs with
      | some (qs, ob'') => some (.val d :: qs, ob'')
      | none => none)
    | none => none
  | false :: m, ob, r :: rs => (match frz m ob rs with
      | some (qs, ob'') => some (r :: qs, ob'')
      | none => none)
  | [], _, _ :: _ => none
def cal (m : List Bool) (dd : List D) (fx : FX) (rs : List RV) (e : Env) (P : RV → Env → Prop) (R : Xc → Env → Prop) : Prop :=
  ∃ rs1 ob1 ks obl rsl, frz m e.ob rs = some (rs1, ob1) ∧ Pass ob1 ks obl rs1 rsl ∧ fx (rsl ++ dd.map .val) obl (fun r ob' => P (r.ren (out ks ob1.length)) ⟨e.sl, back ks ob1 ob'⟩) (fun x ob' => R x ⟨e.sl, back ks ob1 ob'⟩)
def eCall (m : List Bool) (dd : List D) (fx : FX) (u : AX) : EX := fun e P R => u e (fun rs e1 => cal m dd fx rs e1 P R) R
section
variable {T : Cn} {c : BF} {sl : List (Option RV)} {σ : L2.St} {H : Hp} {ad : List Addr}
theorem frz_ok : ∀ (m : List Bool) {ob ob' : List OD} {F : Hp} {rs rs1 : List RV}, Rel T c ⟨sl, ob⟩ σ F H ad → frz m ob rs = some (rs1, ob') →
    ∃ F', Ex F F' ∧ Rel T c ⟨sl, ob'⟩ σ F' H ad ∧ ∀ vs, RvL T F ad rs vs → RvL T F' ad rs1 vs
  | m, ob, ob', F, [], rs1, R, h => by
    rw [frz] at h
    cases h
    exact ⟨F, Ex.refl F, R, fun v hv => hv⟩
  | [], ob, ob', F, r :: rs, rs1, R, h => by
    rw [frz] at h
    cases h
  | true :: m, ob, ob', F, r :: rs, rs1, R, h => by
    rw [frz] at h
    cases h1 : fzR 9 ob r with
    | none =>
      rw [h1] at h
      cases h
    | some x =>
      obtain ⟨d, ob1⟩ := x
      rw [h1] at h
      dsimp only at h
      cases h2 : frz m ob1 rs with
      | none =>
        rw [h2] at h
        cases h
      | some y =>
        obtain ⟨es, ob2⟩ := y
        rw [h2] at h
        cases h
        obtain ⟨F1, e1, R1, q1⟩ := fzR_ok 9 R h1
        obtain ⟨F2, e2, R2, q2⟩ := frz_ok m R1 h2
        refine ⟨F2, e1.trans e2, R2, fun vs hv => ?_⟩
        obtain ⟨v, q, rfl, a1, a2⟩ := hv
        exact ⟨v, q, rfl, (q1 v a1).mono e2, q2 q (a2.mono e1 (Px.refl ad))⟩
  | false :: m, ob, ob', F, r :: rs, rs1, R, h => by
    rw [frz] at h
    cases h2 : frz m ob rs with
    | none =>
      rw [h2] at h
      cases h
    | some y =>
      obtain ⟨es, ob2⟩ := y
      rw [h2] at h
      cases h
      obtain ⟨F2, e2, R2, q2⟩ := frz_ok m R h2
      refine ⟨F2, e2, R2, fun vs hv => ?_⟩
      obtain ⟨v, q, rfl, a1, a2⟩ := hv
      exact ⟨v, q, rfl, a1.mono e2 (Px.refl ad), q2 q a2⟩
theorem cal_ok {W : WX} {m : List Bool} {dd : List D} {dvs : List V} {fx : FX} {rs : List RV} {vs : List V} {e : Env} {F : Hp} {P : RV → Env → Prop} {R' : Xc → Env → Prop} {Q : VK} (R : Rel T c e σ F H ad) (hv : RvL T F ad rs vs) (h : cal m dd fx rs e P R')
    (hq : QL T c σ F ad P Q) (hx : XL T c W F ad R') (hdd : ∀ F, RepL T F dd dvs) : spF T fx (vs ++ dvs) H Q (fun cls d H' => W cls d σ H') := by
  obtain ⟨rs1, ob1, ks, obl, rsl, h1, hp, h2⟩ := h
  obtain ⟨sl, ob⟩ := e
  obtain ⟨F1, x1, R1, q1⟩ := frz_ok m R h1
  obtain ⟨bd, b1, b2, S, R2⟩ := enter R1 hp
  have hv1 := q1 vs hv
  rw [hp.rs] at hv1
  refine ⟨_, F1, bd, rsl ++ dd.map .val, obl, _, _, R2, RvL.append ((RvL.in_ S hp.rb).mpr hv1) (RvL.of (hdd F1)), h2, ?_, ?_⟩
  · intro v H' F' bd' ob' r x2 px R3 hr hn hb q
    obtain ⟨R4, p4, S4⟩ := leave R1 hp b1 b2 R3 x2 px hn.1 hn.2
    exact hq v H' F' _ _ _ (x1.trans x2) p4 R4 ((RvR.in_ S4 hb).mp hr) q
  · intro cls d H' F' bd' ob' x x2 px R3 hr hn q
    obtain ⟨R4, p4, S4⟩ := leave R1 hp b1 b2 R3 x2 px hn.1 hn.2
    exact hx cls d _ H' F' _ _ x (x1.trans x2) p4 R4 hr q
end

/-! ### the call -/
section
variable {T : Cn} {X : Cx} {W : WX} {k : Nat} {f : Addr} {fd : FuncData} {ps : List Str} {fx : FX} {x : Str} {p pos : Pos} {e : Expr} {es : List Expr} {u : AX}
theorem runG {pins : List (Addr × Obj)} {σ : L2.St} {H : Hp} {s : Shared} {Q : VK} {us us0 : List Value} {kw : List (Str × Value)} {vs : List V} (F : FnG T X.prog X.w X.base k f fd ps fx) (hr : Room k X.A) (hgd : X.A.guards = some []) (hK : X.K = T.K) (hM : X.mg = T.mg) (tk : Takes X W)
    (I : Inv X pins σ H s) (hb : BindsTo s fd ⟨us0, kw⟩ (ps.zip us)) (r : Vals vs us) (h : spF T fx vs H Q (fun cls d H' => W cls d σ H')) : wpAny (model X.prog X.w) X.A (call (.ref f) us0 kw) (EP X pins σ Q) X.xe s := by
  have e0 : Env0 X.prog X.w T.K T.mg X.base X.A X.stack s H := by
    rw [← hK, ← hM]
    exact I.env0
  refine wpAny_call (codeAny_mono (F.run X.A X.stack s H ⟨us0, kw⟩ us vs Q _ hr hgd e0 hb r h) fun res s' hq => ?_)
  match res, hq with
  | .error ex, hq => exact tk ex s' (XE.of_call I (fun _ _ _ z => z) hq)
  | .ok (.ret _), hq => exact I.after hq
theorem spF_len {vs : List V} {H : Hp} {Q : VK} {E : XK} (F : FnG T X.prog X.w X.base k f fd ps fx) (h : spF T fx vs H Q E) : vs.length = ps.length := by
  obtain ⟨c, F1, ad, rs, ob, P, R, _, hv, hf, _⟩ := h
  rw [hv.len]
  exact F.len _ _ _ _ hf
/-- f(e, ..) -/
theorem de_call {dd : List D} {dvs : List V} {ds : List Value} (m : List Bool) (F : FnG T X.prog X.w X.base k f fd ps fx) (hr : Room k X.A) (hgd : X.A.guards = some []) (tk : Takes X W) (hm : X.mg x = some (.ref f)) (hk : PySem.W.keepIn X.K (.ref f) = true)
    (hb : Binds X.K fd ps ds) (hd : Vals dvs ds) (hdd : ∀ F, RepL T F dd dvs) (ha : DA T X W (e :: es) u) (hg : Gl X x := by rfl) (hK : X.K = T.K := by rfl) (hM : X.mg = T.mg := by rfl)
    (hdb : (x == ("__debug__" : Str)) = false := by decide) (he : starEach (e :: es) X.env = (false, eval e X.env) :: starEach es X.env := by rfl) (hpl : (backTo pos (starEach es X.env)).any (·.1) = false := by rfl) :
    DE T X W (.Call (.Name x p) (e :: es) [] pos) (eCall m dd fx u) := ⟨⟨fun pins s σ H Q I h => by
  refine wpAny_Call_Name_kw (ld_glob I hg hm ?_ hdb)
  obtain ⟨c, F1, ad, en, P, R, rel, q, hq, hx⟩ := h
  refine PySem.W.callWith_K (h₀ := X.base) I.ok.mod.kin hk (thn (ha.pa.run pos pins s σ H _ I ⟨c, F1, ad, en, _, R, rel, q, fun vs H1 F2 ad1 e1 rs x1 p1 rel1 r1 q1 => cal_ok rel1 r1 q1 (hq.mono x1 p1) (hx.mono x1 p1) hdd, hx⟩) fun us s1 ⟨vs, H1, I1, r, q⟩ => ⟨I1.kIn, ?_⟩) he hpl
  have r2 := r.append hd
  exact runG F hr hgd hK hM tk I1 (hb s1 us I1.kIn (by rw [← r2.length]; exact spF_len F q)) r2 q⟩⟩
theorem de_call0 {dd : List D} {dvs : List V} {ds : List Value} (F : FnG T X.prog X.w X.base k f fd ps fx) (hr : Room k X.A) (hgd : X.A.guards = some []) (tk : Takes X W) (hm : X.mg x = some (.ref f)) (hk : PySem.W.keepIn X.K (.ref f) = true)
    (hb : Binds X.K fd ps ds) (hd : Vals dvs ds) (hdd : ∀ F, RepL T F dd dvs) (hg : Gl X x := by rfl) (hK : X.K = T.K := by rfl) (hM : X.mg = T.mg := by rfl)
    (hdb : (x == ("__debug__" : Str)) = false := by decide) : DE T X W (.Call (.Name x p) [] [] pos) (eCall [] dd fx aNil) := ⟨⟨fun pins s σ H Q I h => by
  refine wpAny_Call_Name_kw (ld_glob I hg hm ?_ hdb)
  obtain ⟨c, F1, ad, en, P, R, rel, q, hq, hx⟩ := h
  have q2 := cal_ok (vs := []) rel (show RvL T F1 ad [] [] from rfl) (show cal [] dd fx [] en P R from q) hq hx hdd
  exact PySem.W.callWith_K0 I.kIn hk (runG (us0 := []) F hr hgd hK hM tk I (hb s [] I.kIn (by rw [List.nil_append, ← hd.length]; exact spF_len F q2)) hd q2)⟩⟩
end

/-! ### a def from its body -/
def flatN (n : Nat) (ob : List OD) : Prop := ∀ o ∈ ob.take n, o.below n = true
/-- the end of a body: data; a new object; one that was passed -/
def fin (n : Nat) (P : RV → List OD → Prop) (r : RV) (e : Env) : Prop :=
  (∃ d ob', fzR 9 e.ob r = some (d, ob') ∧ flatN n ob' ∧ P (.val d) (ob'.take n)) ∨
  (∃ k o, r = .ob k ∧ n ≤ k ∧ e.ob[k]? = some o ∧ o.mut = true ∧ o.below n = true ∧ flatN n e.ob ∧ P (.ob n) (e.ob.take n ++ [o])) ∨
  (∃ k, r = .ob k ∧ k < n ∧ flatN n e.ob ∧ P (.ob k) (e.ob.take n))
def finX (n : Nat) (R : Xc → List OD → Prop) (x : Xc) (e : Env) : Prop := flatN n e.ob ∧ R x (e.ob.take n)
def startE (N : Nat) (rs : List RV) (ob : List OD) : Env := ⟨rs.map some ++ List.replicate (N - rs.length) none, ob⟩
section
variable {T : Cn} {c : BF} {sl : List (Option RV)} {ob : List OD} {σ : L2.St} {F H : Hp} {ad ad0 : List Addr} {n : Nat}
theorem take_eq {ad0 ad : List Addr} (p : Px ad0 ad) : ad.take ad0.length = ad0 := by
  apply List.ext_getElem?
  intro i
  by_cases h : i < ad0.length
  · rw [List.getElem?_take_of_lt h, List.getElem?_eq_getElem h]
    exact p i _ (List.getElem?_eq_getElem h)
  · rw [List.getElem?_eq_none_iff.mpr (by rw [List.length_take]; omega), List.getElem?_eq_none_iff.mpr (by omega)]
theorem px_len {ad0 ad : List Addr} (p : Px ad0 ad) : ad0.length ≤ ad.length := by
  have := congrArg List.length (take_eq p)
  rw [List.length_take] at this
  omega
theorem sees_take (h : n ≤ ad.length) : Sees n id (ad.take n) ad := fun k p hk => by
  rw [List.getElem?_take_of_lt hk]
  exact Iff.rfl
theorem RV.ren_id (r : RV) : r.ren id = r := by cases r <;> rfl
theorem OD.ren_id (o : OD) : o.ren id = o := by
  cases o with
  | lsr xs => exact congrArg OD.lsr (by rw [show RV.ren id = id from funext RV.ren_id, List.map_id])
  | tpr xs => exact congrArg OD.tpr (by rw [show RV.ren id = id from funext RV.ren_id, List.map_id])
  | ins k fs => exact congrArg (OD.ins k) (by rw [show (fun p : Nat × RV => (p.1, p.2.ren id)) = id from funext fun p => by rw [RV.ren_id]; rfl, List.map_id])
  | _ => rfl
/-- only the first n objects are told -/
theorem Rel.first (R : Rel T c ⟨sl, ob⟩ σ F H ad) (hp : Px c.ad0 ad0) (px : Px ad0 ad) (hl : flatN ad0.length ob) : Rel T c ⟨[], ob.take ad0.length⟩ [] F H ad0 := by
  have hlen := px_len px
  have e0 := take_eq px
  have hob : ad.length = ob.length := R.adl
  exact {
    len := rfl
    fh := R.fh
    f0 := R.f0
    bh := R.bh
    fr := R.fr
    adl := by
      show ad0.length = (ob.take ad0.length).length
      rw [List.length_take]
      omega
    adn := by
      rw [← e0]
      exact R.adn.sublist (List.take_sublist _ _)
    pre := hp
    ob := fun k o p h1 h2 => by
      have h1' : (ob.take ad0.length)[k]? = some o := h1
      have hk : k < ad0.length := (List.getElem?_eq_some_iff.mp h2).1
      rw [List.getElem?_take_of_lt hk] at h1'
      have q := R.ob k o p h1' (px k p h2)
      have S : Sees ad0.length id ad0 ad := by
        have := sees_take (n := ad0.length) hlen
        rw [e0] at this
        exact this
      refine (OAt.in_ (c' := c) S (hl o (List.mem_of_getElem? (show (ob.take ad0.length)[k]? = some o from h1))) fun _ => Iff.rfl).mpr ?_
      rw [OD.ren_id]
      exact q
    sl := fun i r h => by simp at h }
theorem Rel.bare (R : Rel T c ⟨sl, ob⟩ σ F H ad) : Rel T c ⟨[], ob⟩ [] F H ad := ⟨rfl, R.fh, R.f0, R.bh, R.fr, R.adl, R.adn, R.pre, R.ob, fun i r h => by simp at h⟩
theorem okNew_take (hn : ad0.length ≤ ob.length) (hl : flatN ad0.length ob) : okNew ad0.length (ob.take ad0.length) := by
  have e : (ob.take ad0.length).length = ad0.length := by
    rw [List.length_take]
    omega
  refine ⟨fun j o h1 h2 => ?_, fun o ho => ?_⟩
  · have := (List.getElem?_eq_some_iff.mp h2).1
    omega
  · rw [e]
    exact hl o ho
theorem OD.below_mono {o : OD} {a b : Nat} (h : a ≤ b) (hb : o.below a = true) : o.below b = true := by
  have hr : ∀ r : RV, r.below a = true → r.below b = true := fun r hr => by
    cases r with
    | val d => rfl
    | ob k =>
      have : k < a := by simpa [RV.below] using hr
      simp [RV.below]
      omega
  cases o with
  | lsr xs =>
    refine List.all_eq_true.mpr fun r h => hr r (List.all_eq_true.mp hb r h)
  | tpr xs =>
    refine List.all_eq_true.mpr fun r h => hr r (List.all_eq_true.mp hb r h)
  | ins k fs =>
    refine List.all_eq_true.mpr fun r h => hr r.2 (List.all_eq_true.mp hb r h)
  | _ => rfl
/-- .. and one new object -/
theorem Rel.firstNew {k : Nat} {o : OD} {p : Addr} (R : Rel T c ⟨sl, ob⟩ σ F H ad) (hp : Px c.ad0 ad0) (px : Px ad0 ad) (hl : flatN ad0.length ob) (hk : ad0.length ≤ k) (ho : ob[k]? = some o) (ha : ad[k]? = some p) (hb : o.below ad0.length = true) :
    Rel T c ⟨[], ob.take ad0.length ++ [o]⟩ [] F H (ad0 ++ [p]) := by
  have hlen := px_len px
  have e0 := take_eq px
  have hob : ad.length = ob.length := R.adl
  have R1 := R.first hp px hl
  have etl : (ob.take ad0.length).length = ad0.length := by
    rw [List.length_take]
    omega
  have S : Sees ad0.length id ad0 ad := by
    have := sees_take (n := ad0.length) hlen
    rw [e0] at this
    exact this
  have S2 : Sees ad0.length id ad0 (ad0 ++ [p]) := fun j q hj => by
    show _ ↔ (ad0 ++ [p])[j]? = some q
    rw [List.getElem?_append_left hj]
  exact {
    len := rfl
    fh := R.fh
    f0 := R.f0
    bh := R.bh
    fr := R.fr
    adl := by
      show (ad0 ++ [p]).length = (ob.take ad0.length ++ [o]).length
      rw [List.length_append, List.length_append, etl]
      rfl
    adn := by
      refine List.nodup_append.mpr ⟨R1.adn, by simp, fun a ha' b hb' => ?_⟩
      have eb : b = p := by simpa using hb'
      subst eb
      rintro rfl
      obtain ⟨i, hi⟩ := List.getElem?_of_mem ha'
      have := nodup_at R.adn (px i a hi) ha
      have := (List.getElem?_eq_some_iff.mp hi).1
      omega
    pre := hp.trans (Px.push ad0 p)
    ob := fun j o' q h1 h2 => by
      have h1' : (ob.take ad0.length ++ [o])[j]? = some o' := h1
      by_cases hj : j < ad0.length
      · rw [List.getElem?_append_left (by omega)] at h1'
        rw [List.getElem?_append_left hj] at h2
        exact OAt.mono (Ex.refl F) (fun n => n) (fun u hu => hu) (Px.push ad0 p) (R1.ob j o' q h1' h2)
      · have hj2 : j = ad0.length := by
          have := (List.getElem?_eq_some_iff.mp h2).1
          rw [List.length_append] at this
          have e1 : [p].length = 1 := rfl
          omega
        subst hj2
        rw [List.getElem?_append_right (Nat.le_refl _), Nat.sub_self] at h2
        rw [List.getElem?_append_right (by omega), etl, Nat.sub_self] at h1'
        have eo : o = o' := by simpa using h1'
        have ep : p = q := by simpa using h2
        subst eo
        subst ep
        have q := R.ob k o p ho ha
        have q1 : OAt T c F H ad0 p o := (OAt.in_ (c' := c) S hb fun _ => Iff.rfl).mpr (by rw [OD.ren_id]; exact q)
        have q2 := (OAt.in_ (c' := c) S2 hb fun _ => Iff.rfl).mp q1
        rw [OD.ren_id] at q2
        exact q2
    sl := fun i r h => by simp at h }
theorem fin_ok {P : RV → List OD → Prop} {Q : VK} {F0 : Hp} {r : RV} {v : V} (R : Rel T c ⟨sl, ob⟩ σ F H ad) (hp : Px c.ad0 ad0) (px : Px ad0 ad) (x0 : Ex F0 F) (hr : RvR T F ad r v) (h : fin ad0.length P r ⟨sl, ob⟩)
    (hq : ∀ v H' F' ad' ob' r, Ex F0 F' → Px ad0 ad' → Rel T c ⟨[], ob'⟩ [] F' H' ad' → RvR T F' ad' r v → okNew ad0.length ob' → r.below ob'.length = true → P r ob' → Q v H') : Q v H := by
  have hlen := px_len px
  have hob : ad.length = ob.length := R.adl
  rcases h with ⟨d, ob', h1, h2, h3⟩ | ⟨k, o, rfl, h1, h2, h3, h4, h5, h6⟩ | ⟨k, rfl, h1, h2, h3⟩
  · obtain ⟨F1, x1, R1, q1⟩ := fzR_ok 9 R h1
    have hob1 : ad.length = ob'.length := R1.adl
    exact hq v H F1 ad0 _ (.val d) (x0.trans x1) (Px.refl _) (R1.first hp px h2) (q1 v hr) (okNew_take (by omega) h2) rfl h3
  · obtain ⟨p, ha, rfl⟩ := hr
    have hm : (ob.take ad0.length).length = ad0.length := by
      rw [List.length_take]
      omega
    refine hq _ H F (ad0 ++ [p]) _ (.ob ad0.length) x0 (Px.push ad0 p) (R.firstNew hp px h5 h1 h2 ha h4) ⟨p, ?_, rfl⟩ ⟨fun j o' g1 g2 => ?_, fun o' ho' => ?_⟩ ?_ h6
    · rw [List.getElem?_append_right (Nat.le_refl _), Nat.sub_self]
      rfl
    · rw [List.getElem?_append_right (by omega), hm] at g2
      have : j - ad0.length = 0 := by
        have := (List.getElem?_eq_some_iff.mp g2).1
        have e1 : [o].length = 1 := rfl
        omega
      rw [this] at g2
      cases g2
      exact h3
    · rw [List.length_append, hm]
      rcases List.mem_append.mp ho' with g | g
      · exact OD.below_mono (by omega) (h5 o' g)
      · have : o' = o := by simpa using g
        subst this
        exact OD.below_mono (by omega) h4
    · simp [RV.below, hm]
  · obtain ⟨p, ha, rfl⟩ := hr
    refine hq _ H F ad0 _ (.ob k) x0 (Px.refl _) (R.first hp px h2) ⟨p, ?_, rfl⟩ (okNew_take (by omega) h2) ?_ h3
    · rw [← take_eq px, List.getElem?_take_of_lt h1]
      exact ha
    · rw [RV.below, List.length_take]
      simp
      omega
theorem start_ok {N : List Str} {rs : List RV} {vs : List V} (R : Rel T c ⟨[], ob⟩ [] F H ad) (hv : RvL T F ad rs vs) : Rel T c (startE N.length rs ob) (L2.start N vs) F H ad := by
  have hl := hv.len
  refine R.slots (e := ⟨[], ob⟩) ?_ fun i r h => ?_
  · unfold L2.start
    rw [List.length_append, List.length_append, List.length_map, List.length_map, List.length_replicate, List.length_replicate, hl]
  · unfold L2.start
    by_cases hi : i < rs.length
    · rw [List.getElem?_append_left (by simpa using hi), List.getElem?_map] at h
      have h2 : rs[i]? = some r := by
        cases e : rs[i]? with
        | none =>
          rw [e] at h
          cases h
        | some q =>
          rw [e] at h
          cases h
          rfl
      obtain ⟨v, hv1, hr⟩ := hv.get h2
      refine ⟨v, ?_, hr⟩
      rw [List.getElem?_append_left (by rw [List.length_map, hl]; exact hi), List.getElem?_map, hv1]
      rfl
    · rw [List.getElem?_append_right (by simpa using hi), List.getElem?_replicate] at h
      split at h <;> cases h
end
def endP (n : Nat) (P : RV → List OD → Prop) (R : Xc → List OD → Prop) : Post where
  nx := fun e => fin n P (.val .non) e
  rt := fun r e => fin n P r e
  xc := fun x e => finX n R x e
section
variable {T : Cn} {Pg : Program} {w : World} {base : Heap} {k : Nat} {f : Addr} {fd : FuncData} {N ps : List Str} {fx : FX} {name qual : Str} {params : Arguments} {body : List Stmt} {scope : Scope} {dvs : List V} {kws : List (Str × V)}
/-- what a body's rules are about -/
abbrev Bod (T : Cn) (Pg : Program) (w : World) (base : Heap) (k : Nat) (N : List Str) (qual : Str) (scope : Scope) (f : Addr) (body : List Stmt) (t : SX) : Prop :=
  ∀ (cdv : Value) (A : Around) (outer : List PySem.Env) (s : Shared) (H : Hp) (E : XK), Room k (A.deeper (envOfC qual scope s.heap.objs.size f cdv)) → (A.deeper (envOfC qual scope s.heap.objs.size f cdv)).guards = some [] →
    Takes (cxOf (L2.CX Pg w) Pg w T.K T.mg base N qual scope f cdv A outer s H E) (fun cls d _ H => E cls d H) →
    DSs T (cxOf (L2.CX Pg w) Pg w T.K T.mg base N qual scope f cdv A outer s H E) (fun cls d _ H => E cls d H) body t
theorem okG {t : SX} (F : FunD T.K name qual params body scope dvs kws f fd) (S : FnScope N ps scope) (len : ∀ rs ob P R, fx rs ob P R → rs.length = ps.length) (hb : Bod T Pg w base k N qual scope f body t)
    (law : ∀ rs ob P R, fx rs ob P R → t (startE N.length rs ob) (endP ob.length P R)) : FnG T Pg w base (k + 1) f fd ps fx := by
  obtain ⟨oc, od, dV, kV, doc, pm, an, cdv, ct, osl, rfl, lk, hcd, _, _⟩ := F.ex
  refine ⟨len, fun A outer s H args us vs Q E hr hgd e0 hbd rv hsp => ?_⟩
  obtain ⟨c, F1, ad, rs, ob, P, R, rel, hv, hf, hq, hx⟩ := hsp
  have lenV : vs.length = ps.length := by
    rw [hv.len]
    exact len _ _ _ _ hf
  have kin : T.K.In s.heap := e0.mod.kin.keeps fun b o z => (e0.bs b o z).1
  have nol : s.heap.NoLimit := e0.mod.nolimit.keeps fun b o z => (e0.bs b o z).1
  have kinds : ∀ y ∈ ps.zip us, scope.names.lookup y.1 = some .local ∨ (scope.names.lookup y.1 = some .cell ∧ ((cellsFrom (s.heap.objs.size + 1) scope.names []).lookup y.1).isSome = true) := by
    rintro ⟨n, v⟩ hy
    rcases S.par n (List.of_mem_zip hy).1 with g | g
    · exact .inl g
    · exact .inr ⟨g, PySem.W.cellsFrom_some _ _ _ (.inl g)⟩
  refine codeAny_call_function hr.depth (kin _ _ lk) rfl S.co S.gen rfl (PySem.W.codeRec_of kin hcd) (hbd _ _ _ _ (wpAny_newFunctionEnv_cells S.kind kinds fun env henv s1 inc => ?_))
  subst henv
  refine ⟨nol.keeps inc.toInCall.keep, codeAny_func ?_⟩
  have tk : Takes (cxOf (L2.CX Pg w) Pg w T.K T.mg base N qual scope f cdv A outer s H E) (fun cls d _ H => E cls d H) := takes_of rfl rfl rfl rfl
  have run := hb cdv A outer s H E (hr.deeper _) hgd tk
  have I : Inv (cxOf (L2.CX Pg w) Pg w T.K T.mg base N qual scope f cdv A outer s H E) [] (L2.start N vs) H s1 := inv_start S hr.hd e0 lenV rv inc
  have adl : ad.length = ob.length := rel.adl
  have law' := law rs ob P R hf
  rw [← adl] at law' hq hx
  have hls : LS T (fun cls d _ H => E cls d H) t { nx := fun _ H' => Q .non H', rt := Q } (L2.start N vs) H := by
    refine ⟨c, F1, ad, _, _, start_ok rel hv, law', ?_, ?_, ?_, ?_, ?_⟩
    · intro σ' H' F' ad' e' x1 p1 rel1 q1
      exact fin_ok (sl := e'.sl) (ob := e'.ob) rel1 rel.pre p1 x1 (r := .val .non) (v := V.non) ((rep_non (T := T) (F := F')).mpr rfl) q1 hq
    · intro v σ' H' F' ad' e' r x1 p1 rel1 r1 q1
      exact fin_ok (sl := e'.sl) (ob := e'.ob) rel1 rel.pre p1 x1 r1 q1 hq
    · intro cls d σ' H' F' ad' e' x x1 p1 rel1 r1 q1
      have hl2 := px_len p1
      have e2 : ad'.length = e'.ob.length := rel1.adl
      exact hx cls d H' F' ad _ x x1 (Px.refl _) (Rel.first (sl := e'.sl) (ob := e'.ob) rel1 rel.pre p1 q1.1) r1 (okNew_take (by omega) q1.1) q1.2
    · intro σ' H' F' ad' e' x1 p1 rel1 q1
      exact q1
    · intro σ' H' F' ad' e' x1 p1 rel1 q1
      exact q1
  refine wpAny_mono (run.pss.run [] s1 (L2.start N vs) H _ I hls) (fun fl s' hs => ?_) fun e s' hs => hs
  match fl, hs with
  | .ret u, ⟨v, σ', H', J, rr, q⟩ => exact ⟨v, H', J.os, J.bare, J.base, J.hok, rr, q⟩
  | .next, ⟨σ', H', J, q⟩ => exact ⟨V.non, H', J.os, J.bare, J.base, J.hok, rfl, q⟩
  | .brk, ⟨_, _, _, q⟩ => exact q.elim
  | .cont, ⟨_, _, _, q⟩ => exact q.elim
end
end DL
end
section
set_option Elab.async false
set_option linter.all false
set_option autoImplicit false
set_option maxRecDepth 100000
set_option maxHeartbeats 2000000
/-! DLG: statements, targets, walks, loops. -/
namespace DL
open PySem PySem.Spec L2
open PyProof.Rows hiding St

/-! ### targets -/
abbrev GX := RV → Env → (Env → Prop) → Prop
abbrev GXs := List RV → Env → (Env → Prop) → Prop
def LG (T : Cn) (g : GX) : TG := fun v σ H Q => ∃ c F ad e r P, Rel T c e σ F H ad ∧ RvR T F ad r v ∧ g r e P ∧ ∀ σ' H' F' ad' e', Ex F F' → Px ad ad' → Rel T c e' σ' F' H' ad' → P e' → Q σ' H'
def LGs (T : Cn) (g : GXs) : TGs := fun vs σ H Q => ∃ c F ad e rs P, Rel T c e σ F H ad ∧ RvL T F ad rs vs ∧ g rs e P ∧ ∀ σ' H' F' ad' e', Ex F F' → Px ad ad' → Rel T c e' σ' F' H' ad' → P e' → Q σ' H'
structure DG (T : Cn) (X : Cx) (tg : Expr) (g : GX) : Prop where
  pg : PG X tg (LG T g)
structure DGs (T : Cn) (X : Cx) (tgs : List Expr) (g : GXs) : Prop where
  pgs : PGs X tgs (LGs T g)
def gNm (i : Nat) : GX := fun r e P => P { e with sl := e.sl.set i (some r) }
def gsNil : GXs := fun rs e P => rs = [] ∧ P e
def gsCons (g : GX) (u : GXs) : GXs := fun rs e P => ∃ r qs, rs = r :: qs ∧ g r e fun e1 => u qs e1 P
/-- the items of a tuple -/
def tpI (e : Env) (r : RV) : Option (List RV) := match r with
  | .ob k => (match e.ob[k]? with
    | some (.tpr xs) => some xs
    | some (.fz (.tup ds)) => some (ds.map .val)
    | _ => none)
  | .val (.tup ds) => some (ds.map .val)
  | .val _ => none
@[simp] theorem tpI_val (e : Env) (ds : List D) : tpI e (.val (.tup ds)) = some (ds.map .val) := rfl
def gTp (n : Nat) (u : GXs) : GX := fun r e P => ∃ rs, tpI e r = some rs ∧ rs.length = n ∧ u rs e P
section
variable {T : Cn} {X : Cx} {W : WX}
theorem PG.imp {e : Expr} {t u : TG} (h : PG X e t) (g : ∀ v σ H Q, u v σ H Q → t v σ H Q) : PG X e u := ⟨fun pins s σ H v w Q I r q => h.run pins s σ H v w Q I r (g v σ H Q q)⟩
theorem PGs.imp {e : List Expr} {t u : TGs} (h : PGs X e t) (g : ∀ v σ H Q, u v σ H Q → t v σ H Q) : PGs X e u := ⟨fun pins s σ H v w Q I r q => h.run pins s σ H v w Q I r (g v σ H Q q)⟩
theorem tpI_ok {c : BF} {e : Env} {σ : L2.St} {F H : Hp} {ad : List Addr} {r : RV} {v : V} {rs : List RV} (R : Rel T c e σ F H ad) (h : RvR T F ad r v) (q : tpI e r = some rs) : ∃ a vs, v = .ref a ∧ SqT T.K H a vs ∧ RvL T F ad rs vs := by
  have dat : ∀ {ds : List D}, Rep T F (.tup ds) v → ∃ a vs, v = .ref a ∧ SqT T.K H a vs ∧ RvL T F ad (ds.map .val) vs := fun {ds} hr => by
    obtain ⟨a, vs, e1, e2, e3⟩ := rep_tup.mp hr
    exact ⟨a, vs, e1, R.fh.sqt e2, RvL.of e3⟩
  cases r with
  | val d =>
    cases d with
    | tup ds =>
      cases q
      exact dat h
    | _ => cases q
  | ob k =>
    obtain ⟨p, hp, rfl⟩ := h
    obtain ⟨o, ho, oa⟩ := R.obs hp
    unfold tpI at q
    dsimp only at q
    rw [ho] at q
    cases o with
    | tpr xs =>
      cases q
      obtain ⟨_, _, vs, h1, h2⟩ := oa
      exact ⟨p, vs, rfl, .inl (.inl h1), h2⟩
    | fz d =>
      cases d with
      | tup ds =>
        cases q
        exact dat oa.2
      | _ => cases q
    | _ => cases q
theorem dg_name (i : Nat) {x : Str} {pos : Pos} (hN : X.N.Nodup) (hi : X.N[i]? = some x := by rfl) (hx : Loc X.env.scope x := by first | exact Or.inl rfl | exact Or.inr rfl) (hf : X.fn x = true ∨ X.env.scope.names.lookup x = some .local := by first | exact .inl rfl | exact .inr rfl) : DG T X (.Name x pos) (gNm i) :=
  ⟨PG.imp (pg_name hN hi hx hf) fun v σ H Q h => by
    obtain ⟨c, F, ad, e, r, P, rel, rr, q, k⟩ := h
    exact k _ H F ad _ (Ex.refl F) (Px.refl ad) (rel.put rr) q⟩
theorem dgs_nil : DGs T X [] gsNil := ⟨PGs.imp pgs_nil fun v σ H Q h => by
  obtain ⟨c, F, ad, e, rs, P, rel, rr, ⟨rfl, q⟩, k⟩ := h
  exact ⟨rr, k σ H F ad e (Ex.refl F) (Px.refl ad) rel q⟩⟩
theorem dgs_cons {e : Expr} {es : List Expr} {g : GX} {u : GXs} (h1 : DG T X e g) (h2 : DGs T X es u) (hs : (assignEach (e :: es) X.env).map (·.2) = assign e X.env :: (assignEach es X.env).map (·.2) := by rfl) : DGs T X (e :: es) (gsCons g u) :=
  ⟨PGs.imp (pgs_cons h1.pg h2.pgs hs) fun v σ H Q h => by
    obtain ⟨c, F, ad, e, rs, P, rel, rr, ⟨r, qs, rfl, q⟩, k⟩ := h
    obtain ⟨x, xs, e0, rx, rxs⟩ := rr
    refine ⟨x, xs, e0, c, F, ad, e, r, _, rel, rx, q, fun σ' H' F' ad' e' x1 p1 rel1 q1 => ?_⟩
    exact ⟨c, F', ad', e', qs, P, rel1, rxs.mono x1 p1, q1, fun σ2 H2 F2 ad2 e2 x2 p2 => k σ2 H2 F2 ad2 e2 (x1.trans x2) (p1.trans p2)⟩⟩
theorem dg_tup {es : List Expr} {k n : Nat} {u : GXs} {pos : Pos} (hc : X.calm = true) (h : DGs T X es u) (hK : X.K = T.K := by rfl)
    (hn : (assignEach es X.env).length = n := by rfl) (hst : (assignEach es X.env).findIdx? (·.1) = none := by rfl) : DG T X (.Tuple es k pos) (gTp n u) :=
  ⟨PG.imp (pg_tup hc h.pgs hn hst) fun v σ H Q h => by
    obtain ⟨c, F, ad, e, r, P, rel, rr, ⟨rs, e1, e2, q⟩, k⟩ := h
    obtain ⟨a, vs, ev, hs, hv⟩ := tpI_ok rel rr e1
    refine ⟨a, vs, ev, ?_, hv.len.trans e2, c, F, ad, e, rs, P, rel, hv, q, k⟩
    rw [hK]
    exact hs⟩

/-! ### statements -/
def sNext : SX := fun e Po => Po.nx e
def sSeq (t u : SX) : SX := fun e Po => t e { Po with nx := fun e1 => u e1 Po }
def sDrop (t : EX) : SX := fun e Po => t e (fun _ e1 => Po.nx e1) Po.xc
def sRet (t : EX) : SX := fun e Po => t e (fun r e1 => Po.rt r e1) Po.xc
def sRetN : SX := fun e Po => Po.rt (.val .non) e
def sIf (c : TX) (t u : SX) : SX := fun e Po => c e (fun b e1 => if b = true then t e1 Po else u e1 Po) Po.xc
def sAsg (t : EX) (g : GX) : SX := fun e Po => t e (fun r e1 => g r e1 Po.nx) Po.xc
def sBreak : SX := fun e Po => Po.bk e
def sCont : SX := fun e Po => Po.ct e
def sAug (i : Nat) (t : EX) (f : OX) : SX := fun e Po => ∃ r, e.sl[i]? = some (some r) ∧ t e (fun y e1 => f e1 r y fun z e2 => Po.nx { e2 with sl := e2.sl.set i (some z) }) Po.xc
def sPar (i j : Nat) (u : AX) : SX := fun e Po => u e (fun rs e1 => ∃ a b, rs = [a, b] ∧ Po.nx { e1 with sl := (e1.sl.set i (some a)).set j (some b) }) Po.xc
def sPar3 (i j l : Nat) (u : AX) : SX := fun e Po => u e (fun rs e1 => ∃ a b d, rs = [a, b, d] ∧ Po.nx { e1 with sl := ((e1.sl.set i (some a)).set j (some b)).set l (some d) }) Po.xc
variable {a b c : Expr} {ta tb : EX} {tc : TX} {t u : SX} {g : GX} {st : Stmt} {rest ss zs : List Stmt} {pos pos' : Pos}
/-- the wish of a statement's end -/
theorem dss_nil : DSs T X W [] sNext := ⟨PSs.imp pss_nil fun D σ H h => by
  obtain ⟨c, F, ad, e, Po, rel, q, n, _⟩ := h
  exact n σ H F ad e (Ex.refl F) (Px.refl ad) rel q⟩
theorem ds_pass : DS T X W (.Pass pos) sNext := ⟨PS.imp ps_pass fun D σ H h => by
  obtain ⟨c, F, ad, e, Po, rel, q, n, _⟩ := h
  exact n σ H F ad e (Ex.refl F) (Px.refl ad) rel q⟩
theorem ds_doc {x : Str} {j : Nat} {p2 : Pos} : DS T X W (.Expr (.Constant (.str x) j pos) p2) sNext := ⟨PS.imp ps_doc fun D σ H h => by
  obtain ⟨c, F, ad, e, Po, rel, q, n, _⟩ := h
  exact n σ H F ad e (Ex.refl F) (Px.refl ad) rel q⟩
theorem ds_break : DS T X W (.Break pos) sBreak := ⟨PS.imp ps_break fun D σ H h => by
  obtain ⟨c, F, ad, e, Po, rel, q, _, _, _, n, _⟩ := h
  exact n σ H F ad e (Ex.refl F) (Px.refl ad) rel q⟩
theorem ds_cont : DS T X W (.Continue pos) sCont := ⟨PS.imp ps_continue fun D σ H h => by
  obtain ⟨c, F, ad, e, Po, rel, q, _, _, _, _, n⟩ := h
  exact n σ H F ad e (Ex.refl F) (Px.refl ad) rel q⟩
theorem dss_cons (h1 : DS T X W st t) (h2 : DSs T X W rest u) : DSs T X W (st :: rest) (sSeq t u) := ⟨PSs.imp (pss_cons h1.ps h2.pss) fun D σ H h => by
  obtain ⟨c, F, ad, e, Po, rel, q, n, r, x, bk, ct⟩ := h
  refine ⟨c, F, ad, e, _, rel, q, fun σ' H' F' ad' e' x1 p1 rel1 q1 => ?_, r, x, bk, ct⟩
  exact ⟨c, F', ad', e', Po, rel1, q1, fun σ2 H2 F2 ad2 e2 x2 p2 => n σ2 H2 F2 ad2 e2 (x1.trans x2) (p1.trans p2), fun v σ2 H2 F2 ad2 e2 r2 x2 p2 => r v σ2 H2 F2 ad2 e2 r2 (x1.trans x2) (p1.trans p2), x.mono x1 p1,
    fun σ2 H2 F2 ad2 e2 x2 p2 => bk σ2 H2 F2 ad2 e2 (x1.trans x2) (p1.trans p2), fun σ2 H2 F2 ad2 e2 x2 p2 => ct σ2 H2 F2 ad2 e2 (x1.trans x2) (p1.trans p2)⟩⟩
theorem dss_one (h : DS T X W st t) : DSs T X W [st] t := ⟨pss_one h.ps⟩
theorem ds_expr (h : DE T X W a ta) (hs : swapsWith a none pos.line X.env = pure false := by rfl) : DS T X W (.Expr a pos) (sDrop ta) := ⟨PS.imp (ps_expr h.pe hs) fun D σ H h => by
  obtain ⟨c, F, ad, e, Po, rel, q, n, _, x, _⟩ := h
  exact ⟨c, F, ad, e, _, _, rel, q, fun v H1 F1 ad1 e1 r x1 p1 rel1 r1 q1 => n σ H1 F1 ad1 e1 x1 p1 rel1 q1, x⟩⟩
theorem ds_ret (h : DE T X W a ta) : DS T X W (.Return (some a) pos) (sRet ta) := ⟨PS.imp (ps_ret h.pe) fun D σ H h => by
  obtain ⟨c, F, ad, e, Po, rel, q, _, r, x, _⟩ := h
  exact ⟨c, F, ad, e, _, _, rel, q, fun v H1 F1 ad1 e1 rr x1 p1 rel1 r1 q1 => r v σ H1 F1 ad1 e1 rr x1 p1 rel1 r1 q1, x⟩⟩
theorem ds_retN : DS T X W (.Return none pos) sRetN := ⟨PS.imp ps_retN fun D σ H h => by
  obtain ⟨c, F, ad, e, Po, rel, q, _, r, x, _⟩ := h
  exact r .non σ H F ad e (.val .non) (Ex.refl F) (Px.refl ad) rel ((rep_non (T := T) (F := F)).mpr rfl) q⟩
theorem ds_if (hc : DT T X W a tc) (h1 : DSs T X W ss t) (h2 : DSs T X W zs u) : DS T X W (.If a ss zs pos) (sIf tc t u) := ⟨PS.imp (ps_if hc.pt h1.pss h2.pss) fun D σ H h => by
  obtain ⟨c, F, ad, e, Po, rel, q, n, r, x, bk, ct⟩ := h
  refine ⟨c, F, ad, e, _, _, rel, q, fun k H1 F1 ad1 e1 x1 p1 rel1 q1 => ?_, x⟩
  have go : ∀ {z : SX}, z e1 Po → LS T W z D σ H1 := fun {z} hz => ⟨c, F1, ad1, e1, Po, rel1, hz, fun σ2 H2 F2 ad2 e2 x2 p2 => n σ2 H2 F2 ad2 e2 (x1.trans x2) (p1.trans p2), fun v σ2 H2 F2 ad2 e2 r2 x2 p2 => r v σ2 H2 F2 ad2 e2 r2 (x1.trans x2) (p1.trans p2), x.mono x1 p1,
    fun σ2 H2 F2 ad2 e2 x2 p2 => bk σ2 H2 F2 ad2 e2 (x1.trans x2) (p1.trans p2), fun σ2 H2 F2 ad2 e2 x2 p2 => ct σ2 H2 F2 ad2 e2 (x1.trans x2) (p1.trans p2)⟩
  cases k with
  | true =>
    rw [if_pos rfl] at q1
    dsimp only
    rw [if_pos rfl]
    exact go q1
  | false => exact go q1⟩
theorem ls_asg {D : Ends} {σ : L2.St} {H : Hp} (h : LS T W (sAsg ta g) D σ H) : tAsg (LE T W ta) (LG T g) D σ H := by
  obtain ⟨c, F, ad, e, Po, rel, q, n, r, x, bk, ct⟩ := h
  refine ⟨c, F, ad, e, _, _, rel, q, fun v H1 F1 ad1 e1 rr x1 p1 rel1 r1 q1 => ?_, x⟩
  exact ⟨c, F1, ad1, e1, rr, _, rel1, r1, q1, fun σ2 H2 F2 ad2 e2 x2 p2 rel2 q2 => n σ2 H2 F2 ad2 e2 (x1.trans x2) (p1.trans p2) rel2 q2⟩
theorem ds_asg (h : DE T X W b ta) (hg : DG T X a g) (hs : swapsWithSole [a] b pos.line X.env = pure false := by rfl) (hw : swappedStores [a] b X.env = pure none := by rfl)
    (h1 : (assignEach [a] X.env).map (·.2) = [assign a X.env] := by rfl) : DS T X W (.Assign [a] b pos) (sAsg ta g) :=
  ⟨PS.imp (ps_asg h.pe hg.pg hs hw h1) fun D σ H h => ls_asg h⟩
theorem ds_set (i : Nat) {x : Str} (h : DE T X W b ta) (hN : X.N.Nodup) (hs : swapsWith b (some (.Name x pos')) pos.line X.env = pure false := by rfl) (hi : X.N[i]? = some x := by rfl) (hx : Loc X.env.scope x := by first | exact Or.inl rfl | exact Or.inr rfl)
    (hf : X.fn x = true ∨ X.env.scope.names.lookup x = some .local := by first | exact .inl rfl | exact .inr rfl) : DS T X W (.Assign [.Name x pos'] b pos) (sAsg ta (gNm i)) :=
  ⟨PS.imp (ps_set hN hi hx h.pe hs hf) fun D σ H h => by
    obtain ⟨c, F, ad, e, Po, rel, q, n, r, x, bk, ct⟩ := h
    exact ⟨c, F, ad, e, _, _, rel, q, fun v H1 F1 ad1 e1 rr x1 p1 rel1 r1 q1 => n _ H1 F1 ad1 _ x1 p1 (rel1.put r1) q1, x⟩⟩
theorem ds_aug (i : Nat) {x : Str} {op : Operator} {r : R2} {f : OX} (hr : OpR X (inplaceOp op) r) (ho : OpD T r f) (h : DE T X W b ta) (hN : X.N.Nodup) (hi : X.N[i]? = some x := by rfl) (hx : Loc X.env.scope x := by first | exact Or.inl rfl | exact Or.inr rfl)
    (hf : X.fn x = true ∨ X.env.scope.names.lookup x = some .local := by first | exact .inl rfl | exact .inr rfl) : DS T X W (.AugAssign (.Name x pos') op b pos) (sAug i ta f) :=
  ⟨PS.imp (ps_aug hN hi hx h.pe (ti := r) hr hf) fun D σ H h => by
    obtain ⟨c, F, ad, e, Po, rel, ⟨rx, hsl, q⟩, n, r, x, bk, ct⟩ := h
    obtain ⟨v, hv, rv⟩ := rel.sl i rx hsl
    refine ⟨v, hv, c, F, ad, e, _, _, rel, q, fun y H1 F1 ad1 e1 ry x1 p1 rel1 r1 q1 => ?_, x⟩
    refine ho c F1 ad1 e1 σ H1 v y rx ry _ _ rel1 (rv.mono x1 p1) r1 q1 fun z H2 F2 ad2 e2 rz x2 p2 rel2 r2 q2 => ?_
    exact n _ H2 F2 ad2 _ (x1.trans x2) (p1.trans p2) (rel2.put r2) q2⟩
theorem ds_par (i j : Nat) {x y : Str} {px py pt : Pos} {kt k2 : Nat} {pt2 : Pos} {aa bb : Expr} {v : AX} (hc : X.calm = true) (hN : X.N.Nodup) (ha : DA T X W [aa, bb] v) (hij : i ≠ j := by decide) (hi : X.N[i]? = some x := by rfl) (hj : X.N[j]? = some y := by rfl)
    (hx : X.env.scope.names.lookup x = some .local := by rfl) (hy : X.env.scope.names.lookup y = some .local := by rfl)
    (hw : swappedStores [.Tuple [.Name x px, .Name y py] kt pt] (.Tuple [aa, bb] k2 pt2) X.env = pure (some [x, y]) := by rfl)
    (hs : swapsWithSole [.Tuple [.Name x px, .Name y py] kt pt] (.Tuple [aa, bb] k2 pt2) pos.line X.env = pure false := by rfl) :
    DS T X W (.Assign [.Tuple [.Name x px, .Name y py] kt pt] (.Tuple [aa, bb] k2 pt2) pos) (sPar i j v) :=
  ⟨PS.imp (ps_par hc hN hi hj hij hx hy ha.pa hw hs) fun D σ H h => by
    obtain ⟨c, F, ad, e, Po, rel, q, n, r, x, bk, ct⟩ := h
    refine ⟨c, F, ad, e, _, _, rel, q, fun vs H1 F1 ad1 e1 rs x1 p1 rel1 r1 q1 => ?_, x⟩
    obtain ⟨ra, rb, rfl, q2⟩ := q1
    obtain ⟨v, w, rfl, h1, h2⟩ := rv2 r1
    exact ⟨v, w, rfl, n _ H1 F1 ad1 _ x1 p1 (Rel.put (e := { e1 with sl := e1.sl.set i (some ra) }) (rel1.put h1) h2) q2⟩⟩
theorem rv3 {F : Hp} {ad : List Addr} {r r' r'' : RV} {xs : List V} (h : RvL T F ad [r, r', r''] xs) : ∃ v w z, xs = [v, w, z] ∧ RvR T F ad r v ∧ RvR T F ad r' w ∧ RvR T F ad r'' z := by
  obtain ⟨v, q, rfl, h1, w, q2, rfl, h2, z, q3, rfl, h3, rfl⟩ := h
  exact ⟨v, w, z, rfl, h1, h2, h3⟩
theorem ds_par3 (i j l : Nat) {x y z : Str} {px py pz pt : Pos} {kt k2 : Nat} {pt2 : Pos} {aa bb cc : Expr} {v : AX} (hc : X.calm = true) (hN : X.N.Nodup) (ha : DA T X W [aa, bb, cc] v) (hij : i ≠ j := by decide) (hil : i ≠ l := by decide) (hjl : j ≠ l := by decide)
    (hi : X.N[i]? = some x := by rfl) (hj : X.N[j]? = some y := by rfl) (hl : X.N[l]? = some z := by rfl)
    (hx : X.env.scope.names.lookup x = some .local := by rfl) (hy : X.env.scope.names.lookup y = some .local := by rfl) (hz : X.env.scope.names.lookup z = some .local := by rfl)
    (hw : swappedStores [.Tuple [.Name x px, .Name y py, .Name z pz] kt pt] (.Tuple [aa, bb, cc] k2 pt2) X.env = pure (some [x, y, z]) := by rfl)
    (hs : swapsWithSole [.Tuple [.Name x px, .Name y py, .Name z pz] kt pt] (.Tuple [aa, bb, cc] k2 pt2) pos.line X.env = pure false := by rfl) :
    DS T X W (.Assign [.Tuple [.Name x px, .Name y py, .Name z pz] kt pt] (.Tuple [aa, bb, cc] k2 pt2) pos) (sPar3 i j l v) :=
  ⟨PS.imp (ps_par3 hc hN hi hj hl hij hil hjl hx hy hz ha.pa hw hs) fun D σ H h => by
    obtain ⟨c, F, ad, e, Po, rel, q, n, r, x, bk, ct⟩ := h
    refine ⟨c, F, ad, e, _, _, rel, q, fun vs H1 F1 ad1 e1 rs x1 p1 rel1 r1 q1 => ?_, x⟩
    obtain ⟨ra, rb, rd, rfl, q2⟩ := q1
    obtain ⟨v, w, u, rfl, h1, h2, h3⟩ := rv3 r1
    exact ⟨v, w, u, rfl, n _ H1 F1 ad1 _ x1 p1 (Rel.put (e := { e1 with sl := (e1.sl.set i (some ra)).set j (some rb) }) (Rel.put (e := { e1 with sl := e1.sl.set i (some ra) }) (rel1.put h1) h2) h3) q2⟩⟩
end

/-! ### walks -/
/-- what is walked: its items, as long as the guard holds -/
abbrev IX := Env → (List RV → (Env → Prop) → Env → Prop) → (Xc → Env → Prop) → Prop
structure WL (T : Cn) (c : BF) (F0 : Hp) (ad0 : List Addr) (J : It) (all : List RV) (G : Env → Prop) : Prop where
  go : ∀ e σ F H ad i r, Ex F0 F → Px ad0 ad → Rel T c e σ F H ad → G e → all[i]? = some r → J.go i H
  yld : ∀ e σ F H ad i r x H', Ex F0 F → Px ad0 ad → Rel T c e σ F H ad → G e → all[i]? = some r → J.yld i H x H' → ∃ F', Ex F F' ∧ Rel T c e σ F' H' ad ∧ RvR T F' ad r x
  stop : ∀ e σ F H ad, Ex F0 F → Px ad0 ad → Rel T c e σ F H ad → G e → J.stop all.length H
def LI (T : Cn) (W : WX) (t : IX) : TI := fun σ H R => ∃ c F ad e P Rx, Rel T c e σ F H ad ∧ t e P Rx ∧
  (∀ J H' F' ad' e' all G, Ex F F' → Px ad ad' → Rel T c e' σ F' H' ad' → WL T c F' ad' J all G → P all G e' → R J H') ∧ XL T c W F ad Rx
structure DI (T : Cn) (X : Cx) (W : WX) (tg iter : Expr) (t : IX) : Prop where
  pi : PI X tg iter (LI T W t)
def forX (g : GX) (b : SX) (G : Env → Prop) (Po : Post) : List RV → Env → Prop
  | [], e => G e ∧ Po.nx e
  | r :: rs, e => G e ∧ g r e fun e1 => b e1 { nx := forX g b G Po rs, rt := Po.rt, xc := Po.xc, bk := Po.nx, ct := forX g b G Po rs }
def sFor (t : IX) (g : GX) (b : SX) : SX := fun e Po => t e (fun all G e1 => forX g b G Po all e1) Po.xc
def whileX (c : TX) (b : SX) (Po : Post) : Nat → Env → Prop
  | 0, _ => False
  | n + 1, e => c e (fun k e1 => if k = true then b e1 { nx := whileX c b Po n, rt := Po.rt, xc := Po.xc, bk := Po.nx, ct := whileX c b Po n } else Po.nx e1) Po.xc
def sWhile (c : TX) (b : SX) : SX := fun e Po => ∃ n, whileX c b Po n e
section
variable {T : Cn} {X : Cx} {W : WX} {a : Expr} {tc : TX} {t : SX} {g : GX} {ss : List Stmt} {pos : Pos}
theorem ds_while (hp : PassesOwn (model X.prog X.w) X.A X.env X.xe) (hc : DT T X W a tc) (hb : DSs T X W ss t) : DS T X W (.While a ss [] pos) (sWhile tc t) := ⟨PS.imp (ps_while hp hc.pt hb.pss) fun D σ H h => by
  obtain ⟨c, F, ad, e, Po, rel, ⟨n0, q0⟩, n, r, x, bk, ct⟩ := h
  refine ⟨fun m σ1 H1 => ∃ F1 ad1 e1, Ex F F1 ∧ Px ad ad1 ∧ Rel T c e1 σ1 F1 H1 ad1 ∧ whileX tc t Po m e1, ⟨n0, F, ad, e, Ex.refl F, Px.refl ad, rel, q0⟩, ?_⟩
  rintro m σ1 H1 ⟨F1, ad1, e1, x1, p1, rel1, q1⟩
  cases m with
  | zero => exact q1.elim
  | succ m =>
    refine ⟨c, F1, ad1, e1, _, _, rel1, q1, fun k H2 F2 ad2 e2 x2 p2 rel2 q2 => ?_, x.mono x1 p1⟩
    have x12 := x1.trans x2
    have p12 := p1.trans p2
    cases k with
    | true =>
      rw [if_pos rfl] at q2
      dsimp only
      rw [if_pos rfl]
      refine ⟨fun σ3 H3 => ∃ F3 ad3 e3, Ex F F3 ∧ Px ad ad3 ∧ Rel T c e3 σ3 F3 H3 ad3 ∧ whileX tc t Po m e3, fun σ3 H3 h3 => ⟨m, Nat.lt_succ_self m, h3⟩, ?_⟩
      refine ⟨c, F2, ad2, e2, _, rel2, q2, fun σ3 H3 F3 ad3 e3 x3 p3 rel3 q3 => ⟨F3, ad3, e3, x12.trans x3, p12.trans p3, rel3, q3⟩, fun v σ3 H3 F3 ad3 e3 r3 x3 p3 => r v σ3 H3 F3 ad3 e3 r3 (x12.trans x3) (p12.trans p3), x.mono x12 p12,
        fun σ3 H3 F3 ad3 e3 x3 p3 rel3 q3 => n σ3 H3 F3 ad3 e3 (x12.trans x3) (p12.trans p3) rel3 q3, fun σ3 H3 F3 ad3 e3 x3 p3 rel3 q3 => ⟨F3, ad3, e3, x12.trans x3, p12.trans p3, rel3, q3⟩⟩
    | false => exact n σ1 H2 F2 ad2 e2 x12 p12 rel2 q2⟩
theorem ds_for {iter tg : Expr} {ti : IX} (hp : PassesOwn (model X.prog X.w) X.A X.env X.xe) (hc : X.calm = true) (hi : DI T X W tg iter ti) (hg : DG T X tg g) (hb : DSs T X W ss t)
    (hs : ∀ x, foldedSetIterable iter X.env x = pure x := by intro _; rfl) : DS T X W (.For tg iter ss [] pos) (sFor ti g t) := ⟨PS.imp (ps_for hp hc hi.pi hg.pg hb.pss hs) fun D σ H h => by
  obtain ⟨c, F, ad, e, Po, rel, q, n, r, x, bk, ct⟩ := h
  refine ⟨c, F, ad, e, _, _, rel, q, fun J H0 F0 ad0 e0 all G x0 p0 rel0 wl q0 => ?_, x⟩
  refine ⟨fun i m σ1 H1 => ∃ F1 ad1 e1, m + i = all.length ∧ Ex F0 F1 ∧ Px ad0 ad1 ∧ Rel T c e1 σ1 F1 H1 ad1 ∧ forX g t G Po (all.drop i) e1, ⟨all.length, F0, ad0, e0, rfl, Ex.refl F0, Px.refl ad0, rel0, q0⟩, ?_⟩
  rintro i m σ1 H1 ⟨F1, ad1, e1, hm, x1, p1, rel1, q1⟩
  cases hd : all.drop i with
  | nil =>
    rw [hd] at q1
    have hi : i = all.length := by
      have := congrArg List.length hd
      rw [List.length_drop] at this
      have e0 : ([] : List RV).length = 0 := rfl
      omega
    refine .inl ⟨?_, n σ1 H1 F1 ad1 e1 (x0.trans x1) (p0.trans p1) rel1 q1.2⟩
    rw [hi]
    exact wl.stop e1 σ1 F1 H1 ad1 x1 p1 rel1 q1.1
  | cons rr rs =>
    rw [hd] at q1
    have hi : all[i]? = some rr := by
      have := congrArg (fun l => l[0]?) hd
      simpa using this
    have hds : all.drop (i + 1) = rs := by
      have := congrArg List.tail hd
      simpa using this
    have hil : i < all.length := (List.getElem?_eq_some_iff.mp hi).1
    refine .inr ⟨wl.go e1 σ1 F1 H1 ad1 i rr x1 p1 rel1 q1.1 hi, fun σ3 H3 => ∃ F3 ad3 e3, Ex F0 F3 ∧ Px ad0 ad3 ∧ Rel T c e3 σ3 F3 H3 ad3 ∧ forX g t G Po rs e3, fun σ3 H3 ⟨F3, ad3, e3, y1, y2, y3, y4⟩ => ⟨m - 1, by omega, F3, ad3, e3, by omega, y1, y2, y3, by rw [hds]; exact y4⟩, fun v H2 hy => ?_⟩
    obtain ⟨F2, x2, rel2, rv⟩ := wl.yld e1 σ1 F1 H1 ad1 i rr v H2 x1 p1 rel1 q1.1 hi hy
    have x12 := x1.trans x2
    refine ⟨c, F2, ad1, e1, rr, _, rel2, rv, q1.2, fun σ3 H3 F3 ad3 e3 x3 p3 rel3 q3 => ?_⟩
    have x13 := x12.trans x3
    have p13 := p1.trans p3
    refine ⟨c, F3, ad3, e3, _, rel3, q3, fun σ4 H4 F4 ad4 e4 x4 p4 rel4 q4 => ⟨F4, ad4, e4, x13.trans x4, p13.trans p4, rel4, q4⟩, fun v σ4 H4 F4 ad4 e4 r4 x4 p4 => r v σ4 H4 F4 ad4 e4 r4 (x0.trans (x13.trans x4)) (p0.trans (p13.trans p4)), x.mono (x0.trans x13) (p0.trans p13),
      fun σ4 H4 F4 ad4 e4 x4 p4 rel4 q4 => n σ4 H4 F4 ad4 e4 (x0.trans (x13.trans x4)) (p0.trans (p13.trans p4)) rel4 q4, fun σ4 H4 F4 ad4 e4 x4 p4 rel4 q4 => ⟨F4, ad4, e4, x13.trans x4, p13.trans p4, rel4, q4⟩⟩⟩
end
end DL
end
section
set_option Elab.async false
set_option linter.all false
set_option autoImplicit false
set_option maxRecDepth 100000
set_option maxHeartbeats 2000000
/-! DLH: what loops walk: lists, tuples, texts, ranges, enumerate. -/
namespace DL
open PySem PySem.Spec L2
open PyProof.Rows hiding St

/-! ### iter(v) by values -/
def IterR (X : Cx) (tg : Expr) (r : V → Hp → (It → Hp → Prop) → Prop) : Prop :=
  ∀ (pins : List (Addr × Obj)) (s : Shared) (σ : L2.St) (H : Hp) (x : V) (v : Value) (R : It → Hp → Prop), Inv X pins σ H s → RelV x v → r x H R → wpAny (model X.prog X.w) X.A (pyIter v) (PIE X pins σ tg R) X.xe s
def rSeq (K : PySem.W.Frag) (x : V) (H : Hp) (R : It → Hp → Prop) : Prop :=
  (∃ a xs, x = .ref a ∧ SqL K H a xs ∧ R (Itl K a) H) ∨ (∃ a xs, x = .ref a ∧ SqT K H a xs ∧ R (Itt K a) H) ∨ (∃ z, x = .str z ∧ R (Its z) H)
section
variable {X : Cx} {tg : Expr}
theorem iter_seq : IterR X tg (rSeq X.K) := by
  intro pins s σ H x v R I rv h
  rcases h with ⟨a, xs, rfl, hs, q⟩ | ⟨a, xs, rfl, hs, q⟩ | ⟨z, rfl, q⟩
  · obtain rfl : v = Value.ref a := rv
    obtain ⟨its, _, pl, _⟩ := I.list hs
    exact wpAny_pyIter_list pl.isList (pi_one (tk := s.toks) I _ (turn_list a s.heap.objs.size) ⟨_, Heap.get?_push_size _ rfl, rfl, rfl⟩ q)
  · obtain rfl : v = Value.ref a := rv
    obtain ⟨its, _, pl, _⟩ := I.tuple hs
    exact wpAny_pyIter_tuple (show s.heap.IsTuple a its.toArray from pl) (pi_one (tk := s.toks) I _ (turn_tuple a s.heap.objs.size) ⟨_, Heap.get?_push_size _ rfl, rfl, rfl⟩ q)
  · obtain ⟨t, rfl⟩ := rv
    cases hz : z.cps.all (· < 128) with
    | true => exact wpAny_pyIter_ascii hz (pi_one (tk := s.toks) I _ (turn_str _ z t "str_ascii_iterator" (.inl rfl)) ⟨_, Heap.get?_push_size _ rfl, rfl, rfl⟩ q)
    | false => exact wpAny_pyIter_wide hz (pi_one (tk := s.toks) I _ (turn_str _ z t "str_iterator" (.inr rfl)) ⟨_, Heap.get?_push_size _ rfl, rfl, rfl⟩ q)
theorem pi_of {l : Expr} {tl : TE} {r : V → Hp → (It → Hp → Prop) → Prop} (hl : PE X l tl) (hr : IterR X tg r) : PI X tg l (fun σ H R => tl σ H fun x H1 => r x H1 R) :=
  ⟨fun pins s σ H R I h => thn (hl.run pins s σ H _ I h) fun v s1 ⟨x, H1, I1, r1, q1⟩ => hr pins s1 σ H1 x v R I1 r1 q1⟩
end

/-! ### enumerate(text) -/
def ItES (z : Str) : It :=
  ⟨fun i _ => i < z.cps.size, fun i H v H' => ∃ p c, v = .ref p ∧ H p = none ∧ H' = upd H p (.tup [.int (i : Nat), .str ⟨#[c]⟩]) ∧ z.cps[i]? = some c, fun i _ => i = z.cps.size⟩
theorem turn_enumS {P : Program} {w : World} {K : PySem.W.Frag} {elts : List Expr} {kk : Nat} {tpos : Pos} (e it : Addr) (z : Str) (t : Tok) :
    Turn P w K (.Tuple elts kk tpos) (ItES z) [e, it] e (fun i h => (∃ old, IsEnum h e it ((i : Nat) : Int) old) ∧ h.IsStrIter it (strIterType z) z t i ∧ e ≠ it) where
  mem := by simp
  obj := fun i h st b hb => by
    obtain ⟨⟨old, he⟩, ⟨o, ho, hc, hd⟩, _⟩ := st
    have e' : b = e ∨ b = it := by simpa using hb
    rcases e' with q | q
    · rw [q]; exact ⟨_, he, fun v q => nomatch q⟩
    · rw [q]; exact ⟨o, ho, fun v q => by rw [hd] at q; cases q⟩
  keep := fun i h h' st k => let ⟨⟨old, he⟩, ⟨o, ho, r⟩, hne⟩ := st; ⟨⟨old, k e (by simp) _ he⟩, ⟨o, k it (by simp) o ho, r⟩, hne⟩
  item := by
    intro X hP hw hK hc i pins s σ H E I hf st hg
    subst hP hw hK
    obtain ⟨⟨old, he⟩, hit, hne⟩ := st
    have hel : e < s.heap.objs.size := Heap.lt_size he
    have hil : it < s.heap.objs.size := by obtain ⟨_, q, _⟩ := hit; exact Heap.lt_size q
    have D : Draws X.prog X.w X.A.in1 it [it] z.cps.size (fun i v => ∃ c u, z.cps[i]? = some c ∧ v = .str ⟨#[c]⟩ u) (fun i h => h.IsStrIter it (strIterType z) z t i) := by
      unfold strIterType
      split
      · exact Draws.strAscii (A := X.A.in1) (show X.A.in1.handled = none from I.ok.hd hc) it z t
      · exact Draws.strWide (A := X.A.in1) (show X.A.in1.handled = none from I.ok.hd hc) it z t
    refine wpAny_pyNext_enum_itemD D he hit hg hne (by simpa using hne) fun x h' tk hx ho hit' hT hsz hk => ?_
    obtain ⟨c, u, hcx, rfl⟩ := hx
    refine ⟨_, rfl, wpAny_letOwnedTupleGo_enum (s := { s with heap := h', toks := tk + 1 }) ho fun h'' he' sb => ?_⟩
    have hT2 : h''.get? s.heap.objs.size = some { cls := .type "tuple", data := .seq #[.int i tk, .str ⟨#[c]⟩ u] } := (sb.2 _ (Nat.ne_of_gt hel)).trans hT
    have new : ObjOk X.prog X.w (upd H s.heap.objs.size (.tup [.int (i : Nat), .str ⟨#[c]⟩])) h'' s.heap.objs.size (.tup [.int (i : Nat), .str ⟨#[c]⟩]) :=
      ⟨by show 2 ≤ sizeLine; decide, [.int i tk, .str ⟨#[c]⟩ u], .cons ⟨_, rfl⟩ (.cons ⟨_, rfl⟩ .nil), ⟨_, hT2, rfl, _, rfl⟩⟩
    have I1 : Inv X pins σ (upd H s.heap.objs.size (.tup [.int (i : Nat), .str ⟨#[c]⟩])) { s with heap := h'', toks := tk + 1 } :=
      I.turnedNew (ch := [e, it]) (fun b ob hb q => (sb.2 b (fun z => hb (by simp [z]))).trans (hk b ob (fun z => hb (by simp [z])) (fun z => hb (by simp [z])) q)) hf (Nat.le_refl _) new
    refine ⟨.ref s.heap.objs.size, _, I1, rfl, ⟨_, c, rfl, I.hok.fresh (Nat.le_refl _), rfl, hcx⟩, ⟨⟨.str ⟨#[c]⟩ u, ?_⟩, ?_, hne⟩, fun b hb => ?_⟩
    · have e1 : ((i + 1 : Nat) : Int) = (i : Int) + 1 := by omega
      rw [e1]; exact he'
    · obtain ⟨o, q1, q2⟩ := hit'
      exact ⟨o, (sb.2 it (Ne.symm hne)).trans q1, q2⟩
    · have hb' : b < s.heap.objs.size := by
        have e' : b = e ∨ b = it := by simpa using hb
        rcases e' with q | q
        · rw [q]; exact hel
        · rw [q]; exact hil
      rw [upd_ne (Nat.ne_of_lt hb')]
      exact (hf b hb).1
  done := by
    intro X hP hw hK hc i pins s σ H E I hf st hg
    subst hP hw hK
    have hg' : i = z.cps.size := hg
    subst hg'
    obtain ⟨⟨old, he⟩, hit, hne⟩ := st
    obtain ⟨f0, f1, f2, f3, f4, f5⟩ := hf it (by simp)
    have D : Draws X.prog X.w X.A.in1 it [it] z.cps.size (fun i v => ∃ c u, z.cps[i]? = some c ∧ v = .str ⟨#[c]⟩ u) (fun i h => h.IsStrIter it (strIterType z) z t i) := by
      unfold strIterType
      split
      · exact Draws.strAscii (A := X.A.in1) (show X.A.in1.handled = none from I.ok.hd hc) it z t
      · exact Draws.strWide (A := X.A.in1) (show X.A.in1.handled = none from I.ok.hd hc) it z t
    exact wpAny_pyNext_enum_endD D he hit fun h' eb => ⟨rfl, I.turned (t' := s.toks) (fun b o hb q => eb b o hb q) f0 f1 f3 f4 f5⟩
  self := fun A i s Q E st h => let ⟨⟨_, he⟩, _⟩ := st; wpAny_pyIter_enum he h
def iEnumA (K : PySem.W.Frag) (ta : TA) : TI := fun σ H R => ta σ H fun vs H1 => (∃ a xs, vs = [.ref a] ∧ SqL K H1 a xs ∧ R (Ite K a) H1) ∨ (∃ z, vs = [.str z] ∧ R (ItES z) H1)
theorem pi_enumA {X : Cx} {e : Expr} {ta : TA} {p pos tpos : Pos} {elts : List Expr} {kk : Nat} (hg : Gl X "enumerate") (hm : X.mg "enumerate" = none) (ha : PA X [e] ta) (hs : starEach [e] X.env = [(false, eval e X.env)] := by rfl) :
    PI X (.Tuple elts kk tpos) (.Call (.Name "enumerate" p) [e] [] pos) (iEnumA X.K ta) := by
  refine ⟨fun pins s σ H R I h => Call_ (ld_blt I hg hm boot_enumerate (PyProof.Rows.callWith_type1 (thn (ha.run pos pins s σ H _ I h) fun us s1 ⟨vs, H1, I1, r1, q1⟩ => ?_) hs rfl))⟩
  have two : ∀ {h' : Heap} {J : It} {tn : Nat → Heap → Prop}, (∀ b o, s1.heap.get? b = some o → h'.get? b = some o) → Turn X.prog X.w X.K (.Tuple elts kk tpos) J [s1.heap.objs.size + 1, s1.heap.objs.size] (s1.heap.objs.size + 1) tn → tn 0 h' → R J H1 →
      PIE X pins σ (.Tuple elts kk tpos) R (.ref (s1.heap.objs.size + 1)) { s1 with heap := h' } := fun {h' J tn} hk T st q =>
    ⟨s1.heap.objs.size + 1, [s1.heap.objs.size + 1, s1.heap.objs.size], _, _, H1, rfl, I1.kept (t' := s1.toks) hk, T, st, fun b hb => by
      have hle : s1.heap.objs.size ≤ b := by
        have e' : b = s1.heap.objs.size + 1 ∨ b = s1.heap.objs.size := by simpa using hb
        rcases e' with q | q
        · rw [q]; exact Nat.le_add_right _ _
        · rw [q]; exact Nat.le_refl _
      exact I1.fpOk hle (I1.hok.fresh hle), q⟩
  rcases q1 with ⟨a, xs, rfl, hq, q⟩ | ⟨z, rfl, q⟩
  · obtain ⟨u, rfl, ru⟩ := vals1 r1
    obtain rfl : u = Value.ref a := ru
    obtain ⟨its, rv, p', hz⟩ := I1.list hq
    exact call_enumerate_list p'.isList fun h' he hit hsz hk => wpAny_pyIter_enum he (two hk (turn_enum a _ _) ⟨⟨.none, he⟩, hit, Nat.succ_ne_self _⟩ q)
  · obtain ⟨u, rfl, t, rfl⟩ := vals1 r1
    exact call_enumerate_str fun h' he hit hsz hk => wpAny_pyIter_enum he (two hk (turn_enumS _ _ z t) ⟨⟨.none, he⟩, hit, Nat.succ_ne_self _⟩ q)

/-! ### the same by data -/
/-- items, guard -/
def seqI (e : Env) (r : RV) : Option (List RV × (Env → Prop)) := match r with
  | .val (.lst ds) => some (ds.map .val, fun _ => True)
  | .val (.tup ds) => some (ds.map .val, fun _ => True)
  | .val (.str s) => some (s.map fun c => .val (.str [c]), fun _ => True)
  | .val _ => none
  | .ob k => match e.ob[k]? with
    | some (.lst ds) => some (ds.map .val, fun e' => e'.ob[k]? = some (.lst ds))
    | some (.lsr xs) => some (xs, fun e' => e'.ob[k]? = some (.lsr xs))
    | some (.tpr xs) => some (xs, fun e' => e'.ob[k]? = some (.tpr xs))
    | some (.fz (.lst ds)) => some (ds.map .val, fun _ => True)
    | some (.fz (.tup ds)) => some (ds.map .val, fun _ => True)
    | _ => none
@[simp] theorem seqI_lst (e : Env) (ds : List D) : seqI e (.val (.lst ds)) = some (ds.map .val, fun _ => True) := rfl
@[simp] theorem seqI_tup (e : Env) (ds : List D) : seqI e (.val (.tup ds)) = some (ds.map .val, fun _ => True) := rfl
@[simp] theorem seqI_str (e : Env) (s : List Nat) : seqI e (.val (.str s)) = some (s.map fun c => .val (.str [c]), fun _ => True) := rfl
theorem seqI_ob {e : Env} {k : Nat} {ds : List D} (h : e.ob[k]? = some (.lst ds)) : seqI e (.ob k) = some (ds.map .val, fun e' => e'.ob[k]? = some (.lst ds)) := by simp [seqI, h]
def iSeq (t : EX) : IX := fun e P R => t e (fun r e1 => ∃ all G, seqI e1 r = some (all, G) ∧ P all G e1) R
def iR1 (u : AX) : IX := fun e P R => u e (fun rs e1 => ∃ j : Int, rs = [.val (.int j)] ∧ -(2 ^ 62) ≤ j ∧ j < 2 ^ 62 ∧ P ((List.range j.toNat).map fun i : Nat => .val (.int i)) (fun _ => True) e1) R
def iR2 (u : AX) : IX := fun e P R => u e (fun rs e1 => ∃ i j : Int, rs = [.val (.int i), .val (.int j)] ∧ (-(2 ^ 62) ≤ i ∧ i < 2 ^ 62 ∧ -(2 ^ 62) ≤ j ∧ j < 2 ^ 62) ∧ P ((List.range (j - i).toNat).map fun n : Nat => .val (.int (i + n))) (fun _ => True) e1) R
/-- numbered -/
def numd (ds : List D) : List RV := ds.zipIdx.map fun p => .val (.tup [.int (p.2 : Nat), p.1])
def iEn (u : AX) : IX := fun e P R => u e (fun rs e1 => ∃ r, rs = [r] ∧ ((∃ ds, lsD e1 r = some ds ∧ P (numd ds) (fun e' => lsD e' r = some ds) e1) ∨ (∃ z, dv e1 r = some (.str z) ∧ P (numd (z.map fun c => .str [c])) (fun _ => True) e1))) R
section
variable {T : Cn} {X : Cx} {W : WX} {tg l : Expr} {t : EX}
theorem wl_list {c : BF} {F0 : Hp} {ad0 : List Addr} {a : Addr} {all : List RV} {G : Env → Prop}
    (h : ∀ e σ F H ad, Ex F0 F → Px ad0 ad → Rel T c e σ F H ad → G e → ∃ vs, SqL T.K H a vs ∧ RvL T F ad all vs) : WL T c F0 ad0 (Itl T.K a) all G where
  go := fun e σ F H ad i r x p R g hi => by
    obtain ⟨vs, h1, h2⟩ := h e σ F H ad x p R g
    obtain ⟨v, hv, _⟩ := h2.get hi
    exact ⟨vs, v, h1, hv⟩
  yld := fun e σ F H ad i r y H' x p R g hi hy => by
    obtain ⟨vs, h1, h2⟩ := h e σ F H ad x p R g
    obtain ⟨v, hv, hr⟩ := h2.get hi
    obtain ⟨rfl, hy2⟩ := hy
    have := hy2 vs h1
    rw [hv] at this
    cases this
    exact ⟨F, Ex.refl F, R, hr⟩
  stop := fun e σ F H ad x p R g => by
    obtain ⟨vs, h1, h2⟩ := h e σ F H ad x p R g
    exact ⟨vs, h1, Nat.le_of_eq h2.len⟩
theorem wl_tup {c : BF} {F0 : Hp} {ad0 : List Addr} {a : Addr} {all : List RV} {G : Env → Prop}
    (h : ∀ e σ F H ad, Ex F0 F → Px ad0 ad → Rel T c e σ F H ad → G e → ∃ vs, SqT T.K H a vs ∧ RvL T F ad all vs) : WL T c F0 ad0 (Itt T.K a) all G where
  go := fun e σ F H ad i r x p R g hi => by
    obtain ⟨vs, h1, h2⟩ := h e σ F H ad x p R g
    obtain ⟨v, hv, _⟩ := h2.get hi
    exact ⟨vs, v, h1, hv⟩
  yld := fun e σ F H ad i r y H' x p R g hi hy => by
    obtain ⟨vs, h1, h2⟩ := h e σ F H ad x p R g
    obtain ⟨v, hv, hr⟩ := h2.get hi
    obtain ⟨rfl, hy2⟩ := hy
    have := hy2 vs h1
    rw [hv] at this
    cases this
    exact ⟨F, Ex.refl F, R, hr⟩
  stop := fun e σ F H ad x p R g => by
    obtain ⟨vs, h1, h2⟩ := h e σ F H ad x p R g
    exact ⟨vs, h1, Nat.le_of_eq h2.len⟩
theorem rd_sql {K : PySem.W.Frag} {H : Hp} {a : Addr} {vs : List V} (h : Rd H a (.lst vs)) : SqL K H a vs := .inl h
/-- the walk of a sequence -/
theorem seq_ok {c : BF} {e : Env} {σ : L2.St} {F H : Hp} {ad : List Addr} {r : RV} {v : V} {all : List RV} {G : Env → Prop} {R : It → Hp → Prop} (rel : Rel T c e σ F H ad) (hr : RvR T F ad r v) (q : seqI e r = some (all, G)) (k : ∀ J, WL T c F ad J all G → R J H) : rSeq T.K v H R := by
  have lstc : ∀ {ds : List D}, Rep T F (.lst ds) v → all = ds.map .val → rSeq T.K v H R := fun {ds} h e1 => by
    obtain ⟨a, vs, rfl, h1, h2⟩ := rep_lst.mp h
    subst e1
    exact .inl ⟨a, vs, rfl, rd_sql (rel.fh.rd h1), k _ (wl_list fun e σ F2 H2 ad2 x p R2 g => ⟨vs, rd_sql (R2.fh.rd (x.rd h1)), RvL.of (h2.mono x)⟩)⟩
  have tupc : ∀ {ds : List D}, Rep T F (.tup ds) v → all = ds.map .val → rSeq T.K v H R := fun {ds} h e1 => by
    obtain ⟨a, vs, rfl, h1, h2⟩ := rep_tup.mp h
    subst e1
    exact .inr (.inl ⟨a, vs, rfl, rel.fh.sqt h1, k _ (wl_tup fun e σ F2 H2 ad2 x p R2 g => ⟨vs, R2.fh.sqt (x.sqt h1), RvL.of (h2.mono x)⟩)⟩)
  cases r with
  | val d =>
    cases d with
    | lst ds =>
      cases q
      exact lstc hr rfl
    | tup ds =>
      cases q
      exact tupc hr rfl
    | str z =>
      cases q
      obtain rfl := rv_str hr
      refine .inr (.inr ⟨S z, rfl, k _ ?_⟩)
      exact {
        go := fun e σ F H ad i r x p R g hi => by
          have := (List.getElem?_eq_some_iff.mp hi).1
          rw [List.length_map] at this
          show i < z.toArray.size
          simpa using this
        yld := fun e σ F H ad i r y H' x p R g hi hy => by
          obtain ⟨rfl, c', hc, rfl⟩ := hy
          have hc' : z[i]? = some c' := by simpa [S] using hc
          rw [List.getElem?_map, hc'] at hi
          cases hi
          exact ⟨F, Ex.refl F, R, (rep_str (T := T) (F := F)).mpr rfl⟩
        stop := fun e σ F H ad x p R g => by
          show z.toArray.size ≤ _
          simp }
    | _ => cases q
  | ob n =>
    obtain ⟨p, hp, rfl⟩ := hr
    obtain ⟨o, ho, oa⟩ := rel.obs hp
    unfold seqI at q
    dsimp only at q
    rw [ho] at q
    cases o with
    | lst ds =>
      cases q
      obtain ⟨_, _, vs, h1, h2⟩ := oa
      refine .inl ⟨p, vs, rfl, .inl (.inl h1), k _ (wl_list fun e2 σ2 F2 H2 ad2 x px R2 g => ?_)⟩
      have g' : e2.ob[n]? = some (.lst ds) := g
      obtain ⟨_, _, vs2, h3, h4⟩ := R2.ob n _ p g' (px n p hp)
      exact ⟨vs2, .inl (.inl h3), RvL.of h4⟩
    | lsr xs =>
      cases q
      obtain ⟨_, _, vs, h1, h2⟩ := oa
      refine .inl ⟨p, vs, rfl, .inl (.inl h1), k _ (wl_list fun e2 σ2 F2 H2 ad2 x px R2 g => ?_)⟩
      have g' : e2.ob[n]? = some (.lsr all) := g
      obtain ⟨_, _, vs2, h3, h4⟩ := R2.ob n _ p g' (px n p hp)
      exact ⟨vs2, .inl (.inl h3), h4⟩
    | tpr xs =>
      cases q
      obtain ⟨_, _, vs, h1, h2⟩ := oa
      refine .inr (.inl ⟨p, vs, rfl, .inl (.inl h1), k _ (wl_tup fun e2 σ2 F2 H2 ad2 x px R2 g => ?_)⟩)
      have g' : e2.ob[n]? = some (.tpr all) := g
      obtain ⟨_, _, vs2, h3, h4⟩ := R2.ob n _ p g' (px n p hp)
      exact ⟨vs2, .inl (.inl h3), h4⟩
    | fz d =>
      cases d with
      | lst ds =>
        cases q
        exact lstc oa.2 rfl
      | tup ds =>
        cases q
        exact tupc oa.2 rfl
      | _ => cases q
    | _ => cases q
theorem PI.imp {tg l : Expr} {t u : TI} (h : PI X tg l t) (g : ∀ σ H R, u σ H R → t σ H R) : PI X tg l u := ⟨fun pins s σ H R I q => h.run pins s σ H R I (g σ H R q)⟩
theorem di_seq (ha : DE T X W l t) (hK : X.K = T.K := by rfl) : DI T X W tg l (iSeq t) := ⟨PI.imp (pi_of ha.pe iter_seq) fun σ H R h => by
  obtain ⟨c, F, ad, e, P, Rx, rel, q, hq, hx⟩ := h
  refine ⟨c, F, ad, e, _, Rx, rel, q, fun v H1 F1 ad1 e1 r x1 p1 rel1 r1 q1 => ?_, hx⟩
  obtain ⟨all, G, q2, q3⟩ := q1
  rw [hK]
  exact seq_ok rel1 r1 q2 fun J wl => hq J H1 F1 ad1 e1 all G x1 p1 rel1 wl q3⟩
theorem wl_rng {c : BF} {F0 : Hp} {ad0 : List Addr} (lo : Int) (n : Nat) : WL T c F0 ad0 (Itr lo n) ((List.range n).map fun k : Nat => .val (.int (lo + k))) (fun _ => True) where
  go := fun e σ F H ad i r x p R g hi => by
    have := (List.getElem?_eq_some_iff.mp hi).1
    show i < n
    simpa using this
  yld := fun e σ F H ad i r y H' x p R g hi hy => by
    obtain ⟨rfl, rfl⟩ := hy
    have hn : i < n := by
      have := (List.getElem?_eq_some_iff.mp hi).1
      simpa using this
    rw [List.getElem?_map, List.getElem?_range hn] at hi
    cases hi
    exact ⟨F, Ex.refl F, R, (rep_int (T := T) (F := F)).mpr rfl⟩
  stop := fun e σ F H ad x p R g => by
    show n ≤ _
    simp
theorem di_range1 {a : Expr} {u : AX} {p pos : Pos} (hm : X.mg "range" = none) (ha : DA T X W [a] u) (hg : Gl X "range" := by rfl) (hs : starEach [a] X.env = [(false, eval a X.env)] := by rfl) : DI T X W tg (.Call (.Name "range" p) [a] [] pos) (iR1 u) :=
  ⟨PI.imp (pi_range1 hg hm ha.pa hs) fun σ H R h => by
    obtain ⟨c, F, ad, e, P, Rx, rel, q, hq, hx⟩ := h
    refine ⟨c, F, ad, e, _, Rx, rel, q, fun vs H1 F1 ad1 e1 rs x1 p1 rel1 r1 q1 => ?_, hx⟩
    obtain ⟨j, rfl, j1, j2, q2⟩ := q1
    obtain ⟨v, rfl, hv⟩ := rv1 r1
    obtain rfl := rv_int hv
    refine ⟨j, rfl, j1, j2, hq _ H1 F1 ad1 e1 _ _ x1 p1 rel1 ?_ q2⟩
    have w := wl_rng (T := T) (c := c) (F0 := F1) (ad0 := ad1) 0 j.toNat
    simpa using w⟩
theorem di_range2 {a b : Expr} {u : AX} {p pos : Pos} (hm : X.mg "range" = none) (ha : DA T X W [a, b] u) (hg : Gl X "range" := by rfl) (hs : starEach [a, b] X.env = [(false, eval a X.env), (false, eval b X.env)] := by rfl) (hs2 : starEach [b] X.env = [(false, eval b X.env)] := by rfl) :
    DI T X W tg (.Call (.Name "range" p) [a, b] [] pos) (iR2 u) :=
  ⟨PI.imp (pi_range2 hg hm ha.pa hs hs2) fun σ H R h => by
    obtain ⟨c, F, ad, e, P, Rx, rel, q, hq, hx⟩ := h
    refine ⟨c, F, ad, e, _, Rx, rel, q, fun vs H1 F1 ad1 e1 rs x1 p1 rel1 r1 q1 => ?_, hx⟩
    obtain ⟨i, j, rfl, j1, q2⟩ := q1
    obtain ⟨v, w, rfl, hv, hw⟩ := rv2 r1
    obtain rfl := rv_int hv
    obtain rfl := rv_int hw
    exact ⟨i, j, rfl, j1, hq _ H1 F1 ad1 e1 _ _ x1 p1 rel1 (wl_rng i (j - i).toNat) q2⟩⟩
theorem numd_get {ds : List D} {i : Nat} {r : RV} (h : (numd ds)[i]? = some r) : ∃ d, ds[i]? = some d ∧ r = .val (.tup [.int (i : Nat), d]) := by
  unfold numd at h
  rw [List.getElem?_map, List.getElem?_zipIdx] at h
  cases e : ds[i]? with
  | none =>
    rw [e] at h
    cases h
  | some d =>
    rw [e] at h
    simp at h
    exact ⟨d, rfl, h.symm⟩
theorem numd_len (ds : List D) : (numd ds).length = ds.length := by simp [numd]
theorem di_enum {a : Expr} {u : AX} {p pos tpos : Pos} {elts : List Expr} {kk : Nat} (hm : X.mg "enumerate" = none) (ha : DA T X W [a] u) (hK : X.K = T.K := by rfl) (hg : Gl X "enumerate" := by rfl) (hs : starEach [a] X.env = [(false, eval a X.env)] := by rfl) :
    DI T X W (.Tuple elts kk tpos) (.Call (.Name "enumerate" p) [a] [] pos) (iEn u) :=
  ⟨PI.imp (pi_enumA hg hm ha.pa hs) fun σ H R h => by
    obtain ⟨c, F, ad, e, P, Rx, rel, q, hq, hx⟩ := h
    refine ⟨c, F, ad, e, _, Rx, rel, q, fun vs H1 F1 ad1 e1 rs x1 p1 rel1 r1 q1 => ?_, hx⟩
    obtain ⟨r, rfl, q1⟩ := q1
    obtain ⟨v, rfl, hv⟩ := rv1 r1
    have pair : ∀ {e : Env} {σ : L2.St} {F H : Hp} {ad : List Addr} {p : Addr} {x : V} {d : D} {i : Nat}, Rel T c e σ F H ad → H p = none → Rep T F d x →
        ∃ F', Ex F F' ∧ Rel T c e σ F' (upd H p (.tup [.int (i : Nat), x])) ad ∧ RvR T F' ad (.val (.tup [.int (i : Nat), d])) (.ref p) := fun {e σ F H ad p x d i} R hp hr =>
      ⟨upd F p (.tup [.int (i : Nat), x]), Ex.new (R.fh.free hp), R.laid hp, rep_tup.mpr ⟨p, _, rfl, .inl (.inl upd_same), RepL.cons (rep_int.mpr rfl) (RepL.cons (hr.mono (Ex.new (R.fh.free hp))) RepL.nil)⟩⟩
    rcases q1 with ⟨ds, hd, q2⟩ | ⟨z, hz, q2⟩
    · obtain ⟨a, vs, rfl, h1, h2⟩ := lsD_ok rel1 hv hd
      have at_ : ∀ e σ F H ad, Ex F1 F → Px ad1 ad → Rel T c e σ F H ad → lsD e r = some ds → ∃ vs, SqL X.K H a vs ∧ RepL T F ds vs := fun e2 σ2 F2 H2 ad2 x2 p2 R2 g => by
        obtain ⟨a2, vs2, e2', g1, g2⟩ := lsD_ok R2 (hv.mono x2 p2) g
        cases e2'
        exact ⟨vs2, rd_sql g1, g2⟩
      refine .inl ⟨a, vs, rfl, rd_sql h1, hq _ H1 F1 ad1 e1 _ _ x1 p1 rel1 ?_ q2⟩
      exact {
        go := fun e σ F H ad i r x p R g hi => by
          obtain ⟨vs, g1, g2⟩ := at_ e σ F H ad x p R g
          obtain ⟨d, hd, _⟩ := numd_get hi
          obtain ⟨v, hv, _⟩ := g2.get hd
          exact ⟨vs, v, g1, hv⟩
        yld := fun e σ F H ad i r y H' x p R g hi hy => by
          obtain ⟨vs, g1, g2⟩ := at_ e σ F H ad x p R g
          obtain ⟨d, hd, rfl⟩ := numd_get hi
          obtain ⟨v, hv, hr⟩ := g2.get hd
          obtain ⟨q, x', rfl, hn, rfl, hy2⟩ := hy
          have := hy2 vs g1
          rw [hv] at this
          cases this
          exact pair R hn hr
        stop := fun e σ F H ad x p R g => by
          obtain ⟨vs, g1, g2⟩ := at_ e σ F H ad x p R g
          exact ⟨vs, g1, by rw [numd_len, g2.len]; exact Nat.le_refl _⟩ }
    · have hr := dv_ok rel1 hv hz
      obtain rfl := rep_str.mp hr
      refine .inr ⟨S z, rfl, hq _ H1 F1 ad1 e1 _ _ x1 p1 rel1 ?_ q2⟩
      exact {
        go := fun e σ F H ad i r x p R g hi => by
          have := (List.getElem?_eq_some_iff.mp hi).1
          rw [numd_len, List.length_map] at this
          show i < z.toArray.size
          simpa using this
        yld := fun e σ F H ad i r y H' x p R g hi hy => by
          obtain ⟨d, hd, rfl⟩ := numd_get hi
          obtain ⟨q, c', rfl, hn, rfl, hc⟩ := hy
          have hc' : z[i]? = some c' := by simpa [S] using hc
          rw [List.getElem?_map, hc'] at hd
          cases hd
          exact pair R hn (rep_str.mpr rfl)
        stop := fun e σ F H ad x p R g => by
          show _ = z.toArray.size
          rw [numd_len]
          simp }⟩
end
end DL
end
section
set_option Elab.async false
set_option linter.all false
set_option autoImplicit false
set_option maxRecDepth 100000
set_option maxHeartbeats 2000000
/-! DLI: methods of texts and lists, isinstance, repr. -/
namespace DL
open PySem PySem.Spec L2
open PyProof.Rows hiding St

/-! ### methods of built-in types -/
abbrev MX := Env → RV → List RV → (RV → Env → Prop) → Prop
def MeD (T : Cn) (r : V → List V → Hp → VK → Prop) (f : MX) : Prop := ∀ (c : BF) (F : Hp) (ad : List Addr) (e : Env) (σ : L2.St) (H : Hp) (x : V) (xs : List V) (rx : RV) (rs : List RV) (P : RV → Env → Prop) (Q : VK),
  Rel T c e σ F H ad → RvR T F ad rx x → RvL T F ad rs xs → f e rx rs P → QL T c σ F ad P Q → r x xs H Q
/-- the receiver's type -/
def tyStr (e : Env) (r : RV) : Prop := ∃ s, dv e r = some (.str s)
def tyLst (e : Env) (r : RV) : Prop := ∃ ds, lsD e r = some ds
def eM (ty : Env → RV → Prop) (f : MX) (to : EX) (u : AX) : EX := fun e P R => to e (fun r e1 => ty e1 r ∧ u e1 (fun rs e2 => f e2 r rs P) R) R
section
variable {T : Cn} {X : Cx} {W : WX} {o a : Expr} {es : List Expr} {to : EX} {u : AX} {nm : Str} {apos cpos : Pos} {ty id : String} {r : V → List V → Hp → VK → Prop} {f : MX} {tp : Env → RV → Prop}
theorem le_m (htp : ∀ {c : BF} {F : Hp} {ad : List Addr} {e : Env} {σ : L2.St} {H : Hp} {x : V} {rx : RV}, Rel T c e σ F H ad → RvR T F ad rx x → tp e rx → tyV T.K ty x H) (hf : MeD T r f) {σ : L2.St} {H : Hp} {Q : VK} (h : LE T W (eM tp f to u) σ H Q) :
    tBM T.K ty r (LE T W to) (LA T W u) σ H Q := by
  obtain ⟨c, F, ad, e, P, R, rel, q, hq, hx⟩ := h
  refine ⟨c, F, ad, e, _, R, rel, q, fun v H1 F1 ad1 e1 rv x1 p1 rel1 r1 q1 => ⟨htp rel1 r1 q1.1, c, F1, ad1, e1, _, R, rel1, q1.2, fun vs H2 F2 ad2 e2 rs x2 p2 rel2 r2 q2 => ?_, hx.mono x1 p1⟩, hx⟩
  exact hf c F2 ad2 e2 σ H2 v vs rv rs P Q rel2 (r1.mono x2 p2) r2 q2 (hq.mono (x1.trans x2) (p1.trans p2))
theorem de_m (pa : PlainAttrs ty) (slot : Slot ty nm id) (hty : typeOf (.builtin id) = pure (.type "method_descriptor")) (hm : MtR X id r)
    (htp : ∀ {c : BF} {F : Hp} {ad : List Addr} {e : Env} {σ : L2.St} {H : Hp} {x : V} {rx : RV}, Rel T c e σ F H ad → RvR T F ad rx x → tp e rx → tyV T.K ty x H) (hf : MeD T r f) (ho : DE T X W o to) (ha : DA T X W (a :: es) u) (hK : X.K = T.K := by rfl)
    (hbase : attributeBase o nm X.env (eval o X.env) = eval o X.env := by rfl)
    (hfew : ((backTo cpos (starEach (a :: es) X.env)).all (fun x => !x.1) && (backToKw cpos (keywordEach [] X.env)).all (fun x => x.1.isSome) && decide ((a :: es).length + ([] : List Keyword).length + (if ([] : List Keyword).isEmpty then 0 else 1) < 30)) = true := by rfl)
    (hline : (apos.endLine == cpos.line) = true := by rfl) (hs : starEach (a :: es) X.env = (false, eval a X.env) :: starEach es X.env := by rfl) (hplain : (backTo cpos (starEach es X.env)).any (·.1) = false := by rfl) :
    DE T X W (.Call (.Attribute o nm apos) (a :: es) [] cpos) (eM tp f to u) := ⟨PE.imp (pe_bm pa slot hty hm ho.pe ha.pa hbase hfew hline hs hplain) fun σ H Q h => by
  rw [hK]
  exact le_m htp hf h⟩
theorem de_m0 (pa : PlainAttrs ty) (slot : Slot ty nm id) (hty : typeOf (.builtin id) = pure (.type "method_descriptor")) (hm : MtR X id r)
    (htp : ∀ {c : BF} {F : Hp} {ad : List Addr} {e : Env} {σ : L2.St} {H : Hp} {x : V} {rx : RV}, Rel T c e σ F H ad → RvR T F ad rx x → tp e rx → tyV T.K ty x H) (hf : MeD T r f) (ho : DE T X W o to) (hK : X.K = T.K := by rfl)
    (hbase : attributeBase o nm X.env (eval o X.env) = eval o X.env := by rfl) (hline : (apos.endLine == cpos.line) = true := by rfl) :
    DE T X W (.Call (.Attribute o nm apos) [] [] cpos) (eM tp f to aNil) := ⟨PE.imp (pe_bm0 pa slot hty hm ho.pe hbase hline) fun σ H Q h => by
  obtain ⟨c, F, ad, e, P, R, rel, q, hq, hx⟩ := h
  refine ⟨c, F, ad, e, _, R, rel, q, fun v H1 F1 ad1 e1 rv x1 p1 rel1 r1 q1 => ⟨by rw [hK]; exact htp rel1 r1 q1.1, ?_⟩, hx⟩
  exact hf c F1 ad1 e1 σ H1 v [] rv [] P Q rel1 r1 rfl q1.2 (hq.mono x1 p1)⟩
theorem ty_str {c : BF} {F : Hp} {ad : List Addr} {e : Env} {σ : L2.St} {H : Hp} {x : V} {rx : RV} (R : Rel T c e σ F H ad) (h : RvR T F ad rx x) (q : tyStr e rx) : tyV T.K "str" x H := by
  obtain ⟨s, hs⟩ := q
  obtain rfl := rep_str.mp (dv_ok R h hs)
  rfl
theorem ty_lst {c : BF} {F : Hp} {ad : List Addr} {e : Env} {σ : L2.St} {H : Hp} {x : V} {rx : RV} (R : Rel T c e σ F H ad) (h : RvR T F ad rx x) (q : tyLst e rx) : tyV T.K "list" x H := by
  obtain ⟨ds, hs⟩ := q
  obtain ⟨a, vs, rfl, h1, _⟩ := lsD_ok R h hs
  exact .inl ⟨rfl, vs, rd_sql h1⟩
/-! .. of a text alone -/
def mxS (g : List Nat → Option D) : MX := fun e r rs P => ∃ s d, dv e r = some (.str s) ∧ rs = [] ∧ s.length ≤ 5592405 ∧ g s = some d ∧ P (.val d) e
theorem len555 {s : List Nat} (h : s.length ≤ 5592405) : (S s).length ≤ sizeLine := by
  rw [S_len, sizeLine_eq]
  omega
theorem me_s {C : Str → Prop} {g : List Nat → Option D} {g' : Str → V} (hC : ∀ s : List Nat, s.length ≤ 5592405 → C (S s)) (hg : ∀ s d F, g s = some d → Rep T F d (g' (S s))) : MeD T (fun x xs H Q => ∃ a, x = .str a ∧ xs = [] ∧ C a ∧ Q (g' a) H) (mxS g) := by
  intro c F ad e σ H x xs rx rs P Q R hr hl h hq
  obtain ⟨s, d, h1, rfl, h3, h4, q⟩ := h
  obtain rfl := rep_str.mp (dv_ok R hr h1)
  obtain rfl : xs = [] := hl
  exact ⟨S s, rfl, rfl, hC s h3, hq.val R (hg s d F h4) q⟩
def stripX : MX := mxS fun s => some (.str (Txt.strip (S s)).cps.toList)
def lowerX : MX := mxS fun s => some (.str (Txt.lower (S s)).cps.toList)
def upperX : MX := mxS fun s => some (.str (Txt.upper (S s)).cps.toList)
def alnumX : MX := mxS fun s => some (.bl (Txt.isalnum (S s)))
def digitX : MX := mxS fun s => some (.bl (Txt.isdigit (S s)))
def alphaX : MX := mxS fun s => some (.bl (Txt.isalpha (S s)))
theorem de_strip (ho : DE T X W o to) (hK : X.K = T.K := by rfl) (hbase : attributeBase o "strip" X.env (eval o X.env) = eval o X.env := by rfl) (hline : (apos.endLine == cpos.line) = true := by rfl) : DE T X W (.Call (.Attribute o "strip" apos) [] [] cpos) (eM tyStr stripX to aNil) :=
  de_m0 F.plainAttrs_str F.slot_str_strip F.type_str_strip mt_strip ty_str (me_s (fun s h => len555 h) fun s d F h => by cases h; exact rep_str.mpr (by rw [S_of])) ho hK hbase hline
theorem de_isalnum (ho : DE T X W o to) (hK : X.K = T.K := by rfl) (hbase : attributeBase o "isalnum" X.env (eval o X.env) = eval o X.env := by rfl) (hline : (apos.endLine == cpos.line) = true := by rfl) : DE T X W (.Call (.Attribute o "isalnum" apos) [] [] cpos) (eM tyStr alnumX to aNil) :=
  de_m0 F.plainAttrs_str F.slot_str_isalnum F.type_str_isalnum mt_isalnum ty_str (me_s (fun s h => trivial) fun s d F h => by cases h; exact rep_bl.mpr rfl) ho hK hbase hline
theorem de_isdigit (ho : DE T X W o to) (hK : X.K = T.K := by rfl) (hbase : attributeBase o "isdigit" X.env (eval o X.env) = eval o X.env := by rfl) (hline : (apos.endLine == cpos.line) = true := by rfl) : DE T X W (.Call (.Attribute o "isdigit" apos) [] [] cpos) (eM tyStr digitX to aNil) :=
  de_m0 F.plainAttrs_str F.slot_str_isdigit F.type_str_isdigit mt_isdigit ty_str (me_s (fun s h => trivial) fun s d F h => by cases h; exact rep_bl.mpr rfl) ho hK hbase hline
theorem de_isalpha (ho : DE T X W o to) (hK : X.K = T.K := by rfl) (hbase : attributeBase o "isalpha" X.env (eval o X.env) = eval o X.env := by rfl) (hline : (apos.endLine == cpos.line) = true := by rfl) : DE T X W (.Call (.Attribute o "isalpha" apos) [] [] cpos) (eM tyStr alphaX to aNil) :=
  de_m0 F.plainAttrs_str F.slot_str_isalpha F.type_str_isalpha mt_isalpha ty_str (me_s (fun s h => trivial) fun s d F h => by cases h; exact rep_bl.mpr rfl) ho hK hbase hline
/-! .. join, strip(signs) -/
def strsD : List D → Option (List (List Nat))
  | [] => some []
  | .str s :: ds => (strsD ds).map (s :: ·)
  | _ :: _ => none
theorem strsD_eq : ∀ {ds : List D} {ss : List (List Nat)}, strsD ds = some ss → ds = ss.map .str
  | [], _, h => by cases h; rfl
  | d :: ds, ss, h => by
    cases d with
    | str s =>
      rw [strsD] at h
      cases e : strsD ds with
      | none =>
        rw [e] at h
        cases h
      | some r =>
        rw [e] at h
        cases h
        rw [strsD_eq e]
        rfl
    | _ => cases h
@[simp] theorem strsD_map (ss : List (List Nat)) : strsD (ss.map .str) = some ss := by
  induction ss with
  | nil => rfl
  | cons s ss ih => rw [List.map_cons, strsD, ih]; rfl
/-- sep.join(texts) -/
def joinL (a : List Nat) (ss : List (List Nat)) : List Nat := (Txt.join (S a) (ss.map S)).cps.toList
def joinX : MX := fun e r rs P => ∃ a q ds ss, dv e r = some (.str a) ∧ rs = [q] ∧ sqD e q = some ds ∧ strsD ds = some ss ∧ (ss.map List.length).sum + ss.length * a.length ≤ 16777216 ∧ P (.val (.str (joinL a ss))) e
theorem de_join (ho : DE T X W o to) (ha : DA T X W (a :: es) u) (hK : X.K = T.K := by rfl) (hbase : attributeBase o "join" X.env (eval o X.env) = eval o X.env := by rfl)
    (hfew : ((backTo cpos (starEach (a :: es) X.env)).all (fun x => !x.1) && (backToKw cpos (keywordEach [] X.env)).all (fun x => x.1.isSome) && decide ((a :: es).length + ([] : List Keyword).length + (if ([] : List Keyword).isEmpty then 0 else 1) < 30)) = true := by rfl)
    (hline : (apos.endLine == cpos.line) = true := by rfl) (hs : starEach (a :: es) X.env = (false, eval a X.env) :: starEach es X.env := by rfl) (hplain : (backTo cpos (starEach es X.env)).any (·.1) = false := by rfl) :
    DE T X W (.Call (.Attribute o "join" apos) (a :: es) [] cpos) (eM tyStr joinX to u) :=
  de_m F.plainAttrs_str F.slot_str_join F.type_str_join mt_join ty_str (by
    rw [hK]
    intro c F ad e σ H x xs rx rs P Q R hr hl h hq
    obtain ⟨s, q, ds, ss, h1, rfl, h2, h3, h4, q1⟩ := h
    obtain rfl := rep_str.mp (dv_ok R hr h1)
    obtain ⟨v, rfl, hv⟩ := rv1 hl
    obtain ⟨p, vs, rfl, hp, hs⟩ := sqD_ok R hv h2
    have e1 := strsD_eq h3
    subst e1
    have e2 := repL_strs hs
    subst e2
    refine ⟨S s, p, ss.map S, rfl, rfl, by rw [List.map_map]; exact hp, ?_, hq.val R (rep_str.mpr (by rw [joinL, S_of])) q1⟩
    rw [List.map_map, List.length_map, S_len, show (fun x : Str => x.length) ∘ S = List.length from funext fun s => S_len s]
    exact h4) ho ha hK hbase hfew hline hs hplain
def stripCX : MX := fun e r rs P => ∃ a q b, dv e r = some (.str a) ∧ rs = [q] ∧ dv e q = some (.str b) ∧ a.length ≤ 5592405 ∧ P (.val (.str (Txt.stripChars (S a) (S b)).cps.toList)) e
theorem de_stripC (ho : DE T X W o to) (ha : DA T X W (a :: es) u) (hK : X.K = T.K := by rfl) (hbase : attributeBase o "strip" X.env (eval o X.env) = eval o X.env := by rfl)
    (hfew : ((backTo cpos (starEach (a :: es) X.env)).all (fun x => !x.1) && (backToKw cpos (keywordEach [] X.env)).all (fun x => x.1.isSome) && decide ((a :: es).length + ([] : List Keyword).length + (if ([] : List Keyword).isEmpty then 0 else 1) < 30)) = true := by rfl)
    (hline : (apos.endLine == cpos.line) = true := by rfl) (hs : starEach (a :: es) X.env = (false, eval a X.env) :: starEach es X.env := by rfl) (hplain : (backTo cpos (starEach es X.env)).any (·.1) = false := by rfl) :
    DE T X W (.Call (.Attribute o "strip" apos) (a :: es) [] cpos) (eM tyStr stripCX to u) :=
  de_m F.plainAttrs_str F.slot_str_strip F.type_str_strip mt_stripChars ty_str (by
    intro c F ad e σ H x xs rx rs P Q R hr hl h hq
    obtain ⟨s, q, b, h1, rfl, h2, h3, q1⟩ := h
    obtain rfl := rep_str.mp (dv_ok R hr h1)
    obtain ⟨v, rfl, hv⟩ := rv1 hl
    obtain rfl := rep_str.mp (dv_ok R hv h2)
    exact ⟨S s, S b, rfl, rfl, len555 h3, hq.val R (rep_str.mpr (by rw [S_of])) q1⟩) ho ha hK hbase hfew hline hs hplain
/-! .. list.append -/
/-- a list of the state, with an item more; data only, or objects too -/
def appX : MX := fun e r rs P => ∃ k q, r = .ob k ∧ rs = [q] ∧ ((∃ ds d, e.ob[k]? = some (.lst ds) ∧ dv e q = some d ∧ ds.length < sizeLine ∧ P (.val .non) { e with ob := e.ob.set k (.lst (ds ++ [d])) }) ∨
  (∃ ds d ob', e.ob[k]? = some (.lst ds) ∧ fzR 9 e.ob q = some (d, ob') ∧ ob'[k]? = some (.lst ds) ∧ ds.length < sizeLine ∧ P (.val .non) ⟨e.sl, ob'.set k (.lst (ds ++ [d]))⟩) ∨
  (∃ xs, e.ob[k]? = some (.lsr xs) ∧ xs.length < sizeLine ∧ P (.val .non) { e with ob := e.ob.set k (.lsr (xs ++ [q])) }))
def tyLs (e : Env) (r : RV) : Prop := ∃ k, r = .ob k ∧ ((∃ ds, e.ob[k]? = some (.lst ds)) ∨ ∃ xs, e.ob[k]? = some (.lsr xs))
theorem ty_ls {c : BF} {F : Hp} {ad : List Addr} {e : Env} {σ : L2.St} {H : Hp} {x : V} {rx : RV} (R : Rel T c e σ F H ad) (h : RvR T F ad rx x) (q : tyLs e rx) : tyV T.K "list" x H := by
  obtain ⟨k, rfl, hk⟩ := q
  obtain ⟨p, hp, rfl⟩ := h
  rcases hk with ⟨ds, hk⟩ | ⟨ds, hk⟩
  · obtain ⟨_, _, vs, h1, _⟩ := R.ob k _ p hk hp
    exact .inl ⟨rfl, vs, .inl (.inl h1)⟩
  · obtain ⟨_, _, vs, h1, _⟩ := R.ob k _ p hk hp
    exact .inl ⟨rfl, vs, .inl (.inl h1)⟩
theorem me_app : MeD T rAppend appX := by
  intro c F ad e σ H x xs rx rs P Q R hr hl h hq
  obtain ⟨k, q, rfl, rfl, h⟩ := h
  obtain ⟨y, rfl, hy⟩ := rv1 hl
  obtain ⟨p, hp, rfl⟩ := hr
  rcases h with ⟨ds, d, hk, hd, hz, q1⟩ | ⟨ds, d, ob', hk, hd, hk', hz, q1⟩ | ⟨zs, hk, hz, q1⟩
  · obtain ⟨n1, n2, vs, h1, h2⟩ := R.ob k _ p hk hp
    refine ⟨p, vs, y, rfl, rfl, h1, by rw [h2.len]; exact hz, ?_⟩
    have R2 := R.set (u := .lst (vs ++ [y])) (o' := .lst (ds ++ [d])) hk rfl hp ⟨n1, n2, _, upd_same, h2.append (RepL.cons (dv_ok R hy hd) RepL.nil)⟩
    exact hq.val R2 (rep_non.mpr rfl) q1
  · obtain ⟨sl, ob⟩ := e
    obtain ⟨F1, x1, R1, g1⟩ := fzR_ok 9 R hd
    obtain ⟨n1, n2, vs, h1, h2⟩ := R1.ob k _ p hk' hp
    refine ⟨p, vs, y, rfl, rfl, h1, by rw [h2.len]; exact hz, ?_⟩
    have R2 := R1.set (u := .lst (vs ++ [y])) (o' := .lst (ds ++ [d])) hk' rfl hp ⟨n1, n2, _, upd_same, h2.append (RepL.cons (g1 y hy) RepL.nil)⟩
    exact (hq.mono x1 (Px.refl ad)).val R2 (rep_non.mpr rfl) q1
  · obtain ⟨n1, n2, vs, h1, h2⟩ := R.ob k _ p hk hp
    refine ⟨p, vs, y, rfl, rfl, h1, by rw [h2.len]; exact hz, ?_⟩
    have R2 := R.set (u := .lst (vs ++ [y])) (o' := .lsr (zs ++ [q])) hk rfl hp ⟨n1, n2, _, upd_same, RvL.append h2 ⟨y, [], rfl, hy, rfl⟩⟩
    exact hq.val R2 (rep_non.mpr rfl) q1
theorem de_append (ho : DE T X W o to) (ha : DA T X W (a :: es) u) (hK : X.K = T.K := by rfl) (hbase : attributeBase o "append" X.env (eval o X.env) = eval o X.env := by rfl)
    (hfew : ((backTo cpos (starEach (a :: es) X.env)).all (fun x => !x.1) && (backToKw cpos (keywordEach [] X.env)).all (fun x => x.1.isSome) && decide ((a :: es).length + ([] : List Keyword).length + (if ([] : List Keyword).isEmpty then 0 else 1) < 30)) = true := by rfl)
    (hline : (apos.endLine == cpos.line) = true := by rfl) (hs : starEach (a :: es) X.env = (false, eval a X.env) :: starEach es X.env := by rfl) (hplain : (backTo cpos (starEach es X.env)).any (·.1) = false := by rfl) :
    DE T X W (.Call (.Attribute o "append" apos) (a :: es) [] cpos) (eM tyLs appX to u) :=
  de_m F.plainAttrs_list F.slot_list_append F.type_list_append mt_append ty_ls me_app ho ha hK hbase hfew hline hs hplain

/-! ### repr -/
/-- how long the text of it is at most -/
def D.wid : D → Nat
  | .non => 5
  | .bl _ => 5
  | .int _ => 2000
  | .str s => 10 * s.length + 2
  | .lst xs => 2 + widL xs
  | .tup xs => 3 + widL xs
  | _ => 0
where widL : List D → Nat
  | [] => 0
  | d :: ds => d.wid + 2 + widL ds
/-- repr can tell it -/
def shows : D → Bool := fun d => PyData.showable d.py
def reprL (d : D) : List Nat := (PyData.shown d.py).cps.toList
def reprX : BX := fun e rs P => ∃ r d, rs = [r] ∧ rd e r = some d ∧ Lay 60 d ∧ shows d = true ∧ (PyData.shown d.py).length ≤ sizeLine ∧ P (.val (.str (reprL d))) e
def rRepr (K : PySem.W.Frag) : List V → Hp → VK → Prop := fun xs H Q => ∃ v d, xs = [v] ∧ Dp K H v d ∧ d.canLay0 = true ∧ d.depth ≤ 60 ∧ PyData.showable d = true ∧ (PyData.shown d).length ≤ sizeLine ∧ Q (.str (PyData.shown d)) H
theorem call_repr (hu : U X) (hg : X.A.guards = some []) : CallR X (.builtin "repr") (rRepr X.K) := by
  intro pins s σ H xs us Q I rl h
  obtain ⟨v, d, rfl, hd, hl, hn, hs, hz, q⟩ := h
  obtain ⟨w, rfl, rw1⟩ := vals1 rl
  have hu' : X.A.units + 100 < cLine := hu
  cases v with
  | non =>
    cases hd
    cases rw1
    exact PySem.P.repr_of_none ⟨.str _, H, I.tok _, ⟨_, rfl⟩, by rw [PyData.shown] at q; exact q⟩
  | bl b =>
    cases hd
    cases rw1
    exact PySem.P.repr_of_bool ⟨.str _, H, I.tok _, ⟨_, rfl⟩, by rw [PyData.shown] at q; exact q⟩
  | int i =>
    cases hd
    obtain ⟨t, rfl⟩ := rw1
    rw [PyData.showable] at hs
    exact PySem.P.repr_of_int (of_decide_eq_true hs) ⟨.str _, H, I.tok _, ⟨_, rfl⟩, by rw [PyData.shown] at q; exact q⟩
  | str z =>
    cases hd
    obtain ⟨t, rfl⟩ := rw1
    exact PySem.P.repr_of_str ⟨.str _, H, I.tok _, ⟨_, rfl⟩, by rw [PyData.shown] at q; exact q⟩ (by rw [PyData.shown] at hz; exact hz)
  | ref p =>
    obtain rfl : w = Value.ref p := rw1
    obtain ⟨as, rr⟩ := Dp.reads I d _ _ hd rfl
    exact repr_of_reads' rr hs (PyData.noDict_hsm (PyData.hasDict_of_canLay d hl)) hg (by omega) (fun b o z => z) (fun h' t tk k => ⟨.str _, H, I.kept k, ⟨t, rfl⟩, q⟩) hz
  | _ => cases hd
theorem de_repr {x : Expr} {p : Pos} (hu : U X) (hgd : X.A.guards = some []) (hm : X.mg "repr" = none) (ha : DA T X W (a :: es) u) (hK : X.K = T.K := by rfl) (hg : Gl X "repr" := by rfl) : DE T X W (.Call (.Name "repr" p) (a :: es) [] cpos) (eB reprX u) :=
  de_B (call_repr hu hgd) (by
    rw [hK]
    intro c F ad e σ H xs rs P Q R hl h hq
    obtain ⟨r, d, rfl, h1, h2, h3, h4, q⟩ := h
    obtain ⟨v, rfl, hv⟩ := rv1 hl
    obtain ⟨F1, x1, x2, hr⟩ := rd_ok R hv h1
    obtain ⟨g1, g2⟩ := lay_py h2
    exact ⟨v, d.py, rfl, dp_of h2 hr x2, g1, g2, h3, h4, hq.val R (rep_str.mpr (by rw [reprL, S_of])) q⟩) hg hm rfl ha
end
end DL
end
section
set_option Elab.async false
set_option linter.all false
set_option autoImplicit false
set_option maxRecDepth 100000
set_option maxHeartbeats 2000000
/-! DLJ: isinstance of built-in types; list comprehensions. -/
namespace DL
open PySem PySem.Spec L2
open PyProof.Rows hiding St

/-! ### isinstance(x, T), T a built-in type -/
def D.ty : D → Option String
  | .non => some "NoneType"
  | .bl _ => some "bool"
  | .int _ => some "int"
  | .str _ => some "str"
  | .lst _ => some "list"
  | .tup _ => some "tuple"
  | .dic _ => some "dict"
  | _ => none
def tyOf (e : Env) : RV → Option String
  | .val d => d.ty
  | .ob k => match e.ob[k]? with
    | some (.fz d) => d.ty
    | some (.lst _) => some "list"
    | some (.lsr _) => some "list"
    | some (.tpr _) => some "tuple"
    | some (.dic _) => some "dict"
    | _ => none
@[simp] theorem tyOf_val (e : Env) (d : D) : tyOf e (.val d) = d.ty := rfl
section
variable {T : Cn} {X : Cx} {W : WX} {a : Expr} {t : EX} {pos : Pos}
theorem ty_rep {F H : Hp} {d : D} {v : V} {n : String} (x : Ex F H) (h : Rep T F d v) (q : d.ty = some n) : TyX T.K H v (.type n) := by
  cases d with
  | non =>
    cases q
    rw [rep_non.mp h]
    exact .base .non
  | bl b =>
    cases q
    rw [rep_bl.mp h]
    exact .base (.bl b)
  | int b =>
    cases q
    rw [rep_int.mp h]
    exact .base (.int b)
  | str b =>
    cases q
    rw [rep_str.mp h]
    exact .base (.str _)
  | lst xs =>
    cases q
    obtain ⟨p, vs, rfl, h1, _⟩ := rep_lst.mp h
    rcases x.rd h1 with h2 | ⟨o, h2⟩
    · exact .base (.lst h2)
    · exact .base (.frz h2)
  | tup xs =>
    cases q
    obtain ⟨p, vs, rfl, h1, _⟩ := rep_tup.mp h
    rcases x.sqt h1 with (h2 | ⟨o, h2⟩) | ⟨o, its, n, h2, h3, _⟩
    · exact .base (.tup h2)
    · exact .fTuple h2
    · exact .kTuple h2 h3
  | dic xs =>
    cases q
    obtain ⟨p, rfl, ⟨gs, h1, _⟩ | ⟨gs, h1, _⟩⟩ := rep_dic.mp h
    · exact .base (.dK (x _ _ h1))
    · exact .base (.dT (x _ _ h1))
  | _ => cases q
theorem ty_ok {c : BF} {e : Env} {σ : L2.St} {F H : Hp} {ad : List Addr} {r : RV} {v : V} {n : String} (R : Rel T c e σ F H ad) (h : RvR T F ad r v) (q : tyOf e r = some n) : TyX T.K H v (.type n) := by
  cases r with
  | val d => exact ty_rep R.fh h q
  | ob k =>
    obtain ⟨p, hp, rfl⟩ := h
    obtain ⟨o, ho, oa⟩ := R.obs hp
    unfold tyOf at q
    dsimp only at q
    rw [ho] at q
    cases o with
    | fz d => exact ty_rep R.fh oa.2 q
    | lst ds =>
      cases q
      obtain ⟨_, _, vs, h1, _⟩ := oa
      exact .base (.lst h1)
    | lsr ds =>
      cases q
      obtain ⟨_, _, vs, h1, _⟩ := oa
      exact .base (.lst h1)
    | tpr ds =>
      cases q
      obtain ⟨_, _, vs, h1, _⟩ := oa
      exact .base (.tup h1)
    | dic ds =>
      cases q
      obtain ⟨_, _, ⟨gs, h1, _⟩ | ⟨gs, h1, _⟩⟩ := oa
      · exact .base (.dK h1)
      · exact .base (.dT h1)
    | ins k fs => cases q
def isiX (n : String) (t : EX) : EX := fun e P R => t e (fun r e1 => ∃ m b, tyOf e1 r = some m ∧ kitB m n = some b ∧ P (.val (.bl b)) e1) R
theorem de_isi {n : Str} {ty : String} {p p2 : Pos} (hm : X.mg "isinstance" = none) (hm2 : X.mg n = none) (hv : bootBuiltins n = some (.type ty)) (ha : DE T X W a t) (hK : X.K = T.K := by rfl) (hg : Gl X "isinstance" := by rfl) (hg2 : Gl X n := by rfl)
    (hn : n ≠ "__name__" := by decide) (hdb : (n == ("__debug__" : Str)) = false := by decide) (he : starEach (a :: [.Name n p2]) X.env = (false, eval a X.env) :: starEach [.Name n p2] X.env := by rfl) (he2 : starEach (.Name n p2 :: []) X.env = (false, eval (.Name n p2) X.env) :: starEach [] X.env := by rfl)
    (hpl : (backTo pos (starEach [.Name n p2] X.env)).any (·.1) = false := by rfl) :
    DE T X W (.Call (.Name "isinstance" p) [a, .Name n p2] [] pos) (isiX ty t) :=
  ⟨PE.imp (pe_callB (call_isi (X := X)) hg hm rfl (pa_cons ha.pe (pa_cons (pe_bltn hg2 hm2 hv (v := .ty ty) rfl hn hdb) pa_nil he2) he) (by decide) (by decide) he hpl) fun σ H Q h => by
    obtain ⟨c, F, ad, e, P, R, rel, q, hq, hx⟩ := h
    refine ⟨c, F, ad, e, _, R, rel, q, fun v H1 F1 ad1 e1 r x1 p1 rel1 r1 q1 => ?_, hx⟩
    obtain ⟨m, b, h1, h2, h3⟩ := q1
    refine ⟨v, .ty ty, .type m, .type ty, b, rfl, .ty ty, ?_, kit_ty h2, (hq.mono x1 p1).val rel1 (rep_bl.mpr rfl) h3⟩
    rw [hK]
    exact ty_ok rel1 r1 h1⟩
end

/-! ### list comprehensions -/
def wipeE (sl : List (Option RV)) : List Nat → List (Option RV)
  | [] => sl
  | v :: vs => (wipeE sl vs).set v none
theorem wipeE_length (sl : List (Option RV)) : ∀ vs : List Nat, (wipeE sl vs).length = sl.length
  | [] => rfl
  | v :: vs => by rw [wipeE, List.length_set, wipeE_length sl vs]
theorem wipeE_some {sl : List (Option RV)} {i : Nat} {r : RV} : ∀ {vs : List Nat}, (wipeE sl vs)[i]? = some (some r) → sl[i]? = some (some r) ∧ i ∉ vs
  | [], h => ⟨h, by simp⟩
  | v :: vs, h => by
    rw [wipeE] at h
    by_cases hv : v = i
    · subst hv
      by_cases hl : v < (wipeE sl vs).length
      · rw [List.getElem?_set_self hl] at h
        cases h
      · rw [List.getElem?_eq_none (by rw [List.length_set]; omega)] at h
        cases h
    · rw [List.getElem?_set_ne hv] at h
      obtain ⟨h1, h2⟩ := wipeE_some h
      exact ⟨h1, by simp [h2, Ne.symm hv]⟩
theorem wipe_set {σ : L2.St} {i : Nat} {x : Option V} : ∀ {vs : List Nat}, i ∈ vs → wipe (σ.set i x) vs = wipe σ vs
  | [], h => by simp at h
  | v :: vs, h => by
    rw [wipe, wipe]
    by_cases hi : i ∈ vs
    · rw [wipe_set hi]
    · have e : v = i := by
        rcases List.mem_cons.mp h with q | q
        · exact q.symm
        · exact absurd q hi
      subst e
      have g : ∀ {us : List Nat}, v ∉ us → wipe (σ.set v x) us = (wipe σ us).set v x := by
        intro us
        induction us with
        | nil => intro _; rfl
        | cons u us ih =>
          intro hn
          have hn' : v ≠ u ∧ v ∉ us := by simpa using hn
          rw [wipe, wipe, ih hn'.2, List.set_comm _ _ hn'.1]
      rw [g hi, List.set_set]
/-- the new list gets an item -/
def putL (k : Nat) (ob : List OD) (y : RV) (Z : List OD → Prop) : Prop :=
  (∃ ds d, ob[k]? = some (.lst ds) ∧ dv ⟨[], ob⟩ y = some d ∧ ds.length < sizeLine ∧ Z (ob.set k (.lst (ds ++ [d])))) ∨
  (∃ ds d ob', ob[k]? = some (.lst ds) ∧ fzR 9 ob y = some (d, ob') ∧ ob'[k]? = some (.lst ds) ∧ ds.length < sizeLine ∧ Z (ob'.set k (.lst (ds ++ [d])))) ∨
  (∃ xs, ob[k]? = some (.lsr xs) ∧ xs.length < sizeLine ∧ Z (ob.set k (.lsr (xs ++ [y]))))
def compX (vs : List Nat) (g : GX) (tt : TX) (te : EX) (G : Env → Prop) (sl : List (Option RV)) (k : Nat) (Z : List OD → Prop) : List RV → List OD → Prop
  | [], ob => G ⟨sl, ob⟩ ∧ Z ob
  | r :: rs, ob => G ⟨sl, ob⟩ ∧ g r ⟨wipeE sl vs, ob⟩ fun e2 => tt e2 (fun b e3 => if b = true then te e3 (fun y e4 => putL k e4.ob y (compX vs g tt te G sl k Z rs)) (fun _ _ => False) else compX vs g tt te G sl k Z rs e3.ob) (fun _ _ => False)
def eLc (t : IX) (g : GX) (tt : TX) (te : EX) (vs : List Nat) : EX := fun e P R => t e (fun all G e1 => ∃ o0, (o0 = OD.lst [] ∨ o0 = OD.lsr []) ∧
  compX vs g tt te G e1.sl e1.ob.length (fun ob => P (.ob e1.ob.length) ⟨e1.sl, ob⟩) all (e1.ob ++ [o0])) R
def tYesX : TX := fun e P _ => P true e
/-- targets that touch the slots vs only -/
def LGw (T : Cn) (vs : List Nat) (g : GX) : TG := fun v σ H Q => ∃ c F ad e r P, Rel T c e σ F H ad ∧ RvR T F ad r v ∧ g r e P ∧ ∀ σ' H' F' ad' e', Ex F F' → Px ad ad' → Rel T c e' σ' F' H' ad' → wipe σ' vs = wipe σ vs → P e' → Q σ' H'
def LGws (T : Cn) (vs : List Nat) (g : GXs) : TGs := fun us σ H Q => ∃ c F ad e rs P, Rel T c e σ F H ad ∧ RvL T F ad rs us ∧ g rs e P ∧ ∀ σ' H' F' ad' e', Ex F F' → Px ad ad' → Rel T c e' σ' F' H' ad' → wipe σ' vs = wipe σ vs → P e' → Q σ' H'
structure DGw (T : Cn) (X : Cx) (vs : List Nat) (tg : Expr) (g : GX) : Prop where
  pg : PG X tg (LGw T vs g)
structure DGws (T : Cn) (X : Cx) (vs : List Nat) (tgs : List Expr) (g : GXs) : Prop where
  pgs : PGs X tgs (LGws T vs g)
structure DTs (T : Cn) (X : Cx) (W : WX) (ifs : List Expr) (t : TX) : Prop where
  pts : PTs X ifs (LT T W t)
abbrev W0 : WX := fun _ _ _ _ => False
theorem takes_W0 {X : Cx} : Takes X W0 := fun _ _ ⟨_, _, _, _, _, _, _, _, _, _, _, _, _, _, _, _, w⟩ => w.elim
theorem xl_no {T : Cn} {c : BF} {W : WX} {F : Hp} {ad : List Addr} : XL T c W F ad (fun _ _ => False) := fun _ _ _ _ _ _ _ _ _ _ _ _ q => q.elim
section
variable {T : Cn} {X : Cx} {W : WX} {vs : List Nat}
theorem dgw_name (i : Nat) {x : Str} {pos : Pos} (hN : X.N.Nodup) (hi : X.N[i]? = some x := by rfl) (hx : Loc X.env.scope x := by first | exact Or.inl rfl | exact Or.inr rfl) (hf : X.fn x = true ∨ X.env.scope.names.lookup x = some .local := by first | exact .inl rfl | exact .inr rfl) (hv : i ∈ vs := by decide) :
    DGw T X vs (.Name x pos) (gNm i) :=
  ⟨PG.imp (pg_name hN hi hx hf) fun v σ H Q h => by
    obtain ⟨c, F, ad, e, r, P, rel, rr, q, k⟩ := h
    exact k _ H F ad _ (Ex.refl F) (Px.refl ad) (rel.put rr) (wipe_set hv) q⟩
theorem dgws_nil : DGws T X vs [] gsNil := ⟨PGs.imp pgs_nil fun v σ H Q h => by
  obtain ⟨c, F, ad, e, rs, P, rel, rr, ⟨rfl, q⟩, k⟩ := h
  exact ⟨rr, k σ H F ad e (Ex.refl F) (Px.refl ad) rel rfl q⟩⟩
theorem dgws_cons {e : Expr} {es : List Expr} {g : GX} {u : GXs} (h1 : DGw T X vs e g) (h2 : DGws T X vs es u) (hs : (assignEach (e :: es) X.env).map (·.2) = assign e X.env :: (assignEach es X.env).map (·.2) := by rfl) : DGws T X vs (e :: es) (gsCons g u) :=
  ⟨PGs.imp (pgs_cons h1.pg h2.pgs hs) fun v σ H Q h => by
    obtain ⟨c, F, ad, e, rs, P, rel, rr, ⟨r, qs, rfl, q⟩, k⟩ := h
    obtain ⟨x, xs, e0, rx, rxs⟩ := rr
    refine ⟨x, xs, e0, c, F, ad, e, r, _, rel, rx, q, fun σ' H' F' ad' e' x1 p1 rel1 w1 q1 => ?_⟩
    exact ⟨c, F', ad', e', qs, P, rel1, rxs.mono x1 p1, q1, fun σ2 H2 F2 ad2 e2 x2 p2 rel2 w2 => k σ2 H2 F2 ad2 e2 (x1.trans x2) (p1.trans p2) rel2 (w2.trans w1)⟩⟩
theorem dgw_tup {es : List Expr} {k n : Nat} {u : GXs} {pos : Pos} (hc : X.calm = true) (h : DGws T X vs es u) (hK : X.K = T.K := by rfl)
    (hn : (assignEach es X.env).length = n := by rfl) (hst : (assignEach es X.env).findIdx? (·.1) = none := by rfl) : DGw T X vs (.Tuple es k pos) (gTp n u) :=
  ⟨PG.imp (pg_tup hc h.pgs hn hst) fun v σ H Q h => by
    obtain ⟨c, F, ad, e, r, P, rel, rr, ⟨rs, e1, e2, q⟩, k⟩ := h
    obtain ⟨a, vs, ev, hs, hv⟩ := tpI_ok rel rr e1
    refine ⟨a, vs, ev, ?_, hv.len.trans e2, c, F, ad, e, rs, P, rel, hv, q, k⟩
    rw [hK]
    exact hs⟩
theorem PTs.imp {es : List Expr} {t u : TT} (h : PTs X es t) (g : ∀ σ H Q, u σ H Q → t σ H Q) : PTs X es u := ⟨fun pins s σ H Q I q => h.run pins s σ H Q I (g σ H Q q)⟩
theorem dts_nil : DTs T X W [] tYesX := ⟨PTs.imp pts_nil fun σ H Q h => by
  obtain ⟨c, F, ad, e, P, R, rel, q, hq, hx⟩ := h
  exact hq true H F ad e (Ex.refl F) (Px.refl ad) rel q⟩
theorem dts_one {a : Expr} {t : TX} (h : DT T X W a t) : DTs T X W [a] t := ⟨pts_one h.pt⟩
theorem rel_wipe {c : BF} {sl : List (Option RV)} {ob : List OD} {σ : L2.St} {F H : Hp} {ad : List Addr} (R : Rel T c ⟨sl, ob⟩ σ F H ad) (vs : List Nat) : Rel T c ⟨wipeE sl vs, ob⟩ (wipe σ vs) F H ad := by
  refine R.slots (by rw [wipeE_length, wipe_length]; exact R.len) fun i r h => ?_
  obtain ⟨h1, h2⟩ := wipeE_some h
  obtain ⟨v, hv, hr⟩ := R.sl i r h1
  exact ⟨v, by rw [wipe_out h2]; exact hv, hr⟩
theorem putL_ok {c : BF} {sl : List (Option RV)} {ob : List OD} {σ : L2.St} {F H : Hp} {ad : List Addr} {k : Nat} {y : RV} {v : V} {Z : List OD → Prop} {p : Addr} (R : Rel T c ⟨sl, ob⟩ σ F H ad) (hy : RvR T F ad y v) (hp : ad[k]? = some p) (h : putL k ob y Z) :
    ∃ acc F' ob', H p = some (.lst acc) ∧ acc.length < sizeLine ∧ Ex F F' ∧ Rel T c ⟨sl, ob'⟩ σ F' (upd H p (.lst (acc ++ [v]))) ad ∧ Z ob' := by
  rcases h with ⟨ds, d, hk, hd, hz, q1⟩ | ⟨ds, d, ob', hk, hd, hk', hz, q1⟩ | ⟨zs, hk, hz, q1⟩
  · obtain ⟨n1, n2, ws, h1, h2⟩ := R.ob k _ p hk hp
    have R2 := R.set (u := .lst (ws ++ [v])) (o' := .lst (ds ++ [d])) hk rfl hp ⟨n1, n2, _, upd_same, h2.append (RepL.cons (dv_ok (e := ⟨[], ob⟩) R.bare hy hd) RepL.nil)⟩
    exact ⟨ws, F, _, h1, by rw [h2.len]; exact hz, Ex.refl F, R2, q1⟩
  · obtain ⟨F1, x1, R1, g1⟩ := fzR_ok 9 R hd
    obtain ⟨n1, n2, ws, h1, h2⟩ := R1.ob k _ p hk' hp
    have R2 := R1.set (u := .lst (ws ++ [v])) (o' := .lst (ds ++ [d])) hk' rfl hp ⟨n1, n2, _, upd_same, h2.append (RepL.cons (g1 v hy) RepL.nil)⟩
    exact ⟨ws, F1, _, h1, by rw [h2.len]; exact hz, x1, R2, q1⟩
  · obtain ⟨n1, n2, ws, h1, h2⟩ := R.ob k _ p hk hp
    have R2 := R.set (u := .lst (ws ++ [v])) (o' := .lsr (zs ++ [y])) hk rfl hp ⟨n1, n2, _, upd_same, RvL.append h2 ⟨v, [], rfl, hy, rfl⟩⟩
    exact ⟨ws, F, _, h1, by rw [h2.len]; exact hz, Ex.refl F, R2, q1⟩
theorem le_lc {ti : IX} {g : GX} {tt : TX} {te : EX} {σ : L2.St} {H : Hp} {Q : VK} (h : LE T W (eLc ti g tt te vs) σ H Q) : tLc (LI T W ti) (LGw T vs g) (LT T W0 tt) (LE T W0 te) vs σ H Q := by
  obtain ⟨c, F, ad, e, P, R, rel, q, hq, hx⟩ := h
  refine ⟨c, F, ad, e, _, R, rel, q, fun J H0 F0 ad0 e0 all G x0 p0 rel0 wl q0 => fun L hL => ?_, hx⟩
  obtain ⟨o0, ho, q0⟩ := q0
  obtain ⟨sl, ob0⟩ := e0
  have hal : ad0.length = ob0.length := rel0.adl
  have relL : Rel T c ⟨sl, ob0 ++ [o0]⟩ σ F0 (upd H0 L (.lst [])) (ad0 ++ [L]) := by
    refine rel0.push hL ?_
    have fL := rel0.fh.free hL
    have bL := rel0.bh.free hL
    rcases ho with rfl | rfl
    · exact ⟨fL, bL, [], upd_same, RepL.nil⟩
    · exact ⟨fL, bL, [], upd_same, rfl⟩
  have atL : (ad0 ++ [L])[ob0.length]? = some L := by rw [← hal]; simp
  refine ⟨fun i m H1 => ∃ F1 ad1 ob, m + i = all.length ∧ Ex F0 F1 ∧ Px (ad0 ++ [L]) ad1 ∧ Rel T c ⟨sl, ob⟩ σ F1 H1 ad1 ∧ compX vs g tt te G sl ob0.length (fun ob => P (.ob ob0.length) ⟨sl, ob⟩) (all.drop i) ob,
    ⟨all.length, F0, ad0 ++ [L], ob0 ++ [o0], rfl, Ex.refl F0, Px.refl _, relL, q0⟩, ?_⟩
  rintro i m H1 ⟨F1, ad1, ob, hm, x1, p1, rel1, q1⟩
  have p01 : Px ad0 ad1 := (Px.push ad0 L).trans p1
  have atL1 : ad1[ob0.length]? = some L := p1 _ _ atL
  cases hd : all.drop i with
  | nil =>
    rw [hd] at q1
    have hi : i = all.length := by
      have := congrArg List.length hd
      rw [List.length_drop] at this
      have e0 : ([] : List RV).length = 0 := rfl
      omega
    refine .inl ⟨?_, ?_⟩
    · rw [hi]
      exact wl.stop _ σ F1 H1 ad1 x1 p01 rel1 q1.1
    · exact (hq.mono x0 p0).mono x1 p01 _ H1 F1 ad1 _ (.ob ob0.length) (Ex.refl F1) (Px.refl ad1) rel1 ⟨L, atL1, rfl⟩ q1.2
  | cons rr rs =>
    rw [hd] at q1
    have hi : all[i]? = some rr := by
      have := congrArg (fun l => l[0]?) hd
      simpa using this
    have hds : all.drop (i + 1) = rs := by
      have := congrArg List.tail hd
      simpa using this
    have hil : i < all.length := (List.getElem?_eq_some_iff.mp hi).1
    refine .inr ⟨wl.go _ σ F1 H1 ad1 i rr x1 p01 rel1 q1.1 hi, fun H3 => ∃ F3 ad3 ob3, Ex F0 F3 ∧ Px (ad0 ++ [L]) ad3 ∧ Rel T c ⟨sl, ob3⟩ σ F3 H3 ad3 ∧ compX vs g tt te G sl ob0.length (fun ob => P (.ob ob0.length) ⟨sl, ob⟩) rs ob3,
      fun H3 ⟨F3, ad3, ob3, y1, y2, y3, y4⟩ => ⟨m - 1, by omega, F3, ad3, ob3, by omega, y1, y2, y3, by rw [hds]; exact y4⟩, fun v H2 hy => ?_⟩
    obtain ⟨F2, x2, rel2, rv⟩ := wl.yld _ σ F1 H1 ad1 i rr v H2 x1 p01 rel1 q1.1 hi hy
    have x12 := x1.trans x2
    refine ⟨c, F2, ad1, _, rr, _, rel_wipe rel2 vs, rv, q1.2, fun σ3 H3 F3 ad3 e3 x3 p3 rel3 w3 q3 => ⟨?_, c, F3, ad3, e3, _, _, rel3, q3, fun b H4 F4 ad4 e4 x4 p4 rel4 q4 => ?_, xl_no⟩⟩
    · rw [w3]
      have hw : ∀ us : List Nat, (∀ u ∈ us, u ∈ vs) → wipe (wipe σ vs) us = wipe σ vs := by
        intro us
        induction us with
        | nil => intro _; rfl
        | cons u us ih =>
          intro hu
          rw [wipe, ih fun z hz => hu z (List.mem_cons_of_mem _ hz)]
          have hu1 := hu u List.mem_cons_self
          apply List.ext_getElem?
          intro j
          by_cases hj : u = j
          · subst hj
            by_cases hl : u < (wipe σ vs).length
            · rw [List.getElem?_set_self hl]
              cases hz : (wipe σ vs)[u]? with
              | none => rw [List.getElem?_eq_none_iff] at hz; omega
              | some z =>
                cases z with
                | none => rfl
                | some z => exact absurd hu1 (wipe_some hz).2
            · rw [List.getElem?_eq_none (by rw [List.length_set]; omega), List.getElem?_eq_none (by omega)]
          · rw [List.getElem?_set_ne hj]
      exact hw vs fun u hu => hu
    · have x14 := (x12.trans x3).trans x4
      have p14 := (p1.trans p3).trans p4
      -- the state behind the turn: the old names, the new objects
      have again : ∀ {ob5 : List OD} {F5 H5 : Hp} {ad5 : List Addr} {sl5 : List (Option RV)} {σ5 : L2.St}, Rel T c ⟨sl5, ob5⟩ σ5 F5 H5 ad5 → Ex F1 F5 → Px ad1 ad5 → Rel T c ⟨sl, ob5⟩ σ F5 H5 ad5 := fun {ob5 F5 H5 ad5 sl5 σ5} R5 xx pp =>
        R5.slots rel1.len fun i r hh => by
          obtain ⟨v, hv, hr⟩ := rel1.sl i r hh
          exact ⟨v, hv, hr.mono xx pp⟩
      cases b with
      | true =>
        rw [if_pos rfl] at q4
        dsimp only
        rw [if_pos rfl]
        refine ⟨c, F4, ad4, e4, _, _, rel4, q4, fun y H5 F5 ad5 e5 r5 x5 p5 rel5 rr5 q5 => ?_, xl_no⟩
        obtain ⟨sl5, ob5⟩ := e5
        obtain ⟨acc, F6, ob6, g1, g2, g3, g4, g5⟩ := putL_ok rel5 rr5 (p5 _ _ (p14 _ _ atL)) q5
        exact ⟨acc, g1, g2, F6, ad5, ob6, (x14.trans x5).trans g3, p14.trans p5, again g4 (((x2.trans x3).trans x4).trans (x5.trans g3)) ((p3.trans p4).trans p5), g5⟩
      | false =>
        obtain ⟨sl4, ob4⟩ := e4
        exact ⟨F4, ad4, ob4, x14, p14, again rel4 ((x2.trans x3).trans x4) (p3.trans p4), q4⟩
theorem de_lc {elt tg iter : Expr} {ifs : List Expr} {scope : Scope} {own : List (Str × Nat)} {pos : Pos} {ti : IX} {g : GX} {tt : TX} {te : EX} (hc : X.calm = true) (hN : X.N.Nodup) (hi : DI T X W tg iter ti) (ok : BlkOk X.N X.env.scope scope own) (hv : own.map (·.2) = vs := by rfl)
    (hg : ∀ (s : Shared) (H : Hp) (C : Addr) (cl : List (Str × Addr)) (fp : List Addr), DGw T (X.blk s H scope (compEnvC scope cl C X.env) fp) vs tg g) (ht : ∀ (s : Shared) (H : Hp) (C : Addr) (cl : List (Str × Addr)) (fp : List Addr), DTs T (X.blk s H scope (compEnvC scope cl C X.env) fp) W0 ifs tt)
    (he : ∀ (s : Shared) (H : Hp) (C : Addr) (cl : List (Str × Addr)) (fp : List Addr), DE T (X.blk s H scope (compEnvC scope cl C X.env) fp) W0 elt te) (hs : ∀ x, foldedSetIterable iter X.env x = pure x := by intro _; rfl) :
    DE T X W (.ListComp elt [⟨tg, iter, ifs, 0⟩] scope pos) (eLc ti g tt te vs) := by
  subst hv
  exact ⟨PE.imp (pe_lc hc hN hi.pi ok (fun s H C cl fp => (hg s H C cl fp).pg) (fun s H C cl fp => (ht s H C cl fp).pts) (fun s H C cl fp => (he s H C cl fp).pe) hs) fun σ H Q h => le_lc h⟩
theorem ds_setLc (i : Nat) {y : Str} {py : Pos} {elt tg iter : Expr} {ifs : List Expr} {scope : Scope} {own : List (Str × Nat)} {pos spos : Pos} {ti : IX} {g : GX} {tt : TX} {te : EX} (hc : X.calm = true) (hN : X.N.Nodup) (hi : DI T X W tg iter ti) (ok : BlkOk X.N X.env.scope scope own)
    (hsw : swapsWith (.ListComp elt [⟨tg, iter, ifs, 0⟩] scope pos) (some (.Name y py)) spos.line X.env = pure true) (hv : own.map (·.2) = vs := by rfl) (hy : X.N[i]? = some y := by rfl) (hyl : X.env.scope.names.lookup y = some .local := by rfl)
    (hg : ∀ (s : Shared) (H : Hp) (C : Addr) (cl : List (Str × Addr)) (fp : List Addr), DGw T (X.blk s H scope (compEnvC scope cl C X.env) fp) vs tg g) (ht : ∀ (s : Shared) (H : Hp) (C : Addr) (cl : List (Str × Addr)) (fp : List Addr), DTs T (X.blk s H scope (compEnvC scope cl C X.env) fp) W0 ifs tt)
    (he : ∀ (s : Shared) (H : Hp) (C : Addr) (cl : List (Str × Addr)) (fp : List Addr), DE T (X.blk s H scope (compEnvC scope cl C X.env) fp) W0 elt te) (hs : ∀ x, foldedSetIterable iter X.env x = pure x := by intro _; rfl) :
    DS T X W (.Assign [.Name y py] (.ListComp elt [⟨tg, iter, ifs, 0⟩] scope pos) spos) (sAsg (eLc ti g tt te vs) (gNm i)) := by
  subst hv
  exact ⟨PS.imp (ps_setLc hc hN hy hyl hsw hi.pi ok (fun s H C cl fp => (hg s H C cl fp).pg) (fun s H C cl fp => (ht s H C cl fp).pts) (fun s H C cl fp => (he s H C cl fp).pe) hs) fun D σ H h => by
    obtain ⟨c, F, ad, e, Po, rel, q, n, r, x, bk, ct⟩ := h
    exact le_lc ⟨c, F, ad, e, _, _, rel, q, fun v H1 F1 ad1 e1 rr x1 p1 rel1 r1 q1 => n _ H1 F1 ad1 _ x1 p1 (rel1.put r1) q1, x⟩⟩
end
end DL
end
section
set_option Elab.async false
set_option linter.all false
set_option autoImplicit false
set_option maxRecDepth 100000
set_option maxHeartbeats 2000000
/-! DLK: exceptions of own classes; the head's facts; the law's end. -/
namespace DL
open PySem PySem.Spec L2
open PyProof.Rows hiding St

/-! ### own exception classes, made -/
/-- __init__ stores its parameters in the fields fs, in this order -/
def spI (C : Addr) (fs : List Str) : Sp := fun vs H Q _ => ∃ a ws, vs = .ref a :: ws ∧ ws.length = fs.length ∧ H a = some (exo a C none) ∧
  ∀ d, H d = none → d ≠ a → Q .non (upd (upd H d (exd d (fs.zip ws).reverse)) a (exo a C (some d)))
section
variable {P : Program} {w : World} {K : PySem.W.Frag} {mg : Str → Option Value} {base : Heap} {f C : Addr} {fd : FuncData} {N ps : List Str} {name qual : Str} {params : Arguments} {body : List Stmt} {scope : Scope} {f1 f2 f3 : Str}
theorem spI_len {n : Nat} {fs : List Str} (h : fs.length + 1 = n) : ∀ vs H Q E, spI C fs vs H Q E → vs.length = n := fun vs H Q E ⟨a, ws, e1, e2, _⟩ => by
  rw [e1, ← h, ← e2]
  rfl
theorem upd_swap {H : Hp} {a d : Addr} {u v u' : HO} (h : d ≠ a) : upd (upd (upd H d u) a v) d u' = upd (upd H d u') a v := by
  funext b
  unfold upd
  by_cases h1 : b = d
  · subst h1
    simp [h]
  · by_cases h2 : b = a
    · subst h2
      simp [h1]
    · simp [h1, h2]
theorem init1 (T : OexC K C) (n1 : PySem.W.findIn K (.ref C) f1 = some none) (F : FunD K name qual params body scope [] [] f fd) (S : FnScope N ps scope) (hp : 2 = ps.length) (hN : N.length = 2)
    (hb : ∀ (cdv : Value) (A : Around) (outer : List PySem.Env) (s : Shared) (H : Hp) (E : XK), PSs (cxOf (L2.CX P w) P w K mg base N qual scope f cdv A outer s H E) body (tOst K f1 (tVar 0) (tVar 1))) :
    FnOk P w K mg base (L2.CX P w) 1 f fd ps (spI C [f1]) := by
  refine F.ok S (spI_len hp) fun cdv A outer s H vs Q E hr h => ⟨_, hb cdv A outer s H E, ?_⟩
  obtain ⟨a, ws, rfl, hl, ha, q⟩ := h
  match ws, hl with
  | [y], _ =>
    have e0 : L2.start N [.ref a, y] = [some (.ref a), some y] := by simp [L2.start, hN]
    rw [e0]
    exact ⟨y, rfl, .ref a, rfl, a, C, rfl, T, n1, .inl ⟨ha, fun dx h1 h2 => q dx h1 h2⟩⟩
theorem init2 (T : OexC K C) (n1 : PySem.W.findIn K (.ref C) f1 = some none) (n2 : PySem.W.findIn K (.ref C) f2 = some none) (F : FunD K name qual params body scope [] [] f fd) (S : FnScope N ps scope) (hp : 3 = ps.length) (hN : N.length = 3)
    (hb : ∀ (cdv : Value) (A : Around) (outer : List PySem.Env) (s : Shared) (H : Hp) (E : XK), PSs (cxOf (L2.CX P w) P w K mg base N qual scope f cdv A outer s H E) body (tSeq (tOst K f1 (tVar 0) (tVar 1)) (tOst K f2 (tVar 0) (tVar 2)))) :
    FnOk P w K mg base (L2.CX P w) 1 f fd ps (spI C [f1, f2]) := by
  refine F.ok S (spI_len hp) fun cdv A outer s H vs Q E hr h => ⟨_, hb cdv A outer s H E, ?_⟩
  obtain ⟨a, ws, rfl, hl, ha, q⟩ := h
  match ws, hl with
  | [y, z], _ =>
    have e0 : L2.start N [.ref a, y, z] = [some (.ref a), some y, some z] := by simp [L2.start, hN]
    rw [e0]
    refine ⟨y, rfl, .ref a, rfl, a, C, rfl, T, n1, .inl ⟨ha, fun dx h1 h2 => ⟨z, rfl, .ref a, rfl, a, C, rfl, T, n2, .inr ⟨dx, [(f1, y)], upd_same, ?_, (by decide : 1 ≤ 900), ?_⟩⟩⟩⟩
    · rw [upd_ne h2, upd_same]
    · rw [upd_swap h2]
      exact q dx h1 h2
theorem init3 (T : OexC K C) (n1 : PySem.W.findIn K (.ref C) f1 = some none) (n2 : PySem.W.findIn K (.ref C) f2 = some none) (n3 : PySem.W.findIn K (.ref C) f3 = some none) (F : FunD K name qual params body scope [] [] f fd) (S : FnScope N ps scope) (hp : 4 = ps.length) (hN : N.length = 4)
    (hb : ∀ (cdv : Value) (A : Around) (outer : List PySem.Env) (s : Shared) (H : Hp) (E : XK), PSs (cxOf (L2.CX P w) P w K mg base N qual scope f cdv A outer s H E) body (tSeq (tOst K f1 (tVar 0) (tVar 1)) (tSeq (tOst K f2 (tVar 0) (tVar 2)) (tOst K f3 (tVar 0) (tVar 3))))) :
    FnOk P w K mg base (L2.CX P w) 1 f fd ps (spI C [f1, f2, f3]) := by
  refine F.ok S (spI_len hp) fun cdv A outer s H vs Q E hr h => ⟨_, hb cdv A outer s H E, ?_⟩
  obtain ⟨a, ws, rfl, hl, ha, q⟩ := h
  match ws, hl with
  | [y, z, u], _ =>
    have e0 : L2.start N [.ref a, y, z, u] = [some (.ref a), some y, some z, some u] := by simp [L2.start, hN]
    rw [e0]
    refine ⟨y, rfl, .ref a, rfl, a, C, rfl, T, n1, .inl ⟨ha, fun dx h1 h2 => ⟨z, rfl, .ref a, rfl, a, C, rfl, T, n2, .inr ⟨dx, [(f1, y)], upd_same, ?_, (by decide : 1 ≤ 900), u, rfl, .ref a, rfl, a, C, rfl, T, n3, .inr ⟨dx, [(f2, z), (f1, y)], ?_, ?_, (by decide : 2 ≤ 900), ?_⟩⟩⟩⟩⟩
    · rw [upd_ne h2, upd_same]
    · rw [upd_swap h2, upd_same]
    · rw [upd_swap h2, upd_ne h2, upd_same]
    · rw [upd_swap h2, upd_swap h2]
      exact q dx h1 h2
end
/-- the class of number c stores the fields fl -/
structure ExcK (T : Cn) (P : Program) (w : World) (base : Heap) (c : Nat) (fl : List Nat) : Prop where
  all : ∃ (C fI : Addr) (fd : FuncData) (ps : List Str), T.mg (T.nm c) = some (.ref C) ∧ OexC T.K C ∧ PySem.W.findIn T.K (.ref C) "__init__" = some (some (.ref fI)) ∧ PySem.W.typeIn T.K (.ref fI) = some (.type "function") ∧
    FnOk P w T.K T.mg base (L2.CX P w) 1 fI fd ps (spI C (fl.map T.nm)) ∧ Binds T.K fd ps [] ∧ (fl.map T.nm).Nodup
def allFrz : List RV → List Bool := List.map fun _ => true
/-- raise C(..) -/
def sRaise (c : Nat) (fl : List Nat) (u : AX) : SX := fun e Po => u e (fun rs e1 => rs.length ≤ 900 ∧ ∃ ds ob', frz (allFrz rs) e1.ob rs = some (ds.map .val, ob') ∧ ds.length = fl.length ∧ Po.xc ⟨c, fl.zip ds⟩ ⟨e1.sl, ob'⟩) Po.xc
section
variable {T : Cn} {X : Cx} {W : WX} {a : Expr} {es : List Expr} {u : AX} {pos pos' p : Pos} {x : Str}
theorem rvl_vals {F : Hp} {ad : List Addr} : ∀ {ds : List D} {vs : List V}, RvL T F ad (ds.map .val) vs → RepL T F ds vs
  | [], _, h => repL_nil.mpr h
  | d :: ds, _, ⟨v, q, h0, h1, h2⟩ => by
    subst h0
    exact RepL.cons h1 (rvl_vals h2)
theorem lookup_rev {α β : Type} [BEq α] [LawfulBEq α] {k : α} {v : β} : ∀ {l : List (α × β)}, (l.map (·.1)).Nodup → (k, v) ∈ l → l.reverse.lookup k = some v
  | [], _, h => by simp at h
  | (a, b) :: l, nd, h => by
    have nd' : a ∉ l.map (·.1) ∧ (l.map (·.1)).Nodup := List.nodup_cons.mp nd
    rw [List.reverse_cons, List.lookup_append]
    rcases List.mem_cons.mp h with e | h2
    · cases e
      have hn : l.reverse.lookup k = none := by
        rw [List.lookup_eq_none_iff]
        intro q hq
        have hq2 : q ∈ l := by simpa using hq
        have : k ≠ q.1 := fun e => nd'.1 (e ▸ List.mem_map_of_mem hq2)
        simpa using this
      rw [hn]
      simp
    · rw [lookup_rev nd'.2 h2]
      rfl
theorem repX_zip {F : Hp} {gs : List (Str × V)} : ∀ {fl : List Nat} {ds : List D} {vs : List V}, RepL T F ds vs → ds.length = fl.length → (∀ f v, (f, v) ∈ (fl.map T.nm).zip vs → gs.lookup f = some v) → RepX T F (fl.zip ds) gs
  | [], ds, vs, _, _, _ => by
    rw [List.zip_nil_left]
    exact repX_nil
  | f :: fl, [], vs, _, e, _ => by simp at e
  | f :: fl, d :: ds, vs, h, e, g => by
    obtain ⟨v, q, rfl, h1, h2⟩ := repL_cons.mp h
    rw [List.zip_cons_cons]
    refine repX_cons.mpr ⟨⟨v, g _ _ (by simp), h1⟩, repX_zip h2 (by simpa using e) fun f' v' hm => g f' v' ?_⟩
    rw [List.map_cons, List.zip_cons_cons]
    exact List.mem_cons_of_mem _ hm
theorem ds_raise {c : Nat} {fl : List Nat} (E : ExcK T X.prog X.w X.base c fl) (hc : X.calm = true) (hr : Room 2 X.A) (tk : Takes X W) (ha : DA T X W (a :: es) u) (hx : T.nm c = x := by rfl) (hfl : fl ≠ [] := by decide) (hg : Gl X x := by rfl) (hK : X.K = T.K := by rfl) (hM : X.mg = T.mg := by rfl)
    (hdb : (x == ("__debug__" : Str)) = false := by decide) (he : starEach (a :: es) X.env = (false, eval a X.env) :: starEach es X.env := by rfl) (hpl : (backTo pos (starEach es X.env)).any (·.1) = false := by rfl) :
    DS T X W (.Raise (some (.Call (.Name x p) (a :: es) [] pos)) none pos') (sRaise c fl u) := by
  obtain ⟨C, fI, fd, ps, hC, O, iC, tI, FI, hB, nd⟩ := E.all
  subst hx
  rw [← hM] at hC
  have FI' : FnOk X.prog X.w X.K X.mg X.base (L2.CX X.prog X.w) 1 fI fd ps (spI C (fl.map T.nm)) := by
    rw [hK, hM]
    exact FI
  rw [← hK] at O iC tI hB
  have pm := pmk_oex (p := p) O iC tI FI' hr hB (.nil : Vals [] []) (fun _ _ _ _ _ _ _ ⟨_, _, _, _, _, _, _, _, _, _, _, _, z⟩ => z.elim) hg hC ha.pa hdb he hpl
  refine ⟨PS.imp (ps_raise hc tk pm) fun D σ H h => ?_⟩
  obtain ⟨c0, F, ad, e, Po, rel, q, n, r, x, bk, ct⟩ := h
  refine ⟨c0, F, ad, e, _, _, rel, q, fun vs H1 F1 ad1 e1 rs x1 p1 rel1 r1 q1 => ?_, x⟩
  obtain ⟨hl, ds, ob', h1, h2, h3⟩ := q1
  obtain ⟨sl, ob⟩ := e1
  obtain ⟨F2, x2, rel2, g2⟩ := frz_ok _ rel1 h1
  have hv := rvl_vals (g2 vs r1)
  refine ⟨by rw [r1.len]; omega, fun a' ha' => ⟨a', vs, by rw [List.append_nil], by rw [hv.len, h2, List.length_map], upd_same, fun d hd hda => ?_⟩⟩
  have hd1 : H1 d = none := by rwa [upd_ne hda] at hd
  refine ⟨rfl, d, _, upd_same, by rw [upd_ne hda, upd_same], hd1, ?_⟩
  have eH : upd (del (upd (upd (upd H1 a' (exo a' C none)) d (exd d ((fl.map T.nm).zip vs).reverse)) a' (exo a' C (some d))) a') d (.xd ((fl.map T.nm).zip vs).reverse) = upd H1 d (.xd ((fl.map T.nm).zip vs).reverse) := by
    funext b
    unfold upd del
    by_cases hb1 : b = d
    · simp [hb1]
    · by_cases hb2 : b = a'
      · subst hb2
        simp [hb1, ha']
      · simp [hb1, hb2]
  rw [eH]
  have rel3 := rel2.laid (u := .xd ((fl.map T.nm).zip vs).reverse) hd1
  have xn : Ex F2 (upd F2 d (.xd ((fl.map T.nm).zip vs).reverse)) := Ex.new (rel2.fh.free hd1)
  refine x (.ref C) (some d) σ _ _ ad1 ⟨sl, ob'⟩ ⟨c, fl.zip ds⟩ (x1.trans (x2.trans xn)) p1 rel3 ⟨C, by rw [← hM]; exact hC, rfl, .inr ⟨d, _, rfl, upd_same, ?_⟩⟩ h3
  refine repX_zip (hv.mono xn) h2 fun f v hm => lookup_rev ?_ hm
  rw [List.map_fst_zip (by rw [hv.len, h2, List.length_map]; exact Nat.le_refl _)]
  exact nd
end

/-! ### try .. except C as n -/
def ClsIs (T : Cn) (cls : Value) (c : Nat) : Prop := ∃ C, T.mg (T.nm c) = some (.ref C) ∧ cls = .ref C
/-- isA: does the clause take the class -/
def sTryAs (T : Cn) (i : Nat) (isA : Nat → Option Bool) (b : SX) (h : Addr → Value → Option Addr → SX) : SX := fun e Po => b e { Po with xc := fun x e1 => ∃ k, isA x.c = some k ∧
  (if k = true then (∀ a cls d dd, ClsIs T cls x.c → (x.fs ≠ [] → d = some dd) → h a cls d { e1 with sl := e1.sl.set i (some (.val (.exn a dd x.c x.fs))) }
    { nx := fun e2 => Po.nx { e2 with sl := e2.sl.set i none }, rt := Po.rt, xc := fun _ _ => False, bk := fun e2 => Po.bk { e2 with sl := e2.sl.set i none }, ct := fun e2 => Po.ct { e2 with sl := e2.sl.set i none } })
  else Po.xc x e1) }
section
variable {T : Cn} {X : Cx} {W : WX}
theorem Rel.unput {c : BF} {e : Env} {σ : L2.St} {F H : Hp} {ad : List Addr} (R : Rel T c e σ F H ad) (i : Nat) : Rel T c { e with sl := e.sl.set i none } (σ.set i none) F H ad := by
  refine R.slots (by rw [List.length_set, List.length_set]; exact R.len) fun j r h => ?_
  by_cases hj : i = j
  · subst hj
    by_cases hl : i < e.sl.length
    · rw [List.getElem?_set_self hl] at h
      cases h
    · rw [List.getElem?_eq_none (by rw [List.length_set]; omega)] at h
      cases h
  · rw [List.getElem?_set_ne hj] at h
    rw [List.getElem?_set_ne hj]
    exact R.sl j r h
theorem ds_tryAs (i : Nat) {x n : Str} {cv : Value} {body suite : List Stmt} {b₀ : Stmt} {np pos pos' : Pos} {b : SX} {h : Addr → Value → Option Addr → SX} {isA : Nat → Option Bool} (hN : X.N.Nodup) (hc : Names X x cv) (tk : Takes X W)
    (hA : ∀ c k, isA c = some k → ∀ C, T.mg (T.nm c) = some (.ref C) → PySem.W.exmOne T.K (.ref C) cv = some k)
    (hb : ∀ (W' : WX) (pn : List (Addr × Obj)) (xe : Value → Shared → Prop), Takes (X.tr pn xe) W' → PassesOwn (model X.prog X.w) X.A X.env xe → DSs T (X.tr pn xe) W' body b)
    (hsu : ∀ (a : Addr) (oe : Obj) (cls : Value) (d : Option Addr) (pn : List (Addr × Obj)), Zc cls d oe → (∃ vs, oe.data = .fields vs) → DSs T (X.suite a ((a, oe) :: pn)) W0 (b₀ :: suite) (h a cls d))
    (hs : X.stack = X.env :: X.outer := by rfl) (hf : X.env.frame = some X.env.locals := by rfl) (hi : X.N[i]? = some n := by rfl) (hln : X.env.kindOf n = some .local := by rfl) (hK : X.K = T.K := by rfl) :
    DS T X W (.Try body [.ExceptHandler (some (.Name x np)) (some n) (b₀ :: suite) pos'] [] [] pos) (sTryAs T i isA b h) :=
  ⟨PS.imp (ps_try_as hs hf hN hi hln hc tk (tb := fun W' => LS T W' b) (ts := fun a cls d => LS T W0 (h a cls d)) (fun W' pn xe t p => (hb W' pn xe t p).pss) (fun a oe cls d pn z f => (hsu a oe cls d pn z f).pss)) fun D σ H hh => by
    obtain ⟨c0, F, ad, e, Po, rel, q, nx, rt, xl, bk, ct⟩ := hh
    refine ⟨c0, F, ad, e, _, rel, q, nx, rt, ?_, bk, ct⟩
    intro cls d σ' H' F' ad' e' xx x1 p1 rel1 xr q1
    obtain ⟨k, hk, q2⟩ := q1
    obtain ⟨C, hC, rfl, hf2⟩ := xr
    have hex := hA _ _ hk C hC
    rw [← hK] at hex
    refine ⟨k, hex, fun ek a ha => ?_, fun ek => ?_⟩
    · subst ek
      rw [if_pos rfl] at q2
      have go : ∀ dd, (xx.fs ≠ [] → d = some dd) → Rep T F' (.exn a dd xx.c xx.fs) (.ref a) → _ := fun dd h1 h2 =>
        (⟨c0, F', ad', _, _, rel1.put (i := i) (r := .val (.exn a dd xx.c xx.fs)) h2, q2 a (.ref C) d dd ⟨C, hC, rfl⟩ h1,
          fun σ2 H2 F2 ad2 e2 x2 p2 rel2 q3 => nx _ H2 F2 ad2 _ (x1.trans x2) (p1.trans p2) (rel2.unput i) q3,
          fun v σ2 H2 F2 ad2 e2 r2 x2 p2 rel2 rr q3 => rt v σ2 H2 F2 ad2 e2 r2 (x1.trans x2) (p1.trans p2) rel2 rr q3, xl_no,
          fun σ2 H2 F2 ad2 e2 x2 p2 rel2 q3 => bk _ H2 F2 ad2 _ (x1.trans x2) (p1.trans p2) (rel2.unput i) q3,
          fun σ2 H2 F2 ad2 e2 x2 p2 rel2 q3 => ct _ H2 F2 ad2 _ (x1.trans x2) (p1.trans p2) (rel2.unput i) q3⟩ :
          LS T W0 (h a (.ref C) d) { nx := fun σ' H' => D.nx (σ'.set i none) H', rt := D.rt, bk := fun σ' H' => D.bk (σ'.set i none) H', ct := fun σ' H' => D.ct (σ'.set i none) H' } (σ'.set i (some (.ref a))) H')
      rcases hf2 with hnil | ⟨dd, gs, hd, hF, hX⟩
      · exact go 0 (fun z => absurd hnil z) (rep_exn.mpr ⟨rfl, .inl hnil⟩)
      · exact go dd (fun _ => hd) (rep_exn.mpr ⟨rfl, .inr ⟨gs, hF, hX⟩⟩)
    · subst ek
      rw [if_neg Bool.false_ne_true] at q2
      exact xl (.ref C) d σ' H' F' ad' e' xx x1 p1 rel1 ⟨C, hC, rfl, hf2⟩ q2⟩
/-- n.f in the suite -/
def eXf (T : Cn) (a : Addr) (cls : Value) (d : Option Addr) (cs : List Nat) (f : Nat) (t : EX) : EX := fun e P R => t e (fun r e1 => ∃ dd c fs v, r = .val (.exn a dd c fs) ∧ ClsIs T cls c ∧ d = some dd ∧ c ∈ cs ∧ fs.lookup f = some v ∧ P (.val v) e1) R
theorem de_xf {a : Addr} {oe : Obj} {cls : Value} {d : Option Addr} {pn : List (Addr × Obj)} {e : Expr} {t : EX} {pos : Pos} {n : Str} {cs : List Nat} {f : Nat} (hz : Zc cls d oe) (hf : ∃ vs, oe.data = .fields vs)
    (hcs : ∀ c ∈ cs, ∀ C, T.mg (T.nm c) = some (.ref C) → XfC T.K C ∧ PySem.W.findIn T.K (.ref C) (T.nm f) = some none) (he : DE T (X.suite a ((a, oe) :: pn)) W0 e t) (hn : T.nm f = n := by rfl) (hK : X.K = T.K := by rfl)
    (hb : attributeBase e n X.env (eval e X.env) = eval e X.env := by rfl) : DE T (X.suite a ((a, oe) :: pn)) W0 (.Attribute e n pos) (eXf T a cls d cs f t) := ⟨⟨fun pins s σ H Q I h => by
  obtain ⟨c0, F, ad, en, P, R, rel, q, hq, hx⟩ := h
  subst hn
  -- the class is looked at first: only then its facts are known
  refine attr_of hb (thn (he.pe.run pins s σ H (fun v H1 => ∃ F1 ad1 e1 r, Ex F F1 ∧ Px ad ad1 ∧ Rel T c0 e1 σ F1 H1 ad1 ∧ RvR T F1 ad1 r v ∧ ∃ dd c fs w, r = .val (.exn a dd c fs) ∧ ClsIs T cls c ∧ d = some dd ∧ c ∈ cs ∧ fs.lookup f = some w ∧ P (.val w) e1) I
    ⟨c0, F, ad, en, _, R, rel, q, fun v H1 F1 ad1 e1 r x1 p1 rel1 r1 q1 => ⟨F1, ad1, e1, r, x1, p1, rel1, r1, q1⟩, hx⟩) fun u s1 hh => ?_)
  obtain ⟨v, H1, I1, rv, F1, ad1, e1, r, x1, p1, rel1, r1, dd, c, fs, w, rfl, ⟨C, hC, hcl⟩, hd, hc, hl, hP⟩ := hh
  obtain ⟨XC, hno⟩ := hcs c hc C hC
  rw [← hK] at XC hno
  obtain ⟨rfl, hfs⟩ := rep_exn.mp (show Rep T F1 (.exn a dd c fs) v from r1)
  obtain rfl : u = Value.ref a := rv
  rcases hfs with hnil | ⟨gs, hF, hX⟩
  · rw [hnil] at hl
    cases hl
  · obtain ⟨z, hz1, hz2⟩ := hX.get hl
    subst hcl hd
    obtain ⟨ha, _⟩ := I1.pin (a, oe) (List.mem_append_left _ List.mem_cons_self)
    obtain ⟨ws, hw⟩ := hf
    obtain ⟨mA, hns, hr⟩ : ObjOk X.prog X.w H1 s1.heap dd (.xd gs) := I1.hok dd _ (rel1.fh _ _ hF)
    obtain ⟨od, ho, hlk⟩ := lookIn_ns hns
    obtain ⟨y, hy, ry⟩ := RelO.some_of (v := z) (o := mA (T.nm f)) (by rw [← hz1]; exact hr (T.nm f))
    have J : PySem.W.InstAt s1.heap a oe C (some od) := ⟨ha, hz.1, by unfold PySem.W.notCls; rw [hw] <;> rfl, by rw [hz.2]; exact ho⟩
    exact HandSPX.exc_get I1.kIn J XC.ga XC.gg XC.exC (PySem.W.findObj_own XC.hdC hno rfl (by rw [hlk, hy])) (handed_of ry) ⟨z, H1, I1.tok _, ry, (hq.mono x1 p1).val rel1 hz2 hP⟩⟩⟩
end
end DL
end
section
set_option Elab.async false
set_option linter.all false
set_option autoImplicit false
set_option maxRecDepth 100000
set_option maxHeartbeats 2000000
/-! DLL: isinstance of a caught error; the head's facts; the law's end. -/
namespace PySem.W
open PySem PySem.Spec PySem.Calls PyProof.Rows
/-- as the library's rule for a caught error's class, the error having its own dict -/
theorem exnClass {prog : Program} {w : World} {A : Around} {E : Value → Shared → Prop} {s : Shared} {K : Frag} {x D : Addr} {ox : Obj} {dct : Option Obj} {Z : Option Value → Shared → Prop} (c1 : findIn K (.ref D) "__getattribute__" = some (some (.builtin "BaseException.__getattribute__")))
    (c2 : findIn K (.ref D) "__getattr__" = some none) (c3 : subIn K (.ref D) (.type "BaseException") = some true) (c4 : hasDictIn K D = true) (c5 : findIn K (.ref D) "__class__" = some (some (.builtin "object.__class__")))
    (c6 : specialIn K (.builtin "object.__class__") "__get__" = some (some (.builtin "getset_descriptor.__get__"))) (c7 : takesIn K (.builtin "object.__class__") = some true) (c8 : mroIn K D (.type "object") = some true)
    (kin : K.In s.heap) (inst : InstAt s.heap x ox D dct) (fin : Z (some (.ref D)) { s with toks := s.toks + 1 }) : wpAny (model prog w) A (getAttr? (.ref x) "__class__") Z E s := by
  have found : findObj K D dct "__class__" = some (.bind (.builtin "getset_descriptor.__get__") (.builtin "object.__class__")) := by
    obtain ⟨cd, hcd⟩ := Option.isSome_iff_exists.mp (show (clsIn K D).isSome = true by obtain ⟨cd, hc, _⟩ := any_some c4; rw [hc]; rfl)
    unfold findObj
    rw [hcd, Option.bind_some, c5, Option.bind_some]
    simp [c6, c7]
  obtain ⟨hp, gn, dr, tk, ost⟩ := s
  have l0 := inst.type (M := model prog w)
  have l1 := looks_findIn (M := model prog w) kin c1
  have l2 := looks_findIn (M := model prog w) kin c2
  have l3 := looks_find (M := model prog w) kin inst found
  have isB : Looks (model prog w) hp (isInstance (.ref x) (.type "BaseException")) true := l0.andThen (looks_subIn kin c3)
  have t0 : (false && onTheHeap (Value.builtin "BaseException.__getattribute__")) = false := rfl
  have t2 : (Value.builtin "BaseException.__getattribute__" == Value.builtin "object.__getattribute__") = false := by decide +kernel
  have t1 : (onTheHeap (Value.ref D) && Value.builtin "BaseException.__getattribute__" == Value.builtin "object.__getattribute__") = false := by rw [t2]; rfl
  unfold getAttr? getAttrBy? getAttrBy
  refine wpAny_bind (wpAny_mkText (wpAny_bind (wpAny_attempt (wpAny_holding (wpAny_bind (l0.at (wpAny_bind (l1.at ?_))))))))
  show wpAny _ _ (if (onTheHeap (Value.ref D) && Value.builtin "BaseException.__getattribute__" == Value.builtin "object.__getattribute__") = true then _ else _) _ _ _
  rw [t1, if_neg Bool.false_ne_true]
  unfold getAttrByItsOwn hookBefore
  refine wpAny_bind ?_
  rw [if_pos (show onTheHeap (Value.ref D) = true from rfl)]
  refine l2.at (wpAny_bind (wpAny_attempt (wpAny_holding ?_)))
  unfold callGetattribute
  rw [t0, if_neg Bool.false_ne_true]
  unfold boundAndCalled
  rw [PySem.F.excAttr_ValueError.ga.bind (.ref x)]
  refine wpAny_bind (wpAny_pure ?_)
  show wpAny _ _ (call (.builtin "BaseException.__getattribute__") [.ref x, .str "__class__" tk]) _ _ _
  refine wpAny_call (codeAny_call_builtin PySem.F.excAttr_ValueError.ga.plain PySem.F.entry_bexc_ga ?_)
  refine @check_slot (model prog w) _ _ ⟨hp, gn, dr, tk + 1, ost⟩ "BaseException.__getattribute__" "BaseException" "__getattribute__" (.ref x) [.str "__class__" tk] [] _ (by decide +kernel) (by decide +kernel) isB (PySem.F.args_bexc_ga (.ref x) (.str "__class__" tk)) ?_
  unfold Builtin.«object.__getattribute__»
  refine wpAny_bind (wpAny_of_eq (a := ((Value.ref x : Value), [Value.str "__class__" tk])) (by first | rfl | (simp only [slotArgs]; rfl)) ?_)
  refine wpAny_bind (wpAny_pure (wpAny_bind (l0.at (wpAny_bind (l3.at ?_)))))
  show wpAny _ _ (holding [Value.builtin "object.__class__"] (call (.builtin "getset_descriptor.__get__") [.builtin "object.__class__", .ref x, .ref D]) >>= ret) _ _ _
  refine wpAny_bind (wpAny_holding (wpAny_call (class_get (s := ⟨hp, gn, dr, tk + 1, ost⟩) (ox := ox) (od := dct) kin inst c8 (wpAny_pure ?_))))
  show wpAny _ _ (handedOut (.ref D)) _ _ _
  rw [handedOut_of (v := .ref D) rfl]
  first
    | exact wpAny_pure (wpAny_pure fin)
    | exact wpAny_pure fin
    | exact wpAny_pure (wpAny_bind (wpAny_pure (wpAny_pure fin)))
end PySem.W
namespace DL
open PySem PySem.Spec L2
open PyProof.Rows hiding St

theorem kit_exn {K : PySem.W.Frag} {x D : Addr} {ox : Obj} (C : ExcC K D) : PySem.W.KitX K (.ref x) (.ref D) (fun h => ∃ od, PySem.W.InstAt h x ox D od) where
  ty := fun _ _ _ ⟨_, I⟩ => I.type
  it := fun M h X ⟨od, I⟩ => by
    obtain ⟨cd, hc, _⟩ := PySem.W.any_some C.hd
    unfold PySem.W.clsIn at hc
    split at hc
    · rename_i c1 d1 cd1 sl1 ho
      intro A1 Q1 E1 s1 k q
      unfold isType loadHead
      exact wpAny_bind (wpAny_loadPart (k _ _ (X _ _ ho)) (wpAny_pure q))
    · cases hc
  ne := fun h tp dd its n sl X htp => (PySem.W.handS_kitx_exc (x := x) (ox := ox) C.hg C.hk C.hs C.hd C.ha C.hn C.ht C.hm).ne h tp dd its n sl X htp
  ca := fun X ⟨_, I⟩ k => PySem.W.exnClass C.hg C.hk C.hs C.hd C.ha C.hn C.ht C.hm X I k
/-- isinstance(n, C2) in the suite; ans: the answer for each class that may have been caught -/
def eXi (T : Cn) (a : Addr) (cls : Value) (d : Option Addr) (ans : Nat → Option Bool) (t : EX) : EX := fun e P R => t e (fun r e1 => ∃ dd c fs b, r = .val (.exn a dd c fs) ∧ ClsIs T cls c ∧ fs ≠ [] ∧ d = some dd ∧ ans c = some b ∧ P (.val (.bl b)) e1) R
def rIsX (K : PySem.W.Frag) (a : Addr) (oe : Obj) : List V → Hp → VK → Prop := fun xs H Q => ∃ (D : Addr) (d : Option Addr) (c : V) (cv : Value) (b : Bool), ExcC K D ∧ Zc (.ref D) d oe ∧ (∀ dd, d = some dd → ∃ gs, H dd = some (.xd gs)) ∧ xs = [.ref a, c] ∧ (∀ u, RelV c u → u = cv) ∧ PySem.W.kitOne K (.ref D) cv = some b ∧ Q (.bl b) H
theorem call_isX {X : Cx} {a : Addr} {oe : Obj} {pn : List (Addr × Obj)} (hf : ∃ vs, oe.data = .fields vs) : CallR (X.suite a ((a, oe) :: pn)) (.builtin "isinstance") (rIsX X.K a oe) := by
  intro pins s σ H xs us Q I r h
  obtain ⟨D, d, c, cv, b, C, hz, hdd, rfl, hcv, e, q⟩ := h
  obtain ⟨u1, u2, rfl, r1, r2⟩ := vals2 r
  obtain rfl : u1 = Value.ref a := r1
  have ec := hcv _ r2
  subst ec
  obtain ⟨hget, _⟩ := I.pin (a, oe) (List.mem_append.mpr (.inl List.mem_cons_self))
  obtain ⟨ws, hw⟩ := hf
  have J : ∃ od, PySem.W.InstAt s.heap a oe D od := by
    have hn : PySem.W.notCls oe = true := by unfold PySem.W.notCls; rw [hw]
    cases hd : oe.dict with
    | none => exact ⟨none, hget, hz.1, hn, by rw [hd]; trivial⟩
    | some dd =>
      obtain ⟨gs, hg⟩ := hdd dd (by rw [← hz.2, hd])
      obtain ⟨mA, hns, _⟩ : ObjOk X.prog X.w H s.heap dd (.xd gs) := I.hok dd _ hg
      obtain ⟨od, ho, _⟩ := lookIn_ns hns
      exact ⟨some od, hget, hz.1, hn, by rw [hd]; exact ho⟩
  exact PySem.W.kia_one (kit_exn C) I.kIn J e (fun z => nomatch z) fun tk => ⟨.bl b, H, I.kept (t' := tk) fun _ _ z => z, rfl, q⟩
theorem de_isX {T : Cn} {X : Cx} {a : Addr} {oe : Obj} {cls : Value} {d : Option Addr} {pn : List (Addr × Obj)} {e : Expr} {t : EX} {p p2 pos : Pos} {y : Str} {C2 : Addr} {ans : Nat → Option Bool} (hz : Zc cls d oe) (hf : ∃ vs, oe.data = .fields vs)
    (hans : ∀ c b, ans c = some b → ∀ C, T.mg (T.nm c) = some (.ref C) → ExcC T.K C ∧ PySem.W.kitOne T.K (.ref C) (.ref C2) = some b) (he : DE T (X.suite a ((a, oe) :: pn)) W0 e t) (hm : X.mg "isinstance" = none) (hm2 : X.mg y = some (.ref C2)) (hK : X.K = T.K := by rfl) (hg : Gl X "isinstance" := by rfl) (hg2 : Gl X y := by rfl)
    (hdb : (y == ("__debug__" : Str)) = false := by decide) (hst : starEach (e :: [.Name y p2]) X.env = (false, eval e X.env) :: starEach [.Name y p2] X.env := by rfl) (hst2 : starEach (.Name y p2 :: []) X.env = (false, eval (.Name y p2) X.env) :: starEach [] X.env := by rfl)
    (hpl : (backTo pos (starEach [.Name y p2] X.env)).any (·.1) = false := by rfl) : DE T (X.suite a ((a, oe) :: pn)) W0 (.Call (.Name "isinstance" p) [e, .Name y p2] [] pos) (eXi T a cls d ans t) :=
  ⟨PE.imp (pe_callB (X := X.suite a ((a, oe) :: pn)) (call_isX (X := X) hf) hg hm rfl (pa_cons he.pe (pa_cons (pe_glob (X := X.suite a ((a, oe) :: pn)) hg2 hm2 (v := .ref C2) rfl hdb) pa_nil hst2) hst) (by decide) (by decide) hst hpl) fun σ H Q h => by
    obtain ⟨c0, F, ad, en, P, R, rel, q, hq, hx⟩ := h
    refine ⟨c0, F, ad, en, _, R, rel, q, fun v H1 F1 ad1 e1 r x1 p1 rel1 r1 q1 => ?_, hx⟩
    obtain ⟨dd, c, fs, b, rfl, ⟨C, hC, hcl⟩, hne, hd, hb, hP⟩ := q1
    obtain ⟨EC, hk⟩ := hans c b hb C hC
    obtain ⟨rfl, hfs⟩ := rep_exn.mp (show Rep T F1 (.exn a dd c fs) v from r1)
    rcases hfs with hnil | ⟨gs, hF, hX⟩
    · exact absurd hnil hne
    · subst hcl hd
      rw [← hK] at EC hk
      exact ⟨C, some dd, .ref C2, .ref C2, b, EC, hz, fun d2 h2 => by cases h2; exact ⟨gs, rel1.fh _ _ hF⟩, rfl, fun u hu => hu, hk, (hq.mono x1 p1).val rel1 (rep_bl.mpr rfl) hP⟩⟩

/-! ### the head's facts -/
/-- every object that the facts are about, but lists (the script may stand at none of them) -/
def frL (g : Addr → Option Obj) (as : List Addr) : PySem.W.Frag := (He.frG g as).filter fun p => match p.2.cls with
  | .type n => n != "list"
  | _ => true
theorem mem_look {α β : Type} [BEq α] [LawfulBEq α] {k : α} {v : β} : ∀ {l : List (α × β)}, l.lookup k = some v → (k, v) ∈ l
  | [], h => by simp at h
  | (a, b) :: l, h => by
    rw [List.lookup_cons] at h
    split at h
    · rename_i e
      cases h
      rw [beq_iff_eq.mp e]
      exact List.mem_cons_self
    · exact List.mem_cons_of_mem _ (mem_look h)
theorem mem_frG {g : Addr → Option Obj} {a : Addr} {o : Obj} : ∀ {as : List Addr}, (a, o) ∈ He.frG g as → g a = some o
  | [], h => by simp [He.frG] at h
  | b :: r, h => by
    unfold He.frG at h
    obtain ⟨c, _, hc⟩ := List.mem_filterMap.mp h
    cases e : g c with
    | none =>
      rw [e] at hc
      cases hc
    | some ob =>
      rw [e] at hc
      cases hc
      exact e
theorem frL_in {as : List Addr} {h : Heap} : (frL h.get? as).In h := fun a o e => by
  unfold frL at e
  exact mem_frG (as := as) (List.mem_filter.mp (mem_look e)).1
theorem frL_nol {g : Addr → Option Obj} {as : List Addr} {a : Addr} {o : Obj} (e : (frL g as).lookup a = some o) : o.cls ≠ .type "list" := fun hc => by
  unfold frL at e
  have := (List.mem_filter.mp (mem_look e)).2
  dsimp only at this
  rw [hc] at this
  exact absurd this (by decide)
abbrev Fk := PySem.W.Frag → Bool
def obsF (fa : List Fk) (fn : List He.DefD) (K : PySem.W.Frag) : He.AlD := ((fa.all fun f => f K) && fn.all fun d => d.ok K, fn.map fun d => He.fnW K d.at_)
def SaysF (fa : List Fk) (fn : List He.DefD) (K : PySem.W.Frag) : Prop := obsF fa fn K = He.valD fn
def NoL (K : PySem.W.Frag) : Prop := ∀ a o, K.lookup a = some o → o.cls ≠ .type "list"
def obsFG (n : Nat) (fa : List Fk) (fn : List He.DefD) (g : Addr → Option Obj) : He.AlD := obsF fa fn (frL g (He.asD g n))
def hookF (n : Nat) (fa : List Fk) (fn : List He.DefD) : PySem.W.Hook where
  α := He.AlD
  obs := fun s => obsFG n fa fn s.heap.get?
  val := fun _ => He.valD fn
  says := fun _ h => ∃ K : PySem.W.Frag, K.In h ∧ NoL K ∧ SaysF fa fn K
  of := fun _ _ e => ⟨_, frL_in, fun _ _ q => frL_nol q, e⟩
  keeps := fun _ _ _ ⟨K, hK, nl, c⟩ k => ⟨K, PySem.W.Frag.In.keeps hK k, nl, c⟩
theorem obsFG_eq {n : Nat} {fa : List Fk} {fn : List He.DefD} {g : Addr → Option Obj} {s : Shared} (h : ∀ a, g a = s.heap.get? a) : obsFG n fa fn g = (hookF n fa fn).obs s := by
  have e : g = s.heap.get? := funext h
  rw [e]
  rfl
section
variable {fa : List Fk} {fn : List He.DefD} {K : PySem.W.Frag}
theorem SaysF.fact (c : SaysF fa fn K) (i : Nat) {f : Fk} (h : fa[i]? = some f := by rfl) : f K = true :=
  List.all_eq_true.mp (He.ba (show ((fa.all fun f => f K) && fn.all fun d => d.ok K) = true from congrArg (fun z : He.AlD => z.1) c)).1 f (List.mem_of_getElem? h)
theorem SaysF.def_ (c : SaysF fa fn K) (i : Nat) {d : He.DefD} (h : fn[i]? = some d := by rfl) : ∃ fd, FunD K d.name d.qual d.params d.body d.scope (d.dvs K) (d.kws K) (He.fAd K d.at_) fd := by
  have c2 := (He.ba (show ((fa.all fun f => f K) && fn.all fun d => d.ok K) = true from congrArg (fun z : He.AlD => z.1) c)).2
  have e2 : (fn.map fun d => He.fnW K d.at_)[i]? = (fn.map He.DefD.val)[i]? := by rw [show fn.map (fun d => He.fnW K d.at_) = fn.map He.DefD.val from congrArg (fun z : He.AlD => z.2) c]
  rw [List.getElem?_map, List.getElem?_map, h] at e2
  exact He.DefD.funD (Option.some.inj e2) (List.all_eq_true.mp c2 d (List.mem_of_getElem? h))
end
/-- facts as tests -/
def fGlo (x : Str) : Fk := fun K => (He.Fa.glo x).ok K
def fFree (x : Str) : Fk := fun K => (He.Fa.free x).ok K
def fFa (f : He.Fa) : Fk := fun K => f.ok K
/-- an own exception class over ValueError with an own __init__ -/
def oexB (K : PySem.W.Frag) (C : Addr) : Bool := match K.lookup C with
  | some ⟨.type "type", _, .cls cd, sl⟩ => (match cd.mro, sl.toList with
    | .ref C' :: bm, [_, _, _, _, some (.builtin n), _] => C' == C && (n == "ValueError.__new__" && (!cd.hasDel && (cd.hasDict && PySem.HandSPX.refsVE bm)))
    | _, _ => false)
  | _ => false
def fOex (x : Str) : Fk := fun K => oexB K (He.ga K x) && (He.eqO (PySem.W.findIn K (.ref (He.ga K x)) "__setattr__") (some (some (.builtin "object.__setattr__"))) && (decide (PySem.W.subIn K (.ref (He.ga K x)) (.type "BaseException") = some true) &&
  (decide (PySem.W.typeIn K (.ref (He.ga K x)) = some (.type "type")) && (PySem.W.keepIn K (.ref (He.ga K x)) && (He.eqO (PySem.W.findIn K (.ref (He.ga K x)) "__init__") (some (some (.ref (He.ma K (He.ga K x) "__init__")))) &&
    decide (PySem.W.typeIn K (.ref (He.ma K (He.ga K x) "__init__")) = some (.type "function")))))))
theorem oexB_ok {K : PySem.W.Frag} {C : Addr} (h : oexB K C = true) : ∃ nm q N bs bm sn sub ab col dd k0 k1 k2 k3 k5, K.lookup C = some (excClassObj nm q C N bs bm true sn sub ab col dd k0 k1 k2 k3 k5 "ValueError.__new__") ∧ PySem.HandSPX.refsVE bm = true := by
  unfold oexB at h
  split at h
  · rename_i dd cd sl ho
    split at h
    · rename_i C' bm k0 k1 k2 k3 n k5 hm hs
      simp only [Bool.and_eq_true, beq_iff_eq, Bool.not_eq_true'] at h
      obtain ⟨h1, h2, h3, h4, h5⟩ := h
      subst h1 h2
      obtain ⟨nm, bs, mro, ns, qn, hd, sn, sub, ab, col, del⟩ := cd
      dsimp only at hm h3 h4
      subst hm h3 h4
      obtain ⟨l⟩ := sl
      dsimp only at hs
      subst hs
      exact ⟨nm, qn, ns, bs, bm, sn, sub, ab, col, dd, k0, k1, k2, k3, k5, ho, h5⟩
    · cases h
  · cases h
theorem fOex_ok {K : PySem.W.Frag} {x : Str} (h : fOex x K = true) : OexC K (He.ga K x) ∧ PySem.W.findIn K (.ref (He.ga K x)) "__init__" = some (some (.ref (He.ma K (He.ga K x) "__init__"))) ∧ PySem.W.typeIn K (.ref (He.ma K (He.ga K x) "__init__")) = some (.type "function") := by
  obtain ⟨h1, h⟩ := He.ba h
  obtain ⟨h2, h⟩ := He.ba h
  obtain ⟨h3, h⟩ := He.ba h
  obtain ⟨h4, h⟩ := He.ba h
  obtain ⟨h5, h⟩ := He.ba h
  obtain ⟨h6, h7⟩ := He.ba h
  exact ⟨⟨oexB_ok h1, He.eqO_ok h2, of_decide_eq_true h3, of_decide_eq_true h4, h5⟩, He.eqO_ok h6, of_decide_eq_true h7⟩
def fXf (x : Str) : Fk := fun K => xfB K (He.ga K x)
def fExm (x y : Str) (b : Bool) : Fk := fun K => decide (PySem.W.exmOne K (.ref (He.ga K x)) (.ref (He.ga K y)) = some b)
def fKit (x y : Str) (b : Bool) : Fk := fun K => decide (PySem.W.kitOne K (.ref (He.ga K x)) (.ref (He.ga K y)) = some b)
def fNoat (x f : Str) : Fk := fun K => He.eqO (PySem.W.findIn K (.ref (He.ga K x)) f) (some none)
def fExcC (x : Str) : Fk := fun K => He.eqO (PySem.W.findIn K (.ref (He.ga K x)) "__getattribute__") (some (some (.builtin "BaseException.__getattribute__"))) && (He.eqO (PySem.W.findIn K (.ref (He.ga K x)) "__getattr__") (some none) &&
  (decide (PySem.W.subIn K (.ref (He.ga K x)) (.type "BaseException") = some true) && (PySem.W.hasDictIn K (He.ga K x) && (He.eqO (PySem.W.findIn K (.ref (He.ga K x)) "__class__") (some (some (.builtin "object.__class__"))) &&
    (He.eqO (PySem.W.specialIn K (.builtin "object.__class__") "__get__") (some (some (.builtin "getset_descriptor.__get__"))) && (decide (PySem.W.takesIn K (.builtin "object.__class__") = some true) && decide (PySem.W.mroIn K (He.ga K x) (.type "object") = some true)))))))
theorem fExcC_ok {K : PySem.W.Frag} {x : Str} (h : fExcC x K = true) : ExcC K (He.ga K x) := by
  obtain ⟨h1, h⟩ := He.ba h
  obtain ⟨h2, h⟩ := He.ba h
  obtain ⟨h3, h⟩ := He.ba h
  obtain ⟨h4, h⟩ := He.ba h
  obtain ⟨h5, h⟩ := He.ba h
  obtain ⟨h6, h⟩ := He.ba h
  obtain ⟨h7, h8⟩ := He.ba h
  exact ⟨He.eqO_ok h1, He.eqO_ok h2, of_decide_eq_true h3, h4, He.eqO_ok h5, He.eqO_ok h6, of_decide_eq_true h7, of_decide_eq_true h8⟩

/-! ### the law's end -/
/-- True, at every script of n numbers at most -/
def fxLaw (n : Nat) : FX := fun rs ob P _ => ∃ ns : List Int, ns.length ≤ n ∧ rs = [.val (.lst (ns.map .int))] ∧ ob = [] ∧ P (.val (.bl true)) []
theorem lawG {P : Program} {w : World} {T : Cn} {mb : Str → Option Value} {k n : Nat} {fa a : Addr} {fd : FuncData} {x : Str} {s₁ : Shared} {vs : List Value} {ns : List Int} (KX : T.K.In s₁.heap) (nl : NoL T.K) (hns : s₁.heap.Ns mainGlobals T.mg) (hb : s₁.heap.Ns builtinsNs mb)
    (hbb : ∀ x : Str, x ≠ "__name__" → mb x = bootBuiltins x) (hlim : s₁.heap.NoLimit) (hg : s₁.gens = #[]) (ha : s₁.heap.get? a = some { cls := .type "list", data := .seq vs.toArray }) (hi : IntsAre vs ns) (hl : ns.length ≤ n) (hn : n ≤ sizeLine) (hr : Room k callerA)
    (F : ∀ base : Heap, T.K.In base → base.Ns mainGlobals T.mg → FnG T P w base k fa fd [x] (fxLaw n)) (hbind : ∀ (s : Shared) (u : Value), BindsTo s fd ⟨[u], []⟩ [(x, u)]) :
    codeAny (model P w) callerA (.call (.ref fa) ⟨[.ref a], []⟩) (fun r s' => r = .ok (.ret (.bool true)) ∧ PySem.OldK s₁.heap s'.heap ∧ s'.os = s₁.os ∧ AllBare s'.gens) s₁ := by
  have rv := vals_ints hi
  have hka : T.K.lookup a = none := by
    cases e : T.K.lookup a with
    | none => rfl
    | some o =>
      have := nl a o e
      have e2 := KX a o e
      rw [ha] at e2
      cases e2
      exact absurd rfl this
  -- only the script is told
  let H : Hp := fun b => if b = a then some (.frz { cls := .type "list", data := .seq vs.toArray } (.lst (ns.map V.int))) else none
  have Ha : H a = some (.frz { cls := .type "list", data := .seq vs.toArray } (.lst (ns.map V.int))) := if_pos rfl
  have Hn : ∀ {b : Addr}, b ≠ a → H b = none := fun h => if_neg h
  have only : ∀ {b : Addr} {u : HO}, H b = some u → b = a ∧ u = .frz { cls := .type "list", data := .seq vs.toArray } (.lst (ns.map V.int)) := fun {b u} h => by
    by_cases e : b = a
    · subst e
      rw [Ha] at h
      cases h
      exact ⟨rfl, rfl⟩
    · rw [Hn e] at h
      cases h
  have hok : HOk P w H s₁.heap := fun b u h => by
    obtain ⟨rfl, rfl⟩ := only h
    exact ⟨ha, by rw [List.length_map]; omega, vs, _, rv, ha⟩
  have keepB : ∀ {b : Addr} {o : Obj}, s₁.heap.get? b = some o → b ≠ a → (hidT s₁.heap H).get? b = some o := fun e n => hidT_get e (Hn n)
  have dictB : ∀ {b : Addr} {o : Obj} {es : Array DictEntry} {ep : Nat}, s₁.heap.get? b = some o → o.data = .dict es ep → b ≠ a := fun {b o es ep} e d q => by
    subst q
    rw [ha] at e
    cases e
    cases (show Data.seq vs.toArray _ = Data.dict es ep from d)
  have nsB : ∀ {b : Addr} {m : Str → Option Value}, s₁.heap.Ns b m → (hidT s₁.heap H).Ns b m := fun {b m} ⟨o, es, ep, e, d, r⟩ => ⟨o, es, ep, keepB e (dictB e d), d, r⟩
  have kinB : T.K.In (hidT s₁.heap H) := fun b o e => keepB (KX b o e) fun q => by
    subst q
    rw [hka] at e
    cases e
  have mod : Mod T.K T.mg (hidT s₁.heap H) := ⟨kinB, nsB hns, ⟨mb, nsB hb, hbb⟩, let ⟨mc, h1, h2⟩ := hlim; ⟨mc, nsB h1, h2⟩⟩
  have env : Env0 P w T.K T.mg (hidT s₁.heap H) callerA [] s₁ H := ⟨rfl, mod, fun b o e => of_hidT e, Nat.le_of_eq (hidT_size _ _), trivial, fun b q => absurd (show b ∈ ([] : List Addr) from q) (by simp), hok, .of_eq hg⟩
  have rel : Rel T ⟨H, H, []⟩ ⟨[], []⟩ [] H H [] := ⟨rfl, Ex.refl H, Ex.refl H, Ex.refl H, fun _ _ h => .inl h, rfl, List.nodup_nil, Px.refl _, fun k o p h1 _ => by simp at h1, fun i r h => by simp at h⟩
  have rep : Rep T H (.lst (ns.map .int)) (.ref a) := rep_lst.mpr ⟨a, ns.map V.int, rfl, .inr ⟨_, Ha⟩, RepL.ints⟩
  have want : spF T (fxLaw n) [.ref a] H (fun v _ => v = .bl true) (fun _ _ _ => False) :=
    ⟨_, H, [], [.val (.lst (ns.map .int))], [], fun r _ => r = .val (.bl true), fun _ _ => False, rel, ⟨_, _, rfl, rep, rfl⟩, ⟨ns, hl, rfl, rfl, rfl⟩, fun v H' F' ad' ob' r _ _ _ hr _ _ q => by
      subst q
      exact rv_bl hr, fun _ _ _ _ _ _ _ _ _ _ _ _ q => q⟩
  refine codeAny_mono ((F _ kinB (nsB hns)).run callerA [] s₁ H ⟨[.ref a], []⟩ [.ref a] [.ref a] _ _ hr rfl env (hbind s₁ (.ref a)) (.cons rfl .nil) want) fun res s' h => ?_
  match res, h with
  | .error ex, ⟨_, _, _, _, _, _, _, _, _, _, _, _, z⟩ => exact z.elim
  | .ok (.ret u), ⟨v, H', os, bare, un, hok', ru, q⟩ =>
    have q' : v = .bl true := q
    subst q'
    obtain rfl : u = Value.bool true := ru
    refine ⟨rfl, PySem.OldK.of_keep fun b o e => ?_, os, bare⟩
    by_cases hba : b = a
    · subst hba
      obtain ⟨e1, _⟩ := hok' b _ (un.frzs b _ _ Ha)
      rw [ha] at e
      cases e
      exact e1
    · exact un.keep b o e (Hn hba) (by intro z; exact absurd (show b ∈ ([] : List Addr) from z) (by simp)) (by simp)
theorem walkG {l : PySem.W.OpenLaw} {n k : Nat} {q : Program} {loose : List Str} {XP : (Str → Option Value) → Heap → Prop} {YP : World → Heap → Prop} {d : DefRec} {x : Str} (hn : l.most = some n) (hn2 : n ≤ sizeLine) (hdf : d.params.defaults = []) (hr : Room k callerA)
    (F : ∀ (w : World) (mg : Str → Option Value) (fa : Addr) (h : Heap), YP w h → h.Ns mainGlobals mg → mg d.name = some (.ref fa) →
      ∃ (K : PySem.W.Frag) (fd : FuncData) (nm : Nat → Str), K.In h ∧ NoL K ∧ (∀ (s : Shared) (u : Value), BindsTo s fd ⟨[u], []⟩ [(x, u)]) ∧ ∀ base : Heap, K.In base → base.Ns mainGlobals mg → FnG ⟨K, mg, nm⟩ l.prog w base k fa fd [x] (fxLaw n)) :
    PySem.W.WalkO q loose XP YP l.row.toRowW d [] (fun f vs => PySem.call f vs) := by
  refine Att.attach_call hn hdf fun w s₀ s₁ mg mb fa o pm cd doc a vs ns G Y ho hd hcd hmg hobj hints hlen hg => ?_
  obtain ⟨K, fd, nm, KX, nl, hb, hF⟩ := F w mg fa _ Y G.T.g hmg
  exact lawG (T := ⟨K, mg, nm⟩) KX nl G.T.g G.T.b G.T.builtins G.T.nolimit hg hobj hints hlen hn2 hr hF hb
end DL
end
section
set_option Elab.async false
set_option linter.all false
set_option autoImplicit false
set_option maxRecDepth 100000
set_option maxHeartbeats 2000000
/-! DLM: what the printed walks use: defs by name, constants by name, truth, small rules. -/
namespace DL
open PySem PySem.Spec L2
open PyProof.Rows hiding St

/-- the module's name x is a def that keeps fx, its last parameters' defaults dd -/
structure GFn (T : Cn) (P : Program) (w : World) (base : Heap) (k : Nat) (x : Str) (n : Nat) (dd : List D) (fx : FX) : Prop where
  all : ∃ (a : Addr) (fd : FuncData) (ps : List Str) (dvs : List V) (ds : List Value), T.mg x = some (.ref a) ∧ PySem.W.keepIn T.K (.ref a) = true ∧ FnG T P w base k a fd ps fx ∧ Binds T.K fd ps ds ∧ Vals dvs ds ∧ (∀ F, RepL T F dd dvs) ∧ n + dd.length = ps.length
/-- the module's name x stands for d -/
structure GC (T : Cn) (x : Str) (d : D) : Prop where
  all : ∃ u v, T.mg x = some u ∧ RelV v u ∧ ∀ F, Rep T F d v
section
variable {T : Cn} {X : Cx} {W : WX} {a : Expr} {t : EX} {pos : Pos}
theorem de_callF {k j n : Nat} {fx : FX} {dd : List D} {x : Str} {p pos : Pos} {e : Expr} {es : List Expr} {u : AX} (m : List Bool) (F : GFn T X.prog X.w X.base j x n dd fx) (hr : Room k X.A) (hgd : X.A.guards = some []) (tk : Takes X W) (ha : DA T X W (e :: es) u) (hj : j ≤ k := by decide) (hg : Gl X x := by rfl) (hK : X.K = T.K := by rfl) (hM : X.mg = T.mg := by rfl)
    (hdb : (x == ("__debug__" : Str)) = false := by decide) (he : starEach (e :: es) X.env = (false, eval e X.env) :: starEach es X.env := by rfl) (hpl : (backTo pos (starEach es X.env)).any (·.1) = false := by rfl) :
    DE T X W (.Call (.Name x p) (e :: es) [] pos) (eCall m dd fx u) := by
  obtain ⟨f, fd, ps, dvs, ds, h1, h2, h3, h4, h5, h6, _⟩ := F.all
  exact de_call m h3 (hr.mono hj) hgd tk (by rw [hM]; exact h1) (by rw [hK]; exact h2) (by rw [hK]; exact h4) h5 h6 ha hg hK hM hdb he hpl
theorem de_callF0 {k j : Nat} {fx : FX} {dd : List D} {x : Str} {p pos : Pos} (F : GFn T X.prog X.w X.base j x 0 dd fx) (hr : Room k X.A) (hgd : X.A.guards = some []) (tk : Takes X W) (hj : j ≤ k := by decide) (hg : Gl X x := by rfl) (hK : X.K = T.K := by rfl) (hM : X.mg = T.mg := by rfl)
    (hdb : (x == ("__debug__" : Str)) = false := by decide) : DE T X W (.Call (.Name x p) [] [] pos) (eCall [] dd fx aNil) := by
  obtain ⟨f, fd, ps, dvs, ds, h1, h2, h3, h4, h5, h6, _⟩ := F.all
  exact de_call0 h3 (hr.mono hj) hgd tk (by rw [hM]; exact h1) (by rw [hK]; exact h2) (by rw [hK]; exact h4) h5 h6 hg hK hM hdb
/-- a constant of the module -/
theorem de_gc {x : Str} {d : D} (G : GC T x d) (hg : Gl X x := by rfl) (hM : X.mg = T.mg := by rfl) (hdb : (x == ("__debug__" : Str)) = false := by decide) : DE T X W (.Name x pos) (eD d) := by
  obtain ⟨u, v, h1, h2, h3⟩ := G.all
  exact de_glob (by rw [hM]; exact h1) h2 h3 hg hdb
theorem de_strL {x : Str} {j : Nat} (l : List Nat) (h : x.cps.toList = l := by rfl) : DE T X W (.Constant (.str x) j pos) (eD (.str l)) := by
  subst h
  exact de_str
/-- -e -/
def eNeg (t : EX) : EX := fun e P R => t e (fun r e1 => ∃ i, dv e1 r = some (.int i) ∧ P (.val (.int (-i))) e1) R
theorem de_neg (ha : DE T X W a t) : DE T X W (.UnaryOp .USub a pos) (eNeg t) := ⟨PE.imp (pe_un un_neg ha.pe) fun σ H Q h => by
  obtain ⟨c, F, ad, e, P, R, rel, q, hq, hx⟩ := h
  refine ⟨c, F, ad, e, _, R, rel, q, fun v H1 F1 ad1 e1 r x1 p1 rel1 r1 q1 => ?_, hx⟩
  obtain ⟨i, h1, h2⟩ := q1
  obtain rfl := rep_int.mp (dv_ok rel1 r1 h1)
  exact ⟨i, rfl, (hq.mono x1 p1).val rel1 (rep_int.mpr rfl) h2⟩⟩
/-- a value's truth -/
def D.tru : D → Option Bool
  | .non => some false
  | .bl b => some b
  | .int i => some (i != 0)
  | .str s => some (!s.isEmpty)
  | .lst ds => some (!ds.isEmpty)
  | .tup ds => some (!ds.isEmpty)
  | _ => none
def D.fits : D → Prop
  | .str s => s.length ≤ sizeLine
  | _ => True
def truE (e : Env) : RV → Option Bool
  | .val d => d.tru
  | .ob k => match e.ob[k]? with
    | some (.fz d) => d.tru
    | some (.lst ds) => some (!ds.isEmpty)
    | some (.lsr ds) => some (!ds.isEmpty)
    | some (.tpr ds) => some (!ds.isEmpty)
    | _ => none
def fitE (e : Env) : RV → Prop
  | .val d => d.fits
  | .ob k => match e.ob[k]? with
    | some (.fz d) => d.fits
    | _ => True
def tTru (t : EX) : TX := fun e P R => t e (fun r e1 => ∃ b, truE e1 r = some b ∧ fitE e1 r ∧ P b e1) R
theorem isEmpty_rep {F : Hp} {ds : List D} {vs : List V} (h : RepL T F ds vs) : vs.isEmpty = ds.isEmpty := by
  cases ds with
  | nil => rw [repL_nil.mp h]; rfl
  | cons d ds => obtain ⟨v, r, rfl, _⟩ := repL_cons.mp h; rfl
theorem isEmpty_rv {F : Hp} {ad : List Addr} {ds : List RV} {vs : List V} (h : RvL T F ad ds vs) : vs.isEmpty = ds.isEmpty := by
  cases ds with
  | nil => rw [show vs = [] from h]; rfl
  | cons d ds => obtain ⟨v, r, rfl, _⟩ := h; rfl
theorem tru_rep {F H : Hp} {d : D} {v : V} {b : Bool} (x : Ex F H) (h : Rep T F d v) (q : d.tru = some b) (z : d.fits) : TruV T.K v H b := by
  cases d with
  | non =>
    cases q
    rw [rep_non.mp h]
    rfl
  | bl k =>
    cases q
    rw [rep_bl.mp h]
    rfl
  | int k =>
    cases q
    rw [rep_int.mp h]
    rfl
  | str s =>
    cases q
    rw [rep_str.mp h]
    have z' : s.length ≤ sizeLine := z
    refine ⟨by rw [S_len]; exact z', ?_⟩
    rw [S_len]
    cases s with
    | nil => rfl
    | cons c s =>
      show true = (((c :: s).length : Int) != 0)
      symm
      simp
      omega
  | lst ds =>
    cases q
    obtain ⟨a, vs, rfl, h1, h2⟩ := rep_lst.mp h
    exact .inl ⟨vs, rd_sql (x.rd h1), by rw [isEmpty_rep h2]⟩
  | tup ds =>
    cases q
    obtain ⟨a, vs, rfl, h1, h2⟩ := rep_tup.mp h
    exact .inr (.inl ⟨vs, x.sqt h1, by rw [isEmpty_rep h2]⟩)
  | _ => cases q
theorem tru_ok' {c : BF} {e : Env} {σ : L2.St} {F H : Hp} {ad : List Addr} {r : RV} {v : V} {b : Bool} (R : Rel T c e σ F H ad) (h : RvR T F ad r v) (q : truE e r = some b) (z : fitE e r) : TruV T.K v H b := by
  cases r with
  | val d => exact tru_rep R.fh h q z
  | ob k =>
    obtain ⟨p, hp, rfl⟩ := h
    obtain ⟨o, ho, oa⟩ := R.obs hp
    unfold truE at q
    unfold fitE at z
    dsimp only at q z
    rw [ho] at q z
    cases o with
    | fz d => exact tru_rep R.fh oa.2 q z
    | lst ds =>
      cases q
      obtain ⟨_, _, vs, h1, h2⟩ := oa
      exact .inl ⟨vs, .inl (.inl h1), by rw [isEmpty_rep h2]⟩
    | lsr ds =>
      cases q
      obtain ⟨_, _, vs, h1, h2⟩ := oa
      exact .inl ⟨vs, .inl (.inl h1), by rw [isEmpty_rv h2]⟩
    | tpr ds =>
      cases q
      obtain ⟨_, _, vs, h1, h2⟩ := oa
      exact .inr (.inl ⟨vs, .inl (.inl h1), by rw [isEmpty_rv h2]⟩)
    | _ => cases q
theorem dt_tru (ha : DE T X W a t) (hK : X.K = T.K := by rfl) (he : ∀ whole, isTrue a X.env whole = (do let v ← whole; standAt a.pos; holding [v] (truthy v)) := by intro _; rfl) : DT T X W a (tTru t) :=
  ⟨PT.imp (pt_truth ha.pe he) fun σ H Q h => by
    obtain ⟨c, F, ad, e, P, R, rel, q, hq, hx⟩ := h
    refine ⟨c, F, ad, e, _, R, rel, q, fun v H1 F1 ad1 e1 r x1 p1 rel1 r1 q1 => ?_, hx⟩
    obtain ⟨b, h1, h2, h3⟩ := q1
    exact ⟨b, by rw [hK]; exact tru_ok' rel1 r1 h1 h2, hq b H1 F1 ad1 e1 x1 p1 rel1 h3⟩⟩
end
/-! ### o[i] = v, o a list of data -/
def sSetIx (to ti tv : EX) : SX := fun e Po => tv e (fun v e1 => to e1 (fun o e2 => ti e2 (fun i e3 => ∃ k ds n j d, o = .ob k ∧ e3.ob[k]? = some (.lst ds) ∧ dv e3 i = some (.int n) ∧ ixN ds.length n = some j ∧ dv e3 v = some d ∧
  Po.nx { e3 with ob := e3.ob.set k (.lst (ds.set j d)) }) Po.xc) Po.xc) Po.xc
theorem ds_setIx {T : Cn} {X : Cx} {W : WX} {o i v : Expr} {to ti tv : EX} {pos pos' : Pos} (ho : DE T X W o to) (hi : DE T X W i ti) (hv : DE T X W v tv)
    (ha : ∀ v, assign (.Subscript o i pos') X.env v = (do
      let ov ← holding [v] (eval o X.env)
      let iv ← holding [v, ov] (eval i X.env)
      standAt pos'
      holding [v, ov, iv] (setItem ov iv v); release [v, ov, iv] []) := by intro _; rfl)
    (hs : swapsWithSole [.Subscript o i pos'] v pos.line X.env = pure false := by rfl) (hw : swappedStores [.Subscript o i pos'] v X.env = pure none := by rfl) (h1 : (assignEach [.Subscript o i pos'] X.env).map (·.2) = [assign (.Subscript o i pos') X.env] := by rfl) :
    DS T X W (.Assign [.Subscript o i pos'] v pos) (sSetIx to ti tv) := ⟨PS.imp (ps_asg hv.pe (pg_sub ho.pe hi.pe set_list ha) hs hw h1) fun D σ H h => by
  obtain ⟨c, F, ad, e, Po, rel, q, n, r, x, bk, ct⟩ := h
  refine ⟨c, F, ad, e, _, _, rel, q, fun y H1 F1 ad1 e1 ry x1 p1 rel1 r1 q1 => ?_, x⟩
  refine ⟨c, F1, ad1, e1, _, _, rel1, q1, fun z H2 F2 ad2 e2 rz x2 p2 rel2 r2 q2 => ?_, x.mono x1 p1⟩
  refine ⟨c, F2, ad2, e2, _, _, rel2, q2, fun w H3 F3 ad3 e3 rw x3 p3 rel3 r3 q3 => ?_, x.mono (x1.trans x2) (p1.trans p2)⟩
  obtain ⟨k, ds, m, j, d, rfl, hk, hm, hj, hd, q4⟩ := q3
  obtain ⟨p, hp, rfl⟩ := r2
  have hp3 := p3 _ _ hp
  obtain ⟨n1, n2, vs, g1, g2⟩ := rel3.ob k _ p hk hp3
  have hy := dv_ok rel3 (r1.mono (x2.trans x3) (p2.trans p3)) hd
  obtain rfl := rep_int.mp (dv_ok rel3 r3 hm)
  refine ⟨p, vs, m, j, rfl, rfl, g1, by rw [g2.len]; exact hj, ?_⟩
  have R2 := rel3.set (u := .lst (vs.set j y)) (o' := .lst (ds.set j d)) hk rfl hp3 ⟨n1, n2, _, upd_same, g2.set j hy⟩
  exact n σ _ F3 ad3 _ ((x1.trans x2).trans x3) ((p1.trans p2).trans p3) R2 q4⟩
/-! ### making them from the head's facts -/
section
variable {T : Cn} {P : Program} {w : World} {base : Heap}
/-- no defaults -/
theorem GFn.of {k : Nat} {x : Str} {name qual : Str} {params : Arguments} {body : List Stmt} {scope : Scope} {a : Addr} {fd : FuncData} {ps : List Str} {fx : FX} (F : FunD T.K name qual params body scope [] [] a fd) (hm : T.mg x = some (.ref a)) (G : FnG T P w base k a fd ps fx)
    (h : ∀ (kV doc pm : Value) (an : Option Addr) (cdv ct : Value) (us : List Value), us.length = ps.length → bindArgs (PySem.W.fnOf name qual params body scope .none kV doc pm an cdv ct) ⟨us, []⟩ = pure (ps.zip us)) : GFn T P w base k x ps.length [] fx :=
  ⟨a, fd, ps, [], [], hm, F.kp, G, F.bindsN h, .nil, fun _ => RepL.nil, by simp⟩
theorem GC.int {x : Str} {i : Int} {h : Heap} (X : T.K.In h) (G : h.Ns mainGlobals T.mg) (c : fFa (.int x i) T.K = true) : GC T x (.int i) := by
  obtain ⟨t, e⟩ := He.int_ok X G c
  exact ⟨_, .int i, e, ⟨t, rfl⟩, fun F => rep_int.mpr rfl⟩
theorem GC.str {x z : Str} {l : List Nat} {h : Heap} (X : T.K.In h) (G : h.Ns mainGlobals T.mg) (c : fFa (.str x z) T.K = true) (e : z.cps.toList = l := by rfl) : GC T x (.str l) := by
  obtain ⟨t, e2⟩ := He.str_ok X G c
  subst e
  exact ⟨_, .str z, e2, ⟨t, rfl⟩, fun F => rep_str.mpr (by rw [S_of])⟩
def fTup (x : Str) (vs : List He.Dv) : Fk := fun K => He.tupB K x vs
/-- a tuple of plain constants -/
theorem GC.tup {x : Str} {vs : List He.Dv} {ds : List D} {h : Heap} (X : T.K.In h) (G : h.Ns mainGlobals T.mg) (c0 : fGlo x T.K = true) (c : fTup x vs T.K = true) (hv : ∀ F, RepL T F ds (vs.map (He.Dv.v T.K))) : GC T x (.tup ds) :=
  ⟨_, .ref (He.ga T.K x), He.glo_ok X G c0, rfl, fun F => rep_tup.mpr ⟨_, _, rfl, He.tupB_ok c F, hv F⟩⟩
/-- an exception class -/
theorem ExcK.of {c : Nat} {fl : List Nat} {x : Str} {h : Heap} {name qual : Str} {params : Arguments} {body : List Stmt} {scope : Scope} {fd : FuncData} {ps : List Str} (X : T.K.In h) (G : h.Ns mainGlobals T.mg) (hx : T.nm c = x) (c0 : fGlo x T.K = true) (c1 : fOex x T.K = true)
    (F : FunD T.K name qual params body scope [] [] (He.ma T.K (He.ga T.K x) "__init__") fd) (O : FnOk P w T.K T.mg base (L2.CX P w) 1 (He.ma T.K (He.ga T.K x) "__init__") fd ps (spI (He.ga T.K x) (fl.map T.nm))) (nd : (fl.map T.nm).Nodup)
    (hb : ∀ (kV doc pm : Value) (an : Option Addr) (cdv ct : Value) (us : List Value), us.length = ps.length → bindArgs (PySem.W.fnOf name qual params body scope .none kV doc pm an cdv ct) ⟨us, []⟩ = pure (ps.zip us)) : ExcK T P w base c fl := by
  obtain ⟨h1, h2, h3⟩ := fOex_ok c1
  exact ⟨_, _, fd, ps, by rw [hx]; exact He.glo_ok X G c0, h1, h2, h3, O, F.bindsN hb, nd⟩
end
end DL
end
section
set_option Elab.async false
set_option linter.all false
set_option autoImplicit false
set_option maxRecDepth 100000
set_option maxHeartbeats 2000000
/-! DLN: steps: from what is wanted of a piece to what is wanted of its parts. -/
namespace DL
open PySem PySem.Spec L2
open PyProof.Rows hiding St

section
variable {e : Env} {P : RV → Env → Prop} {R : Xc → Env → Prop} {PB : Bool → Env → Prop} {PA : List RV → Env → Prop} {Po : Post} {t u w : EX} {c d : TX} {s z : SX} {a : AX} {g : GX} {f f' : OX} {i j k : Nat} {r x y : RV}
theorem i_var (h : e.sl[i]? = some (some r)) (q : P r e) : eVar i e P R := ⟨r, h, q⟩
theorem i_d {v : D} (q : P (.val v) e) : eD v e P R := q
theorem i_op2 (h : t e (fun x e1 => u e1 (fun y e2 => f e2 x y P) R) R) : op2 f t u e P R := h
theorem i_val (h : t e (fun r e1 => ∃ b, r = .val (.bl b) ∧ PB b e1) R) : tVal t e PB R := h
theorem i_isb {b : Bool} {Z : Bool → Prop} (h : Z b) : ∃ b', (RV.val (.bl b) : RV) = .val (.bl b') ∧ Z b' := ⟨b, rfl, h⟩
theorem i_tru {b : Bool} {Z : Bool → Prop} (h : truE e r = some b) (z : fitE e r) (q : Z b) : ∃ b', truE e r = some b' ∧ fitE e r ∧ Z b' := ⟨b, h, z, q⟩
theorem i_tTru (h : t e (fun r e1 => ∃ b, truE e1 r = some b ∧ fitE e1 r ∧ PB b e1) R) : tTru t e PB R := h
theorem i_and (h : c e (fun b e1 => if b = true then d e1 PB R else PB false e1) R) : tAndX c d e PB R := h
theorem i_or (h : c e (fun b e1 => if b = true then PB true e1 else d e1 PB R) R) : tOrX c d e PB R := h
theorem i_not (h : c e (fun b e1 => PB (!b) e1) R) : tNotX c e PB R := h
theorem i_yes (h : PB true e) : tYesX e PB R := h
theorem i_eand (h : t e (fun r e1 => ∃ k, r = .val (.bl k) ∧ if k = true then u e1 P R else P (.val (.bl false)) e1) R) : eAnd t u e P R := h
theorem i_eor (h : t e (fun r e1 => ∃ k, r = .val (.bl k) ∧ if k = true then P (.val (.bl true)) e1 else u e1 P R) R) : eOr t u e P R := h
theorem i_enot (h : t e (fun r e1 => ∃ k, r = .val (.bl k) ∧ P (.val (.bl (!k))) e1) R) : eNot t e P R := h
theorem i_eif (h : c e (fun b e1 => if b = true then t e1 P R else u e1 P R) R) : eIf c t u e P R := h
theorem i_neg (h : t e (fun r e1 => ∃ i, dv e1 r = some (.int i) ∧ P (.val (.int (-i))) e1) R) : eNeg t e P R := h
theorem i_neg1 {i : Int} {Z : Int → Prop} (h : dv e r = some (.int i)) (q : Z i) : ∃ i', dv e r = some (.int i') ∧ Z i' := ⟨i, h, q⟩
theorem i_chain (h : t e (fun x e1 => u e1 (fun y e2 => f e2 x y fun z e3 => ∃ k, z = .val (.bl k) ∧ if k = true then w e3 (fun w e4 => f' e4 y w P) R else P (.val (.bl false)) e3) R) R) : eChain f f' t u w e P R := h
theorem i_if1 {A B : Prop} (h : A) : if true = true then A else B := by simpa using h
theorem i_if0 {A B : Prop} (h : B) : if false = true then A else B := by simpa using h
/-! arguments -/
theorem i_nil (h : PA [] e) : aNil e PA R := h
theorem i_cons (h : t e (fun r e1 => a e1 (fun rs e2 => PA (r :: rs) e2) R) R) : aCons t a e PA R := h
theorem i_eB {b : BX} (h : a e (fun rs e1 => b e1 rs P) R) : eB b a e P R := h
theorem i_eM {ty : Env → RV → Prop} {m : MX} (h : t e (fun r e1 => ty e1 r ∧ a e1 (fun rs e2 => m e2 r rs P) R) R) : eM ty m t a e P R := h
theorem i_eLst (h : a e (fun rs e1 => rs.length ≤ sizeLine ∧ P (.ob e1.ob.length) { e1 with ob := e1.ob ++ [match allD e1 rs with | some ds => .lst ds | none => .lsr rs] }) R) : eLst a e P R := h
theorem i_lstD {rs : List RV} {ds : List D} {Z : OD → Prop} (hl : rs.length ≤ sizeLine) (hd : allD e rs = some ds) (h : Z (.lst ds)) : rs.length ≤ sizeLine ∧ Z (match allD e rs with | some ds => .lst ds | none => .lsr rs) := ⟨hl, by rw [hd]; exact h⟩
theorem i_call {m : List Bool} {dd : List D} {fx : FX} (h : a e (fun rs e1 => cal m dd fx rs e1 P R) R) : eCall m dd fx a e P R := h
/-! statements -/
theorem i_seq (h : s e { Po with nx := fun e1 => z e1 Po }) : sSeq s z e Po := h
theorem i_next (h : Po.nx e) : sNext e Po := h
theorem i_brk (h : Po.bk e) : sBreak e Po := h
theorem i_cont (h : Po.ct e) : sCont e Po := h
theorem i_drop (h : t e (fun _ e1 => Po.nx e1) Po.xc) : sDrop t e Po := h
theorem i_ret (h : t e (fun r e1 => Po.rt r e1) Po.xc) : sRet t e Po := h
theorem i_retN (h : Po.rt (.val .non) e) : sRetN e Po := h
theorem i_sIf (h : c e (fun b e1 => if b = true then s e1 Po else z e1 Po) Po.xc) : sIf c s z e Po := h
theorem i_asg (h : t e (fun r e1 => g r e1 Po.nx) Po.xc) : sAsg t g e Po := h
theorem i_gNm {Z : Env → Prop} (h : Z { e with sl := e.sl.set i (some r) }) : gNm i r e Z := h
theorem i_gTp {Z : Env → Prop} {n : Nat} {gs : GXs} {rs : List RV} (h1 : tpI e r = some rs) (h2 : rs.length = n) (h : gs rs e Z) : gTp n gs r e Z := ⟨rs, h1, h2, h⟩
theorem i_gsNil {Z : Env → Prop} (h : Z e) : gsNil [] e Z := ⟨rfl, h⟩
theorem i_gsCons {Z : Env → Prop} {gs : GXs} {rs : List RV} (h : g r e fun e1 => gs rs e1 Z) : gsCons g gs (r :: rs) e Z := ⟨r, rs, rfl, h⟩
theorem i_aug (h : e.sl[i]? = some (some r)) (q : t e (fun y e1 => f e1 r y fun z e2 => Po.nx { e2 with sl := e2.sl.set i (some z) }) Po.xc) : sAug i t f e Po := ⟨r, h, q⟩
theorem i_par (h : a e (fun rs e1 => ∃ x y, rs = [x, y] ∧ Po.nx { e1 with sl := (e1.sl.set i (some x)).set j (some y) }) Po.xc) : sPar i j a e Po := h
theorem i_par2 {Z : RV → RV → Prop} (h : Z x y) : ∃ x' y', ([x, y] : List RV) = [x', y'] ∧ Z x' y' := ⟨x, y, rfl, h⟩
theorem i_par3 (h : a e (fun rs e1 => ∃ x y v, rs = [x, y, v] ∧ Po.nx { e1 with sl := ((e1.sl.set i (some x)).set j (some y)).set k (some v) }) Po.xc) : sPar3 i j k a e Po := h
theorem i_par33 {Z : RV → RV → RV → Prop} (h : Z x y r) : ∃ x' y' r', ([x, y, r] : List RV) = [x', y', r'] ∧ Z x' y' r' := ⟨x, y, r, rfl, h⟩
theorem i_for {ti : IX} (h : ti e (fun all G e1 => forX g s G Po all e1) Po.xc) : sFor ti g s e Po := h
theorem i_setIx (h : w e (fun v e1 => t e1 (fun o e2 => u e2 (fun i e3 => ∃ k ds n j d, o = .ob k ∧ e3.ob[k]? = some (.lst ds) ∧ dv e3 i = some (.int n) ∧ ixN ds.length n = some j ∧ dv e3 v = some d ∧
  Po.nx { e3 with ob := e3.ob.set k (.lst (ds.set j d)) }) Po.xc) Po.xc) Po.xc) : sSetIx t u w e Po := h
theorem i_setIx1 {ds : List D} {n : Int} {v : D} (hk : e.ob[k]? = some (.lst ds)) (hn : dv e x = some (.int n)) (hj : ixN ds.length n = some j) (hv : dv e y = some v) {Z : Nat → List D → Nat → D → Prop} (h : Z k ds j v) :
    ∃ k' ds' n' j' d', (RV.ob k : RV) = .ob k' ∧ e.ob[k']? = some (.lst ds') ∧ dv e x = some (.int n') ∧ ixN ds'.length n' = some j' ∧ dv e y = some d' ∧ Z k' ds' j' d' := ⟨k, ds, n, j, v, rfl, hk, hn, hj, hv, h⟩
theorem i_raise {cn : Nat} {fl : List Nat} (h : a e (fun rs e1 => rs.length ≤ 900 ∧ ∃ ds ob', frz (allFrz rs) e1.ob rs = some (ds.map .val, ob') ∧ ds.length = fl.length ∧ Po.xc ⟨cn, fl.zip ds⟩ ⟨e1.sl, ob'⟩) Po.xc) : sRaise cn fl a e Po := h
/-! walks -/
theorem i_iSeq {Q : List RV → (Env → Prop) → Env → Prop} (h : t e (fun r e1 => ∃ all G, seqI e1 r = some (all, G) ∧ Q all G e1) R) : iSeq t e Q R := h
theorem i_seqI {Z : List RV → (Env → Prop) → Prop} {all : List RV} {G : Env → Prop} (h : seqI e r = some (all, G)) (q : Z all G) : ∃ all' G', seqI e r = some (all', G') ∧ Z all' G' := ⟨all, G, h, q⟩
theorem i_iR1 {Q : List RV → (Env → Prop) → Env → Prop} (h : a e (fun rs e1 => ∃ j : Int, rs = [.val (.int j)] ∧ -(2 ^ 62) ≤ j ∧ j < 2 ^ 62 ∧ Q ((List.range j.toNat).map fun i : Nat => .val (.int i)) (fun _ => True) e1) R) : iR1 a e Q R := h
theorem i_rng1 {Z : Int → Prop} {n : Int} (h1 : -(2 ^ 62) ≤ n) (h2 : n < 2 ^ 62) (h : Z n) : ∃ j : Int, ([.val (.int n)] : List RV) = [.val (.int j)] ∧ -(2 ^ 62) ≤ j ∧ j < 2 ^ 62 ∧ Z j := ⟨n, rfl, h1, h2, h⟩
theorem i_iEn {Q : List RV → (Env → Prop) → Env → Prop} (h : a e (fun rs e1 => ∃ r, rs = [r] ∧ ((∃ ds, lsD e1 r = some ds ∧ Q (numd ds) (fun e' => lsD e' r = some ds) e1) ∨ (∃ z, dv e1 r = some (.str z) ∧ Q (numd (z.map fun c => .str [c])) (fun _ => True) e1))) R) : iEn a e Q R := h
theorem i_enS {A : RV → List D → Prop} {B : RV → List Nat → Prop} {z : List Nat} (h1 : dv e r = some (.str z)) (h : B r z) :
    ∃ r', ([r] : List RV) = [r'] ∧ ((∃ ds, lsD e r' = some ds ∧ A r' ds) ∨ (∃ z, dv e r' = some (.str z) ∧ B r' z)) := ⟨r, rfl, .inr ⟨z, h1, h⟩⟩
theorem i_enL {A : RV → List D → Prop} {B : RV → List Nat → Prop} {z : List D} (h1 : lsD e r = some z) (h : A r z) :
    ∃ r', ([r] : List RV) = [r'] ∧ ((∃ ds, lsD e r' = some ds ∧ A r' ds) ∨ (∃ z, dv e r' = some (.str z) ∧ B r' z)) := ⟨r, rfl, .inl ⟨z, h1, h⟩⟩
/-! operations -/
theorem i_ix2 {C : Int → Int → Prop} {h : Int → Int → D} {m n : Int} (hx : dv e x = some (.int m)) (hy : dv e y = some (.int n)) (hc : C m n) {Z : RV → Env → Prop} (q : Z (.val (h m n)) e) : ix2 C h e x y Z := ⟨m, n, hx, hy, hc, q⟩
theorem i_sub {m n : Int} {Z : RV → Env → Prop} (hx : dv e x = some (.int m)) (hy : dv e y = some (.int n)) (q : Z (.val (.int (m - n))) e) : subX e x y Z := ⟨m, n, hx, hy, trivial, q⟩
theorem i_lt {m n : Int} {Z : RV → Env → Prop} (hx : dv e x = some (.int m)) (hy : dv e y = some (.int n)) (q : Z (.val (.bl (decide (m < n)))) e) : iltX e x y Z := ⟨m, n, hx, hy, trivial, q⟩
theorem i_le {m n : Int} {Z : RV → Env → Prop} (hx : dv e x = some (.int m)) (hy : dv e y = some (.int n)) (q : Z (.val (.bl (decide (m ≤ n)))) e) : ileX e x y Z := ⟨m, n, hx, hy, trivial, q⟩
theorem i_gt {m n : Int} {Z : RV → Env → Prop} (hx : dv e x = some (.int m)) (hy : dv e y = some (.int n)) (q : Z (.val (.bl (decide (n < m)))) e) : igtX e x y Z := ⟨m, n, hx, hy, trivial, q⟩
theorem i_ge {m n : Int} {Z : RV → Env → Prop} (hx : dv e x = some (.int m)) (hy : dv e y = some (.int n)) (q : Z (.val (.bl (decide (n ≤ m)))) e) : igeX e x y Z := ⟨m, n, hx, hy, trivial, q⟩
theorem i_mod {m n : Int} {Z : RV → Env → Prop} (hx : dv e x = some (.int m)) (hy : dv e y = some (.int n)) (hc : 0 < n) (q : Z (.val (.int (m % n))) e) : modX e x y Z := ⟨m, n, hx, hy, hc, q⟩
theorem i_fdiv {m n : Int} {Z : RV → Env → Prop} (hx : dv e x = some (.int m)) (hy : dv e y = some (.int n)) (h0 : 0 < n) (h1 : n < 1073741824) (q : Z (.val (.int (m / n))) e) : fdivX e x y Z := ⟨m, n, hx, hy, ⟨h0, h1⟩, q⟩
theorem i_pow {m n : Int} {Z : RV → Env → Prop} (hx : dv e x = some (.int m)) (hy : dv e y = some (.int n)) (hc : CPow m n) (q : Z (.val (.int (m ^ n.toNat))) e) : powX e x y Z := ⟨m, n, hx, hy, hc, q⟩
theorem i_imul {m n : Int} {Z : RV → Env → Prop} (hx : dv e x = some (.int m)) (hy : dv e y = some (.int n)) (hc : CMul m n) (q : Z (.val (.int (m * n))) e) : imulX e x y Z := ⟨m, n, hx, hy, hc, q⟩
theorem i_addI {m n : Int} {Z : RV → Env → Prop} (hx : dv e x = some (.int m)) (hy : dv e y = some (.int n)) (q : Z (.val (.int (m + n))) e) : addX e x y Z := .inl ⟨m, n, hx, hy, q⟩
theorem i_augI {h : Int → Int → D} {m n : Int} {Z : RV → Env → Prop} (hx : dv e x = some (.int m)) (hy : dv e y = some (.int n)) (q : Z (.val (h m n)) e) : ix2 (fun _ _ => True) h e x y Z := ⟨m, n, hx, hy, trivial, q⟩
end
end DL
end
section
set_option Elab.async false
set_option linter.all false
set_option autoImplicit false
set_option maxRecDepth 100000
set_option maxHeartbeats 2000000
/-! DLO: more steps: texts, lists, calls, ends, comprehensions. -/
namespace DL
open PySem PySem.Spec L2
open PyProof.Rows hiding St

section
variable {e : Env} {P : RV → Env → Prop} {R : Xc → Env → Prop} {Z : RV → Env → Prop} {r x y : RV} {i k : Nat}
@[simp] theorem dv_val' (e : Env) (d : D) : dv e (.val d) = some d := rfl
theorem i_addS {m n : List Nat} (hx : dv e x = some (.str m)) (hy : dv e y = some (.str n)) (hz : m.length + n.length ≤ sizeLine) (q : Z (.val (.str (m ++ n))) e) : addX e x y Z := .inr (.inl ⟨m, n, hx, hy, hz, q⟩)
theorem i_addL {m n : List D} (hx : lsD e x = some m) (hy : lsD e y = some n) (hz : m.length + n.length ≤ sizeLine) (q : Z (.ob e.ob.length) { e with ob := e.ob ++ [.lst (m ++ n)] }) : addX e x y Z := .inr (.inr (.inl ⟨m, n, hx, hy, hz, q⟩))
theorem i_ixL {ds : List D} {n : Int} {d : D} (hx : sqD e x = some ds) (hy : dv e y = some (.int n)) (hd : atI ds n = some d) (q : Z (.val d) e) : ixX e x y Z := .inl ⟨ds, n, d, hx, hy, hd, q⟩
theorem i_ixS {s : List Nat} {n : Int} {c : Nat} (hx : dv e x = some (.str s)) (hy : dv e y = some (.int n)) (hz : s.length ≤ sizeLine) (hd : atI s n = some c) (q : Z (.val (.str [c])) e) : ixX e x y Z := .inr ⟨s, n, c, hx, hy, hz, hd, q⟩
theorem i_eq {a b : D} (hx : rd e x = some a) (hy : rd e y = some b) (la : Lay 60 a) (lb : Lay 60 b) (q : Z (.val (.bl (eqv a b))) e) : eqX false e x y Z := .inl ⟨a, b, hx, hy, la, lb, q⟩
theorem i_ne {a b : D} (hx : rd e x = some a) (hy : rd e y = some b) (la : Lay 60 a) (lb : Lay 60 b) (q : Z (.val (.bl (!eqv a b))) e) : eqX true e x y Z := .inl ⟨a, b, hx, hy, la, lb, q⟩
theorem i_eqS {a b : List Nat} (hx : dv e x = some (.str a)) (hy : dv e y = some (.str b)) (q : Z (.val (.bl (decide (a = b)))) e) : eqX false e x y Z := .inr ⟨a, b, hx, hy, q⟩
theorem i_neS {a b : List Nat} (hx : dv e x = some (.str a)) (hy : dv e y = some (.str b)) (q : Z (.val (.bl (!decide (a = b)))) e) : eqX true e x y Z := .inr ⟨a, b, hx, hy, q⟩
theorem i_inC {c : Nat} {z : List Nat} (hx : dv e x = some (.str [c])) (hy : dv e y = some (.str z)) (q : Z (.val (.bl (decide (c ∈ z)))) e) : inX false e x y Z := .inl ⟨c, z, hx, hy, q⟩
theorem i_ninC {c : Nat} {z : List Nat} (hx : dv e x = some (.str [c])) (hy : dv e y = some (.str z)) (q : Z (.val (.bl (!decide (c ∈ z)))) e) : inX true e x y Z := .inl ⟨c, z, hx, hy, q⟩
theorem i_inL {a d : D} {js : List D} (hx : rd e x = some a) (hy : rd e y = some d) (hi : items d = some js) (la : Lay 59 a) (lb : ∀ j ∈ js, Lay 59 j) (q : Z (.val (.bl (js.any fun z => eqv z a))) e) : inX false e x y Z := .inr ⟨a, d, js, hx, hy, hi, la, lb, q⟩
theorem i_ninL {a d : D} {js : List D} (hx : rd e x = some a) (hy : rd e y = some d) (hi : items d = some js) (la : Lay 59 a) (lb : ∀ j ∈ js, Lay 59 j) (q : Z (.val (.bl (!js.any fun z => eqv z a))) e) : inX true e x y Z := .inr ⟨a, d, js, hx, hy, hi, la, lb, q⟩
theorem i_isN {t : EX} (h : t e (fun r e1 => ∃ d, dv e1 r = some d ∧ P (.val (.bl d.isN)) e1) R) : isNX false t e P R := h
theorem i_notN {t : EX} (h : t e (fun r e1 => ∃ d, dv e1 r = some d ∧ P (.val (.bl (!d.isN))) e1) R) : isNX true t e P R := h
theorem i_isi {t : EX} {n : String} (h : t e (fun r e1 => ∃ m b, tyOf e1 r = some m ∧ kitB m n = some b ∧ P (.val (.bl b)) e1) R) : isiX n t e P R := h
/-! equality of texts and numbers -/
theorem beq_S (a b : List Nat) : (S a == S b) = decide (a = b) := by
  rw [Bool.eq_iff_iff]
  simp only [beq_iff_eq, decide_eq_true_eq]
  exact ⟨S_inj, fun h => by rw [h]⟩
@[simp] theorem eqv_ss (a b : List Nat) : eqv (.str a) (.str b) = decide (a = b) := by
  unfold eqv
  rw [D.py, D.py, PyData.eqv, beq_S]
@[simp] theorem eqv_ii (a b : Int) : eqv (.int a) (.int b) = decide (a = b) := by
  unfold eqv
  rw [D.py, D.py, PyData.eqv]
  rw [Bool.eq_iff_iff]
  simp
theorem pyL_nil : pyL [] = [] := by rw [pyL]
theorem pyL_cons (d : D) (ds : List D) : pyL (d :: ds) = d.py :: pyL ds := by rw [pyL]
@[simp] theorem eqv_nl (ds : List D) : eqv (.lst ds) (.lst []) = ds.isEmpty := by
  unfold eqv
  rw [D.py, D.py, PyData.eqv, pyL_nil]
  cases ds with
  | nil => rw [pyL_nil, PyData.eqvAll]; rfl
  | cons d ds => rw [pyL_cons, PyData.eqvAll]; rfl
theorem eqvAll_strs : ∀ (a b : List (List Nat)), PyData.eqvAll (pyL (a.map D.str)) (pyL (b.map D.str)) = decide (a = b)
  | [], [] => by rw [List.map_nil, pyL_nil, PyData.eqvAll]; rfl
  | [], s :: b => by rw [List.map_nil, List.map_cons, pyL_nil, pyL_cons, PyData.eqvAll]; rfl
  | s :: a, [] => by rw [List.map_nil, List.map_cons, pyL_nil, pyL_cons, PyData.eqvAll]; rfl
  | s :: a, z :: b => by
    rw [List.map_cons, List.map_cons, pyL_cons, pyL_cons, PyData.eqvAll, eqvAll_strs a b, D.py, D.py, PyData.eqv, beq_S]
    rw [Bool.eq_iff_iff]
    simp
@[simp] theorem eqv_strs (a b : List (List Nat)) : eqv (.lst (a.map .str)) (.lst (b.map .str)) = decide (a = b) := by
  unfold eqv
  rw [D.py, D.py, PyData.eqv, eqvAll_strs]
/-- signs that are ones -/
def Cps (s : List Nat) : Prop := ∀ c ∈ s, c < 1114112
theorem lay_str {n : Nat} {s : List Nat} (h : Cps s) : Lay n (.str s) := by
  cases n <;> (unfold Lay; exact h)
theorem lay_int {n : Nat} (i : Int) : Lay n (.int i) := by
  cases n <;> (unfold Lay; trivial)
theorem lay_bl {n : Nat} (i : Bool) : Lay n (.bl i) := by
  cases n <;> (unfold Lay; trivial)
theorem lay_non {n : Nat} : Lay n .non := by
  cases n <;> (unfold Lay; trivial)
theorem lay_strs {n : Nat} {ss : List (List Nat)} (h : ∀ s ∈ ss, Cps s) : Lay (n + 1) (.lst (ss.map .str)) := by
  refine lay_lst fun j hj => ?_
  obtain ⟨s, hs, rfl⟩ := List.mem_map.mp hj
  exact lay_str (h s hs)
theorem cps_small {s : List Nat} (h : s.all (· < 1114112) = true) : Cps s := fun c hc => by
  have := List.all_eq_true.mp h c hc
  simpa using this
theorem cps_app {a b : List Nat} (ha : Cps a) (hb : Cps b) : Cps (a ++ b) := fun c hc => (List.mem_append.mp hc).elim (ha c) (hb c)
/-! a text among texts -/
theorem any_strs (l : List (List Nat)) (s : List Nat) : ((l.map D.str).any fun z => eqv z (.str s)) = decide (s ∈ l) := by
  induction l with
  | nil => rfl
  | cons a l ih =>
    rw [List.map_cons, List.any_cons, ih, eqv_ss]
    by_cases h : s = a
    · subst h
      simp
    · have h' : ¬ a = s := fun e => h e.symm
      simp [h, h']
theorem lay_map {n : Nat} {l : List (List Nat)} (h : ∀ s ∈ l, Cps s) : ∀ j ∈ l.map D.str, Lay n j := fun j hj => by
  obtain ⟨s, hs, rfl⟩ := List.mem_map.mp hj
  exact lay_str (h s hs)
theorem cps_all {l : List (List Nat)} (h : l.all (fun s => s.all (· < 1114112)) = true) : ∀ s ∈ l, Cps s := fun s hs => cps_small (List.all_eq_true.mp h s hs)
theorem i_inT {s : List Nat} (l : List (List Nat)) (hx : rd e x = some (.str s)) (hy : rd e y = some (.tup (l.map .str))) (hs : Cps s) (hl : ∀ z ∈ l, Cps z) (q : Z (.val (.bl (decide (s ∈ l)))) e) : inX false e x y Z :=
  i_inL hx hy rfl (lay_str hs) (lay_map hl) (by rw [any_strs]; exact q)
theorem i_ninT {s : List Nat} (l : List (List Nat)) (hx : rd e x = some (.str s)) (hy : rd e y = some (.tup (l.map .str))) (hs : Cps s) (hl : ∀ z ∈ l, Cps z) (q : Z (.val (.bl (!decide (s ∈ l)))) e) : inX true e x y Z :=
  i_ninL hx hy rfl (lay_str hs) (lay_map hl) (by rw [any_strs]; exact q)
theorem i_inLs {s : List Nat} (l : List (List Nat)) (hx : rd e x = some (.str s)) (hy : rd e y = some (.lst (l.map .str))) (hs : Cps s) (hl : ∀ z ∈ l, Cps z) (q : Z (.val (.bl (decide (s ∈ l)))) e) : inX false e x y Z :=
  i_inL hx hy rfl (lay_str hs) (lay_map hl) (by rw [any_strs]; exact q)
theorem i_ninLs {s : List Nat} (l : List (List Nat)) (hx : rd e x = some (.str s)) (hy : rd e y = some (.lst (l.map .str))) (hs : Cps s) (hl : ∀ z ∈ l, Cps z) (q : Z (.val (.bl (!decide (s ∈ l)))) e) : inX true e x y Z :=
  i_ninL hx hy rfl (lay_str hs) (lay_map hl) (by rw [any_strs]; exact q)
/-! places -/
theorem atI_nat {α : Type} {xs : List α} {n : Nat} {v : α} (h : xs[n]? = some v) : atI xs (n : Int) = some v := by
  have hn : n < xs.length := (List.getElem?_eq_some_iff.mp h).1
  unfold atI ixN
  rw [if_pos (by omega), if_pos (by omega)]
  simpa using h
theorem atI_zero {α : Type} {v : α} {xs : List α} : atI (v :: xs) 0 = some v := atI_nat (n := 0) rfl
theorem atI_last {α : Type} {v : α} {xs : List α} : atI (xs ++ [v]) (-1) = some v := by
  unfold atI ixN
  rw [if_neg (by omega), if_pos (by rw [List.length_append]; simp; omega)]
  have : ((-1 : Int) + ((xs ++ [v]).length : Int)).toNat = xs.length := by
    rw [List.length_append]
    simp
    omega
  rw [this]
  simp
theorem cut_nat {α : Type} (xs : List α) (a b : Nat) (hb : b ≤ xs.length) (hab : a ≤ b) : cut xs (some (a : Int)) (some (b : Int)) = (xs.drop a).take (b - a) := by
  unfold cut
  rw [HT.sIx_nat, HT.sIx_nat, Nat.min_eq_left hb, Nat.min_eq_left (Nat.le_trans hab hb)]
theorem cut_to {α : Type} (xs : List α) (b : Nat) : cut xs none (some (b : Int)) = xs.take b := by
  unfold cut
  rw [HT.sIx_none, HT.sIx_nat, List.drop_zero, Nat.sub_zero]
  by_cases h : b ≤ xs.length
  · rw [Nat.min_eq_left h]
  · rw [Nat.min_eq_right (by omega), List.take_length, List.take_of_length_le (by omega)]
theorem cut_from {α : Type} (xs : List α) (a : Nat) : cut xs (some (a : Int)) none = xs.drop a := by
  unfold cut
  rw [HT.sIx_none, HT.sIx_nat]
  by_cases h : a ≤ xs.length
  · rw [Nat.min_eq_left h]
    exact List.take_of_length_le (by rw [List.length_drop]; exact Nat.le_refl _)
  · rw [Nat.min_eq_right (by omega), List.drop_length, List.drop_of_length_le (by omega), List.take_nil]
theorem i_eSl {t : EX} {tl th : PX} (h : t e (fun x e1 => tl e1 (fun lo e2 => th e2 (fun hi e3 => slX e3 x lo hi P) R) R) R) : eSl t tl th e P R := h
theorem i_pNone {Q : Option Int → Env → Prop} (h : Q none e) : pNone e Q R := h
theorem i_pSome {Q : Option Int → Env → Prop} {t : EX} (h : t e (fun r e1 => ∃ i, dv e1 r = some (.int i) ∧ Q (some i) e1) R) : pSome t e Q R := h
theorem i_int1 {Q : Int → Prop} {n : Int} (h : dv e x = some (.int n)) (q : Q n) : ∃ i, dv e x = some (.int i) ∧ Q i := ⟨n, h, q⟩
theorem i_d1 {Q : D → Prop} {d : D} (h : dv e x = some d) (q : Q d) : ∃ i, dv e x = some i ∧ Q i := ⟨d, h, q⟩
theorem i_slS {s : List Nat} {lo hi : Option Int} (hx : dv e x = some (.str s)) (hz : s.length ≤ sizeLine) (q : Z (.val (.str (cut s lo hi))) e) : slX e x lo hi Z := .inr (.inr ⟨s, hx, hz, q⟩)
theorem i_slL {ds : List D} {lo hi : Option Int} (hx : lsD e x = some ds) (q : Z (.ob e.ob.length) { e with ob := e.ob ++ [.lst (cut ds lo hi)] }) : slX e x lo hi Z := .inl ⟨ds, hx, q⟩
/-! built-ins -/
theorem i_lenS {s : List Nat} (hx : dv e x = some (.str s)) (hz : s.length ≤ sizeLine) (q : Z (.val (.int s.length)) e) : lenX e [x] Z := ⟨x, rfl, .inl ⟨s, hx, hz, q⟩⟩
theorem i_lenL {ds : List D} (hx : sqD e x = some ds) (q : Z (.val (.int ds.length)) e) : lenX e [x] Z := ⟨x, rfl, .inr ⟨ds, hx, q⟩⟩
theorem i_intI {n : Int} (hx : dv e x = some (.int n)) (q : Z (.val (.int n)) e) : intX e [x] Z := ⟨x, rfl, .inl ⟨n, hx, q⟩⟩
theorem i_intS {s : List Nat} {n : Int} (hx : dv e x = some (.str s)) (hn : intText? (S s) = some n) (hz : s.length ≤ 640) (q : Z (.val (.int n)) e) : intX e [x] Z := ⟨x, rfl, .inr (.inr ⟨s, n, hx, hn, hz, q⟩)⟩
theorem i_abs {n : Int} (hx : dv e x = some (.int n)) (q : Z (.val (.int (if n < 0 then -n else n))) e) : absX e [x] Z := ⟨x, n, rfl, hx, q⟩
theorem i_sum {ns : List Int} (hx : lsD e x = some (ns.map D.int)) (q : Z (.val (.int ns.sum)) e) : sumX e [x] Z := ⟨x, ns, rfl, hx, q⟩
theorem i_str {n : Int} (hx : dv e x = some (.int n)) (hz : n.natAbs.log2 < 1920) (q : Z (.val (.str (toString n : Str).cps.toList)) e) : strX e [x] Z := ⟨x, n, rfl, hx, hz, q⟩
theorem i_list {ds : List D} (hx : sqD e x = some ds) (q : Z (.ob e.ob.length) { e with ob := e.ob ++ [.lst ds] }) : listX e [x] Z := ⟨x, ds, rfl, hx, q⟩
theorem i_repr {d : D} (hx : rd e x = some d) (l : Lay 60 d) (hs : shows d = true) (hz : (PyData.shown d.py).length ≤ sizeLine) (q : Z (.val (.str (reprL d))) e) : reprX e [x] Z := ⟨x, d, rfl, hx, l, hs, hz, q⟩
theorem i_join {a : List Nat} {ds : List D} {ss : List (List Nat)} (hx : dv e x = some (.str a)) (hy : sqD e y = some ds) (hs : strsD ds = some ss) (hz : (ss.map List.length).sum + ss.length * a.length ≤ 16777216) (q : Z (.val (.str (joinL a ss))) e) : joinX e x [y] Z :=
  ⟨a, y, ds, ss, hx, rfl, hy, hs, hz, q⟩
theorem i_mxS {g : List Nat → Option D} {s : List Nat} {d : D} (hx : dv e x = some (.str s)) (hz : s.length ≤ 5592405) (hg : g s = some d) (q : Z (.val d) e) : mxS g e x [] Z := ⟨s, d, hx, rfl, hz, hg, q⟩
theorem i_stripC {a b : List Nat} (hx : dv e x = some (.str a)) (hy : dv e y = some (.str b)) (hz : a.length ≤ 5592405) (q : Z (.val (.str (Txt.stripChars (S a) (S b)).cps.toList)) e) : stripCX e x [y] Z := ⟨a, y, b, hx, rfl, hy, hz, q⟩
theorem i_app {ds : List D} {d : D} (hk : e.ob[k]? = some (.lst ds)) (hd : dv e y = some d) (hz : ds.length < sizeLine) (q : Z (.val .non) { e with ob := e.ob.set k (.lst (ds ++ [d])) }) : appX e (.ob k) [y] Z := ⟨k, y, rfl, rfl, .inl ⟨ds, d, hk, hd, hz, q⟩⟩
theorem i_tyS {s : List Nat} {A : Prop} (hx : dv e x = some (.str s)) (q : A) : tyStr e x ∧ A := ⟨⟨s, hx⟩, q⟩
theorem i_tyL {ds : List D} {A : Prop} (hk : e.ob[k]? = some (.lst ds)) (q : A) : tyLs e (.ob k) ∧ A := ⟨⟨k, rfl, .inl ⟨ds, hk⟩⟩, q⟩
theorem cmul_l {i j : Int} (h1 : -18446744073709551616 < i) (h2 : i < 18446744073709551616) : CMul i j := .inl ⟨by simpa using h1, by simpa using h2⟩
theorem cmul_r {i j : Int} (h1 : -18446744073709551616 < j) (h2 : j < 18446744073709551616) : CMul i j := .inr ⟨by simpa using h1, by simpa using h2⟩
theorem cpow {i j : Int} (h1 : 0 ≤ j) (h2 : j ≤ 1000000) (h3 : -18446744073709551616 < i) (h4 : i < 18446744073709551616) : CPow i j := ⟨h1, h2, by omega⟩
/-! branches -/
theorem i_iteD {p : Prop} [Decidable p] {A B : Prop} (h1 : p → A) (h0 : ¬p → B) : if decide p = true then A else B := by
  by_cases h : p
  · rw [decide_eq_true h, if_pos rfl]
    exact h1 h
  · rw [decide_eq_false h, if_neg Bool.false_ne_true]
    exact h0 h
theorem i_iteN {p : Prop} [Decidable p] {A B : Prop} (h1 : ¬p → A) (h0 : p → B) : if (!decide p) = true then A else B := by
  by_cases h : p
  · rw [decide_eq_true h]
    exact h0 h
  · rw [decide_eq_false h]
    exact h1 h
theorem i_ifT {b : Bool} {A B : Prop} (h : b = true) (q : A) : if b = true then A else B := by rw [if_pos h]; exact q
theorem i_ifF {b : Bool} {A B : Prop} (h : b = false) (q : B) : if b = true then A else B := by rw [h, if_neg Bool.false_ne_true]; exact q
theorem i_rt0 {P : RV → List OD → Prop} {R : Xc → List OD → Prop} {n : Nat} {r : RV} (h : fin n P r e) : (endP n P R).rt r e := h
theorem i_nx0 {P : RV → List OD → Prop} {R : Xc → List OD → Prop} {n : Nat} (h : fin n P (.val .non) e) : (endP n P R).nx e := h
theorem i_xc0 {P : RV → List OD → Prop} {R : Xc → List OD → Prop} {n : Nat} {x : Xc} (h : finX n R x e) : (endP n P R).xc x e := h
theorem i_isi1 {n : String} {m : String} {b : Bool} {Z : Bool → Prop} (h1 : tyOf e r = some m) (h2 : kitB m n = some b) (q : Z b) : ∃ m' b', tyOf e r = some m' ∧ kitB m' n = some b' ∧ Z b' := ⟨m, b, h1, h2, q⟩
theorem i_iteB {b : Bool} {A B : Prop} (h1 : b = true → A) (h0 : b = false → B) : if b = true then A else B := by
  cases b with
  | true => exact h1 rfl
  | false => exact h0 rfl
theorem i_iteNB {b : Bool} {A B : Prop} (h1 : b = false → A) (h0 : b = true → B) : if (!b) = true then A else B := by
  cases b with
  | true => exact h0 rfl
  | false => exact h1 rfl
/-! displays -/
theorem i_eTup {a : AX} (h : a e (fun rs e1 => rs.length ≤ sizeLine ∧ match allD e1 rs with
  | some ds => P (.val (.tup ds)) e1
  | none => P (.ob e1.ob.length) { e1 with ob := e1.ob ++ [.tpr rs] }) R) : eTup a e P R := h
theorem i_tupD {rs : List RV} {ds : List D} {A : Prop} (hl : rs.length ≤ sizeLine) (hd : allD e rs = some ds) (h : P (.val (.tup ds)) e) : rs.length ≤ sizeLine ∧ match allD e rs with
  | some ds => P (.val (.tup ds)) e
  | none => A := ⟨hl, by rw [hd]; exact h⟩
theorem i_lst {rs : List RV} {ds : List D} (hd : allD e rs = some ds) (hl : rs.length ≤ sizeLine) (h : P (.ob e.ob.length) { e with ob := e.ob ++ [.lst ds] }) :
    rs.length ≤ sizeLine ∧ P (.ob e.ob.length) { e with ob := e.ob ++ [match allD e rs with | some ds => .lst ds | none => .lsr rs] } := ⟨hl, by rw [hd]; exact h⟩
theorem allD_v (e : Env) (d : D) (rs : List RV) : allD e (.val d :: rs) = (match allD e rs with
  | some ds => some (d :: ds)
  | none => none) := rfl
theorem i_lst0 {Z : OD → Prop} (h : Z (.lst [])) : ([] : List RV).length ≤ sizeLine ∧ Z (.lst []) := ⟨Nat.zero_le _, h⟩
theorem small_line {n : Nat} (h : n ≤ 1000) : n ≤ sizeLine := by
  rw [sizeLine_eq]
  omega
/-! calls -/
theorem fz_nil {m : List Bool} {ob : List OD} : frz m ob [] = some ([], ob) := by rw [frz]
theorem fz_v {b : Bool} {m : List Bool} {ob ob' : List OD} {d : D} {rs qs : List RV} (h : frz m ob rs = some (qs, ob')) : frz (b :: m) ob (.val d :: rs) = some (.val d :: qs, ob') := by
  cases b with
  | true => rw [frz, fzR_val]; dsimp only; rw [h]
  | false => rw [frz, h]
theorem fz_l {m : List Bool} {ob ob' : List OD} {k : Nat} {ds : List D} {rs qs : List RV} (hk : ob[k]? = some (.lst ds)) (h : frz m (ob.set k (.fz (.lst ds))) rs = some (qs, ob')) : frz (true :: m) ob (.ob k :: rs) = some (.val (.lst ds) :: qs, ob') := by
  have e1 : fzR 9 ob (.ob k) = some (.lst ds, ob.set k (.fz (.lst ds))) := by rw [fzR, hk]
  rw [frz, e1]
  dsimp only
  rw [h]
theorem fz_f {m : List Bool} {ob ob' : List OD} {k : Nat} {d : D} {rs qs : List RV} (hk : ob[k]? = some (.fz d)) (h : frz m ob rs = some (qs, ob')) : frz (true :: m) ob (.ob k :: rs) = some (.val d :: qs, ob') := by
  have e1 : fzR 9 ob (.ob k) = some (d, ob) := by rw [fzR, hk]
  rw [frz, e1]
  dsimp only
  rw [h]
theorem fz_k {m : List Bool} {ob ob' : List OD} {k : Nat} {rs qs : List RV} (h : frz m ob rs = some (qs, ob')) : frz (false :: m) ob (.ob k :: rs) = some (.ob k :: qs, ob') := by
  rw [frz, h]
def isV : RV → Bool
  | .val _ => true
  | .ob _ => false
theorem isV_ren {g : Nat → Nat} : ∀ {rs : List RV}, rs.all isV = true → rs.map (RV.ren g) = rs ∧ rs.all (RV.below 0) = true
  | [], _ => ⟨rfl, rfl⟩
  | .val d :: rs, h => by
    obtain ⟨h1, h2⟩ := isV_ren (g := g) (rs := rs) (by simpa [isV] using h)
    refine ⟨by rw [List.map_cons, h1]; rfl, ?_⟩
    rw [List.all_cons, h2]
    rfl
  | .ob k :: rs, h => by simp [isV] at h
theorem below_all {n : Nat} : ∀ {rs : List RV}, rs.all (RV.below 0) = true → rs.all (RV.below n) = true
  | [], _ => rfl
  | r :: rs, h => by
    have h' : r.below 0 = true ∧ rs.all (RV.below 0) = true := by simpa using h
    rw [List.all_cons, below_all h'.2]
    cases r with
    | val d => rfl
    | ob k => simp [RV.below] at h'
/-- only data is passed -/
theorem c_v {m : List Bool} {dd : List D} {fx : FX} {rs rs1 : List RV} {ob1 : List OD} (hf : frz m e.ob rs = some (rs1, ob1)) (hv : rs1.all isV = true)
    (h : fx (rs1 ++ dd.map .val) [] (fun r ob' => P (r.ren (out [] ob1.length)) ⟨e.sl, ob1 ++ ob'.map (OD.ren (out [] ob1.length))⟩) (fun x ob' => R x ⟨e.sl, ob1 ++ ob'.map (OD.ren (out [] ob1.length))⟩)) : cal m dd fx rs e P R := by
  obtain ⟨h1, h2⟩ := isV_ren (g := out [] ob1.length) hv
  refine ⟨rs1, ob1, [], [], rs1, hf, ⟨rfl, List.nodup_nil, fun j o h => by simp at h, h2, h1.symm⟩, ?_⟩
  simpa using h
/-- one object is passed, ahead of data -/
theorem c_o {m : List Bool} {dd : List D} {fx : FX} {rs rs1 : List RV} {ob1 : List OD} {o : OD} (hf : frz m e.ob rs = some (.ob k :: rs1, ob1)) (hv : rs1.all isV = true) (hk : ob1[k]? = some o) (ho : ∀ g, o.ren g = o) (hb : o.below 1 = true)
    (h : fx (.ob 0 :: (rs1 ++ dd.map .val)) [o] (fun r ob' => P (r.ren (out [k] ob1.length)) ⟨e.sl, back [k] ob1 ob'⟩) (fun x ob' => R x ⟨e.sl, back [k] ob1 ob'⟩)) : cal m dd fx rs e P R := by
  obtain ⟨h1, h2⟩ := isV_ren (g := out [k] ob1.length) hv
  refine ⟨.ob k :: rs1, ob1, [k], [o], .ob 0 :: rs1, hf, ⟨rfl, by simp, fun j o' hj => ?_, ?_, ?_⟩, h⟩
  · cases j with
    | zero =>
      cases hj
      exact ⟨hb, k, rfl, by rw [ho]; exact hk⟩
    | succ j => simp at hj
  · rw [List.all_cons, below_all h2]
    rfl
  · rw [List.map_cons, h1]
    rfl
/-! ends -/
theorem fin_v {n : Nat} {PP : RV → List OD → Prop} {d : D} {ob' : List OD} (h : fzR 9 e.ob r = some (d, ob')) (hl : flatN n ob') (q : PP (.val d) (ob'.take n)) : fin n PP r e := .inl ⟨d, ob', h, hl, q⟩
theorem fin_d {PP : RV → List OD → Prop} {d : D} (q : PP (.val d) []) : fin 0 PP (.val d) e := .inl ⟨d, e.ob, fzR_val 9 _ d, fun o ho => by simp at ho, by simpa using q⟩
theorem fin_d1 {PP : RV → List OD → Prop} {d : D} {o : OD} {l : List OD} (hb : o.below 1 = true) (q : PP (.val d) [o]) {sl : List (Option RV)} : fin 1 PP (.val d) ⟨sl, o :: l⟩ := .inl ⟨d, o :: l, fzR_val 9 _ d, fun o' ho => by
  have : o' = o := by simpa using ho
  rw [this]
  exact hb, by simpa using q⟩
theorem fin_l {PP : RV → List OD → Prop} {ds : List D} (hk : e.ob[k]? = some (.lst ds)) (q : PP (.val (.lst ds)) []) : fin 0 PP (.ob k) e := .inl ⟨.lst ds, e.ob.set k (.fz (.lst ds)), by rw [fzR, hk], fun o ho => by simp at ho, by simpa using q⟩
theorem fin_n {PP : RV → List OD → Prop} {ds : List D} (hk : e.ob[k]? = some (.lst ds)) (q : PP (.ob 0) [.lst ds]) : fin 0 PP (.ob k) e := .inr (.inl ⟨k, .lst ds, rfl, Nat.zero_le _, hk, rfl, rfl, fun o ho => by simp at ho, by simpa using q⟩)
theorem finX_0 {RR : Xc → List OD → Prop} {xx : Xc} (q : RR xx []) : finX 0 RR xx e := ⟨fun o ho => by simp at ho, by simpa using q⟩
/-! comprehensions -/
theorem i_eLc {t : IX} {g : GX} {tt : TX} {te : EX} {vs : List Nat} (h : t e (fun all G e1 => ∃ o0, (o0 = OD.lst [] ∨ o0 = OD.lsr []) ∧ compX vs g tt te G e1.sl e1.ob.length (fun ob => P (.ob e1.ob.length) ⟨e1.sl, ob⟩) all (e1.ob ++ [o0])) R) : eLc t g tt te vs e P R := h
theorem i_lcD {A : OD → Prop} (h : A (.lst [])) : ∃ o0, (o0 = OD.lst [] ∨ o0 = OD.lsr []) ∧ A o0 := ⟨_, .inl rfl, h⟩
theorem i_cNil {g : GX} {tt : TX} {te : EX} {vs : List Nat} {G : Env → Prop} {sl : List (Option RV)} {Q : List OD → Prop} {ob : List OD} (hG : G ⟨sl, ob⟩) (h : Q ob) : compX vs g tt te G sl k Q [] ob := ⟨hG, h⟩
theorem i_cCons {g : GX} {tt : TX} {te : EX} {vs : List Nat} {G : Env → Prop} {sl : List (Option RV)} {Q : List OD → Prop} {ob : List OD} {rs : List RV} (hG : G ⟨sl, ob⟩) (h : g r ⟨wipeE sl vs, ob⟩ fun e2 => tt e2 (fun b e3 => if b = true then te e3 (fun y e4 => putL k e4.ob y (compX vs g tt te G sl k Q rs)) (fun _ _ => False) else compX vs g tt te G sl k Q rs e3.ob) (fun _ _ => False)) :
    compX vs g tt te G sl k Q (r :: rs) ob := ⟨hG, h⟩
theorem i_putD {ob : List OD} {Q : List OD → Prop} {ds : List D} {d : D} (hk : ob[k]? = some (.lst ds)) (hd : dv ⟨[], ob⟩ y = some d) (hz : ds.length < sizeLine) (q : Q (ob.set k (.lst (ds ++ [d])))) : putL k ob y Q := .inl ⟨ds, d, hk, hd, hz, q⟩
theorem i_fNil {g : GX} {s : SX} {G : Env → Prop} {Po : Post} (hG : G e) (h : Po.nx e) : forX g s G Po [] e := ⟨hG, h⟩
theorem i_fCons {g : GX} {s : SX} {G : Env → Prop} {Po : Post} {rs : List RV} (hG : G e) (h : g r e fun e1 => s e1 { nx := forX g s G Po rs, rt := Po.rt, xc := Po.xc, bk := Po.nx, ct := forX g s G Po rs }) : forX g s G Po (r :: rs) e := ⟨hG, h⟩
theorem i_while {c : TX} {s : SX} {Po : Post} (n : Nat) (h : whileX c s Po n e) : sWhile c s e Po := ⟨n, h⟩
theorem i_wStep {c : TX} {s : SX} {Po : Post} {n : Nat} (h : c e (fun k e1 => if k = true then s e1 { nx := whileX c s Po n, rt := Po.rt, xc := Po.xc, bk := Po.nx, ct := whileX c s Po n } else Po.nx e1) Po.xc) : whileX c s Po (n + 1) e := h
end
end DL
end
section
set_option Elab.async false
set_option linter.all false
set_option autoImplicit false
set_option maxRecDepth 100000
set_option maxHeartbeats 2000000
/-! DLP: pools of draws, comprehensions that draw. -/
namespace DL
open PySem PySem.Spec L2
open PyProof.Rows hiding St

/-- a pool: what is drawn is anything; b: how often it was drawn from, at most -/
def Pl (b : Nat) (ds : List D) : Prop := ∃ g s n : Int, ds = [.int g, .int s, .int n] ∧ 0 ≤ g ∧ 0 ≤ s ∧ s < 17000000000000000000 ∧ 0 ≤ n ∧ n ≤ b
theorem Pl.mono {b c : Nat} {ds : List D} (h : Pl b ds) (l : b ≤ c) : Pl c ds := by
  obtain ⟨g, s, n, h0, h1, h2, h3, h4, h5⟩ := h
  exact ⟨g, s, n, h0, h1, h2, h3, h4, by omega⟩
/-- a draw: a number below m -/
def fx_pick : FX := fun rs ob P _ => ∃ b ds m, rs = [.ob 0, .val (.int m)] ∧ ob = [.lst ds] ∧ Pl b ds ∧ b < 1000000 ∧ 0 < m ∧ m < 1000000 ∧ ∀ r ds', 0 ≤ r → r < m → Pl (b + 1) ds' → P (.val (.int r)) [.lst ds']
theorem pick_ok {sl : List (Option RV)} {ob : List OD} {k b : Nat} {ds : List D} {m : Int} {P : RV → Env → Prop} {R : Xc → Env → Prop} (h0 : ob[k]? = some (.lst ds)) (hp : Pl b ds) (hb : b < 1000000) (hm : 0 < m) (hm2 : m < 1000000)
    (q : ∀ (r : Nat) ds', (r : Int) < m → Pl (b + 1) ds' → P (.val (.int (r : Nat))) ⟨sl, ob.set k (.lst ds')⟩) : cal [false, true] [] fx_pick [.ob k, .val (.int m)] ⟨sl, ob⟩ P R := by
  refine c_o (fz_k (fz_v fz_nil)) rfl h0 (fun _ => rfl) rfl ⟨b, ds, m, rfl, rfl, hp, hb, hm, hm2, fun r ds' h1 h2 hp' => ?_⟩
  dsimp only
  rw [back_one]
  obtain ⟨n, rfl⟩ := Int.eq_ofNat_of_zero_le h1
  exact q n ds' h2 hp'
/-- a def that draws n times at most from the pool, its first argument -/
def fxDraw (n : Nat) (good : RV → Prop) : FX := fun rs ob P _ => ∃ b ds, rs = [.ob 0] ∧ ob = [.lst ds] ∧ Pl b ds ∧ b + n < 1000000 ∧ ∀ d ds', good (.val d) → Pl (b + n) ds' → P (.val d) [.lst ds']
theorem draw_ok {sl : List (Option RV)} {ob : List OD} {k b n : Nat} {good : RV → Prop} {ds : List D} {P : RV → Env → Prop} {R : Xc → Env → Prop} (h0 : ob[k]? = some (.lst ds)) (hp : Pl b ds) (hb : b + n < 1000000)
    (q : ∀ d ds', good (.val d) → Pl (b + n) ds' → P (.val d) ⟨sl, ob.set k (.lst ds')⟩) : cal [false] [] (fxDraw n good) [.ob k] ⟨sl, ob⟩ P R := by
  refine c_o (fz_k fz_nil) rfl h0 (fun _ => rfl) rfl ⟨b, ds, rfl, rfl, hp, hb, fun d ds' h1 hp' => ?_⟩
  dsimp only
  rw [back_one]
  exact q d ds' h1 hp'
/-- te draws n times at most and gives good data; the pool is the state's object 0 -/
def DrawsTo (te : EX) (sl : List (Option RV)) (n : Nat) (good : D → Prop) : Prop := ∀ (b : Nat) (ds : List D) (ob : List OD) (P : RV → Env → Prop) (R : Xc → Env → Prop), ob[0]? = some (.lst ds) → Pl b ds → b + n < 1000000 →
  (∀ ds' d, Pl (b + n) ds' → good d → P (.val d) ⟨sl, ob.set 0 (.lst ds')⟩) → te ⟨sl, ob⟩ P R
theorem comp_draw {te : EX} {sl : List (Option RV)} {vs : List Nat} {i k n : Nat} {good : D → Prop} {Z : List OD → Prop} (hd : ∀ r, DrawsTo te ((wipeE sl vs).set i (some r)) n good) (hk0 : k ≠ 0) : ∀ (l : List RV) (b : Nat) (ds acc : List D) (ob : List OD),
    ob[0]? = some (.lst ds) → ob[k]? = some (.lst acc) → Pl b ds → b + n * l.length < 1000000 → acc.length + l.length ≤ 100000 →
    (∀ ds' acc', Pl (b + n * l.length) ds' → acc'.length = acc.length + l.length → (∀ d ∈ acc', d ∈ acc ∨ good d) → Z ((ob.set 0 (.lst ds')).set k (.lst acc'))) → compX vs (gNm i) tYesX te (fun _ => True) sl k Z l ob
  | [], b, ds, acc, ob, h0, hk, hp, hb, hz, q => by
    refine i_cNil trivial ?_
    have := q ds acc (hp.mono (by omega)) rfl fun d hd => .inl hd
    have e1 : ob.set 0 (.lst ds) = ob := by
      apply List.ext_getElem?
      intro j
      by_cases hj : 0 = j
      · subst hj
        rw [List.getElem?_set_self (List.getElem?_eq_some_iff.mp h0).1, h0]
      · rw [List.getElem?_set_ne hj]
    have e2 : ob.set k (.lst acc) = ob := by
      apply List.ext_getElem?
      intro j
      by_cases hj : k = j
      · subst hj
        rw [List.getElem?_set_self (List.getElem?_eq_some_iff.mp hk).1, hk]
      · rw [List.getElem?_set_ne hj]
    rw [e1, e2] at this
    exact this
  | r :: l, b, ds, acc, ob, h0, hk, hp, hb, hz, q => by
    rw [List.length_cons, Nat.mul_add] at hb
    rw [List.length_cons] at hz
    refine i_cCons trivial (i_gNm (i_yes (i_if1 (hd r b ds ob _ _ h0 hp (by omega) fun ds1 d hp1 hg => ?_))))
    have hl0 := (List.getElem?_eq_some_iff.mp h0).1
    have hlk := (List.getElem?_eq_some_iff.mp hk).1
    refine i_putD (ds := acc) (d := d) (by rw [List.getElem?_set_ne (Ne.symm hk0)]; exact hk) rfl (by rw [sizeLine_eq]; omega) ?_
    refine comp_draw hd hk0 l (b + n) ds1 (acc ++ [d]) _ ?_ ?_ hp1 (by omega) (by rw [List.length_append]; simp; omega) fun ds' acc' g1 g2 g3 => ?_
    · rw [List.getElem?_set_ne hk0, List.getElem?_set_self hl0]
    · rw [List.getElem?_set_self (by rw [List.length_set]; exact hlk)]
    · have e : ((((ob.set 0 (.lst ds1)).set k (.lst (acc ++ [d]))).set 0 (.lst ds')).set k (.lst acc')) = (ob.set 0 (.lst ds')).set k (.lst acc') := by
        rw [List.set_comm _ _ hk0, List.set_set, List.set_set]
      rw [e]
      refine q ds' acc' (g1.mono (by rw [List.length_cons, Nat.mul_add]; omega)) (by rw [g2, List.length_append, List.length_cons]; simp; omega) fun z hz => ?_
      rcases g3 z hz with h | h
      · rcases List.mem_append.mp h with h | h
        · exact .inl h
        · have : z = d := by simpa using h
          rw [this]
          exact .inr hg
      · exact .inr h
end DL
end
section
set_option Elab.async false
set_option linter.all false
set_option autoImplicit false
set_option maxRecDepth 100000
set_option maxHeartbeats 2000000
/-! DLQ: texts as lists: join, numerals, stripping. -/
namespace DL
open PySem PySem.Spec L2 PySem.NumText
open PyProof.Rows hiding St

/-- texts with a in between -/
def jn (a : List Nat) : List (List Nat) → List Nat
  | [] => []
  | [x] => x
  | x :: y :: r => x ++ a ++ jn a (y :: r)
theorem join_S (a : List Nat) : ∀ ss : List (List Nat), Str.join (S a) (ss.map S) = S (jn a ss)
  | [] => rfl
  | [x] => rfl
  | x :: y :: r => by
    have ih := join_S a (y :: r)
    rw [List.map_cons, List.map_cons, Str.join, jn, ← S_app, ← S_app, ← ih, List.map_cons]
    intro h
    cases h
theorem joinL_eq (a : List Nat) (ss : List (List Nat)) : joinL a ss = jn a ss := by
  unfold joinL Txt.join
  rw [StrLaws.glued_eq_join, join_S, S_list]
theorem jn_nil : ∀ ss : List (List Nat), jn [] ss = ss.flatten
  | [] => rfl
  | [x] => by simp [jn]
  | x :: y :: r => by rw [jn, jn_nil (y :: r)]; simp
theorem join_signs (s : List Nat) : joinL [] (s.map fun c => [c]) = s := by
  rw [joinL_eq, jn_nil]
  induction s with
  | nil => rfl
  | cons c s ih => rw [List.map_cons, List.flatten_cons, ih]; rfl
theorem digitsVal_lt : ∀ (cs : List Nat) (acc : Nat), AllDigits cs → cs.foldl (fun acc c => acc * 10 + (c - 48)) acc < (acc + 1) * 10 ^ cs.length
  | [], acc, _ => by simp
  | c :: cs, acc, h => by
    rw [List.foldl_cons, List.length_cons]
    have ih := digitsVal_lt cs (acc * 10 + (c - 48)) h.tail
    have hc := h.head
    refine Nat.lt_of_lt_of_le ih ?_
    rw [Nat.pow_succ, Nat.mul_comm (10 ^ cs.length) 10, ← Nat.mul_assoc]
    exact Nat.mul_le_mul_right _ (by omega)
/-- str(int(s)) of a numeral -/
theorem num_text {s : List Nat} (h : AllDigits s) (h1 : s ≠ []) (h2 : s.length ≤ 500) : intText? (S s) = some ((digitsVal s : Nat) : Int) ∧ ((digitsVal s : Nat) : Int).natAbs.log2 < 1920 ∧
    (PySem.Str.ofString (toString ((digitsVal s : Nat) : Int))).cps.toList = (match s.dropWhile (· == 48) with
      | [] => [48]
      | c :: r => c :: r) := by
  refine ⟨intText_digits (x := S s) h h1 (by rw [S_len]; omega), ?_, ?_⟩
  · have hlt := digitsVal_lt s 0 h
    have h10 : digitsVal s < 10 ^ 500 := by
      refine Nat.lt_of_lt_of_le hlt ?_
      rw [Nat.zero_add, Nat.one_mul]
      exact Nat.pow_le_pow_right (by decide) h2
    have e : ((digitsVal s : Nat) : Int).natAbs = digitsVal s := rfl
    rw [e]
    by_cases h0 : digitsVal s = 0
    · rw [h0]
      decide
    · refine (Nat.log2_lt h0).mpr (Nat.lt_of_lt_of_le h10 ?_)
      decide +kernel
  · rw [PySem.W.KIN.signs_num, toDigits_all s h]
    have hd : AllDigits (s.dropWhile (· == 48)) := fun c hc => h c ((List.dropWhile_sublist _).subset hc)
    cases e : s.dropWhile (· == 48) with
    | nil => rfl
    | cons c r =>
      rw [e] at hd
      have g : ∀ l : List Nat, AllDigits l → (l.map Char.ofNat).map Char.toNat = l := by
        intro l
        induction l with
        | nil => intro _; rfl
        | cons z l ih =>
          intro hz
          rw [List.map_cons, List.map_cons, ih hz.tail]
          have hz1 := hz.head
          have : ∀ z : Nat, z ≤ 57 → (Char.ofNat z).toNat = z := by decide
          rw [this z hz1.2]
      exact g (c :: r) hd
theorem strip_sub (x y : List Nat) : ∀ c ∈ (Txt.stripChars (S x) (S y)).cps.toList, c ∈ x := fun c hc => by
  unfold Txt.stripChars Txt.stripBy at hc
  split at hc
  · exact hc
  · unfold stripped Builtin.Str.strSub at hc
    have hc' : c ∈ ((S x).cps.extract _ _).toList := hc
    rw [Array.toList_extract] at hc'
    exact List.mem_of_mem_drop (List.mem_of_mem_take hc')
theorem strip_len (x y : List Nat) : (Txt.stripChars (S x) (S y)).cps.toList.length ≤ x.length := by
  unfold Txt.stripChars Txt.stripBy
  split
  · exact Nat.le_refl _
  · unfold stripped Builtin.Str.strSub
    show ((S x).cps.extract _ _).toList.length ≤ _
    rw [Array.toList_extract, List.extract_eq_drop_take]
    exact List.Sublist.length_le ((List.take_sublist _ _).trans (List.drop_sublist _ x))
/-! how long repr's text is -/
theorem shownAll_strs : ∀ ts : List (List Nat), PyData.shownAll (pyL (ts.map D.str)) = ts.map fun s => reprText (S s)
  | [] => by rw [List.map_nil, pyL_nil, PyData.shownAll]; rfl
  | s :: ts => by rw [List.map_cons, pyL_cons, PyData.shownAll, shownAll_strs ts, D.py, PyData.shown]; rfl
theorem shown_strs {ts : List (List Nat)} (h : ∀ s ∈ ts, Cps s) : (PyData.shown (D.lst (ts.map .str)).py).length ≤ 2 + 10 * (ts.map List.length).sum + 4 * ts.length := by
  rw [D.py, PyData.shown, shownAll_strs]
  unfold listText
  have h1 := textFrom_len_le (ts.map fun s => reprText (S s)) 0 "["
  have e1 : (("[" : Str)).length = 1 := by decide
  have e2 : (textFrom 0 "[" (ts.map fun s => reprText (S s)) ++ ("]" : Str)).length = (textFrom 0 "[" (ts.map fun s => reprText (S s))).length + 1 := by
    show (_ ++ _ : Array Nat).size = _
    rw [Array.size_append]
    rfl
  rw [e2]
  rw [e1, List.length_map] at h1
  have h2 : ((ts.map fun s => reprText (S s)).map (·.length)).sum ≤ 10 * (ts.map List.length).sum + 2 * ts.length := by
    clear h1 e2
    induction ts with
    | nil => simp
    | cons s ts ih =>
      have ih' := ih fun z hz => h z (List.mem_cons_of_mem _ hz)
      have hs := StrLaws.reprText_len (S s) fun c hc => Nat.lt_trans (h s List.mem_cons_self c hc) (by decide)
      rw [S_len] at hs
      simp only [List.map_cons, List.sum_cons, List.length_cons]
      simp only [List.map_map] at ih' ⊢
      omega
  omega
theorem shows_strs (ts : List (List Nat)) : shows (.lst (ts.map .str)) = true := by
  unfold shows
  rw [D.py, PyData.showable]
  induction ts with
  | nil => rw [List.map_nil, pyL_nil, PyData.showableAll]
  | cons s ts ih => rw [List.map_cons, pyL_cons, PyData.showableAll, D.py, PyData.showable, ih]; rfl
theorem shows_nat {n : Nat} (h : n < 2 ^ 64) : shows (.int (n : Nat)) = true := by
  unfold shows
  rw [D.py, PyData.showable, decide_eq_true]
  have e : ((n : Nat) : Int).natAbs = n := rfl
  rw [e]
  by_cases h0 : n = 0
  · rw [h0]; decide
  · exact Nat.lt_trans ((Nat.log2_lt h0).mpr h) (by decide)
end DL
end
section
set_option Elab.async false
set_option linter.all false
set_option autoImplicit false
set_option maxRecDepth 100000
set_option maxHeartbeats 2000000
/-! DLR: what an expression gives, as data; its own objects are let go. -/
namespace DL
open PySem PySem.Spec L2
open PyProof.Rows hiding St

def flatB (n : Nat) (ob : List OD) : Bool := (ob.take n).all (OD.below n)
theorem flatB_ok {n : Nat} {ob : List OD} (h : flatB n ob = true) : flatN n ob := fun o ho => List.all_eq_true.mp h o ho
/-- the value changes no more; the objects that were made on the way are let go -/
def eFz (t : EX) : EX := fun e P R => t e (fun r e1 => e1.sl = e.sl ∧ ∃ d ob', fzR 9 e1.ob r = some (d, ob') ∧ flatB e.ob.length ob' = true ∧ P (.val d) ⟨e.sl, ob'.take e.ob.length⟩) R
section
variable {T : Cn} {X : Cx} {W : WX} {a : Expr} {t : EX}
theorem Rel.back {c : BF} {sl : List (Option RV)} {ob ob0 : List OD} {σ : L2.St} {F F0 H H0 : Hp} {ad ad0 : List Addr} (R0 : Rel T c ⟨sl, ob0⟩ σ F0 H0 ad0) (R : Rel T c ⟨sl, ob⟩ σ F H ad) (x : Ex F0 F) (px : Px ad0 ad) (hl : flatN ad0.length ob) : Rel T c ⟨sl, ob.take ad0.length⟩ σ F H ad0 := by
  have R1 := R.first R0.pre px hl
  refine ⟨R.len, R1.fh, R1.f0, R1.bh, R1.fr, R1.adl, R1.adn, R1.pre, R1.ob, fun i r h => ?_⟩
  obtain ⟨v, hv, hr⟩ := R0.sl i r h
  exact ⟨v, hv, hr.mono x (Px.refl _)⟩
theorem le_fz {σ : L2.St} {H : Hp} {Q : VK} (hh : LE T W (eFz t) σ H Q) : LE T W t σ H Q := by
  obtain ⟨c, F, ad, e, P, R, rel, q, hq, hx⟩ := hh
  refine ⟨c, F, ad, e, _, R, rel, q, fun v H1 F1 ad1 e1 r x1 p1 rel1 r1 q1 => ?_, hx⟩
  obtain ⟨hsl, d, ob', h1, h2, h3⟩ := q1
  obtain ⟨sl1, ob1⟩ := e1
  obtain ⟨sl, ob⟩ := e
  obtain rfl : sl1 = sl := hsl
  obtain ⟨F2, x2, rel2, g2⟩ := fzR_ok 9 rel1 h1
  have hal : ad.length = ob.length := rel.adl
  have h2' : flatN ad.length ob' := by rw [hal]; exact flatB_ok h2
  have rel3 := Rel.back rel rel2 (x1.trans x2) p1 h2'
  rw [hal] at rel3
  exact hq v H1 F2 ad _ (.val d) (x1.trans x2) (Px.refl _) rel3 (g2 v r1) h3
theorem de_fz (h : DE T X W a t) : DE T X W a (eFz t) := ⟨PE.imp h.pe fun σ H Q hh => le_fz hh⟩
theorem ds_setLcV {vs : List Nat} (i : Nat) {y : Str} {py : Pos} {elt tg iter : Expr} {ifs : List Expr} {scope : Scope} {own : List (Str × Nat)} {pos spos : Pos} {ti : IX} {g : GX} {tt : TX} {te : EX} (hc : X.calm = true) (hN : X.N.Nodup) (hi : DI T X W tg iter ti) (ok : BlkOk X.N X.env.scope scope own)
    (hsw : swapsWith (.ListComp elt [⟨tg, iter, ifs, 0⟩] scope pos) (some (.Name y py)) spos.line X.env = pure true) (hv : own.map (·.2) = vs := by rfl) (hy : X.N[i]? = some y := by rfl) (hyl : X.env.scope.names.lookup y = some .local := by rfl)
    (hg : ∀ (s : Shared) (H : Hp) (C : Addr) (cl : List (Str × Addr)) (fp : List Addr), DGw T (X.blk s H scope (compEnvC scope cl C X.env) fp) vs tg g) (ht : ∀ (s : Shared) (H : Hp) (C : Addr) (cl : List (Str × Addr)) (fp : List Addr), DTs T (X.blk s H scope (compEnvC scope cl C X.env) fp) W0 ifs tt)
    (he : ∀ (s : Shared) (H : Hp) (C : Addr) (cl : List (Str × Addr)) (fp : List Addr), DE T (X.blk s H scope (compEnvC scope cl C X.env) fp) W0 elt te) (hs : ∀ x, foldedSetIterable iter X.env x = pure x := by intro _; rfl) :
    DS T X W (.Assign [.Name y py] (.ListComp elt [⟨tg, iter, ifs, 0⟩] scope pos) spos) (sAsg (eFz (eLc ti g tt te vs)) (gNm i)) := by
  subst hv
  exact ⟨PS.imp (ps_setLc hc hN hy hyl hsw hi.pi ok (fun s H C cl fp => (hg s H C cl fp).pg) (fun s H C cl fp => (ht s H C cl fp).pts) (fun s H C cl fp => (he s H C cl fp).pe) hs) fun D σ H h => by
    obtain ⟨c, F, ad, e, Po, rel, q, n, r, x, bk, ct⟩ := h
    exact le_lc (le_fz ⟨c, F, ad, e, _, _, rel, q, fun v H1 F1 ad1 e1 rr x1 p1 rel1 r1 q1 => n _ H1 F1 ad1 _ x1 p1 (rel1.put r1) q1, x⟩)⟩
end
section
variable {e : Env} {P : RV → Env → Prop} {R : Xc → Env → Prop} {r : RV} {k : Nat} {t : EX}
theorem i_fz (h : t e (fun r e1 => e1.sl = e.sl ∧ ∃ d ob', fzR 9 e1.ob r = some (d, ob') ∧ flatB e.ob.length ob' = true ∧ P (.val d) ⟨e.sl, ob'.take e.ob.length⟩) R) : eFz t e P R := h
theorem i_fzL {sl0 sl1 : List (Option RV)} {n : Nat} {ob : List OD} {ds : List D} {Z : D → List OD → Prop} (hk : ob[k]? = some (.lst ds)) (hf : flatB n (ob.set k (.fz (.lst ds))) = true) (hs : sl1 = sl0) (q : Z (.lst ds) (ob.set k (.fz (.lst ds)))) :
    sl1 = sl0 ∧ ∃ d ob', fzR 9 ob (.ob k) = some (d, ob') ∧ flatB n ob' = true ∧ Z d ob' := ⟨hs, .lst ds, _, by rw [fzR, hk], hf, q⟩
theorem i_fzLT {n : Nat} {ob : List OD} {ds : List D} {Z : D → List OD → Prop} (hk : ob[k]? = some (.lst ds)) (hf : flatB n (ob.set k (.fz (.lst ds))) = true) (q : Z (.lst ds) (ob.set k (.fz (.lst ds)))) :
    True ∧ ∃ d ob', fzR 9 ob (.ob k) = some (d, ob') ∧ flatB n ob' = true ∧ Z d ob' := ⟨trivial, .lst ds, _, by rw [fzR, hk], hf, q⟩
theorem i_fzVT {n : Nat} {ob : List OD} {d : D} {Z : D → List OD → Prop} (hf : flatB n ob = true) (q : Z d ob) :
    True ∧ ∃ d' ob', fzR 9 ob (.val d) = some (d', ob') ∧ flatB n ob' = true ∧ Z d' ob' := ⟨trivial, d, ob, fzR_val 9 _ _, hf, q⟩
theorem i_fzV {sl0 sl1 : List (Option RV)} {n : Nat} {ob : List OD} {d : D} {Z : D → List OD → Prop} (hf : flatB n ob = true) (hs : sl1 = sl0) (q : Z d ob) :
    sl1 = sl0 ∧ ∃ d' ob', fzR 9 ob (.val d) = some (d', ob') ∧ flatB n ob' = true ∧ Z d' ob' := ⟨hs, d, ob, fzR_val 9 _ _, hf, q⟩
end
end DL
end
section
set_option Elab.async false
set_option linter.all false
set_option autoImplicit false
set_option maxRecDepth 100000
set_option maxHeartbeats 2000000
/-! DLS: at the end of a loop's pass the pass's own names and objects are let go. -/
namespace DL
open PySem PySem.Spec L2
open PyProof.Rows hiding St

def slotB (n : Nat) : Option RV → Bool
  | some (.ob k) => decide (k < n)
  | some (.val _) => true
  | none => true
def goB (vs : List Nat) (n : Nat) (e : Env) : Bool := (wipeE e.sl vs).all (slotB n) && flatB n e.ob
def letGo (vs : List Nat) (n : Nat) (e : Env) : Env := ⟨wipeE e.sl vs, e.ob.take n⟩
def sFr (vs : List Nat) (t : SX) : SX := fun e Po => t e { Po with
  nx := fun e1 => goB vs e.ob.length e1 = true ∧ Po.nx (letGo vs e.ob.length e1)
  ct := fun e1 => goB vs e.ob.length e1 = true ∧ Po.ct (letGo vs e.ob.length e1) }
section
variable {T : Cn} {X : Cx} {W : WX} {t : SX}
theorem Rel.go {c : BF} {e0 e : Env} {σ0 σ : L2.St} {F0 F H0 H : Hp} {ad ad0 : List Addr} {vs : List Nat} (R0 : Rel T c e0 σ0 F0 H0 ad0) (R : Rel T c e σ F H ad) (px : Px ad0 ad) (h : goB vs e0.ob.length e = true) :
    Rel T c (letGo vs e0.ob.length e) σ F H ad0 := by
  unfold goB at h
  rw [Bool.and_eq_true] at h
  obtain ⟨h1, h2⟩ := h
  have hal : ad0.length = e0.ob.length := R0.adl
  have hl : flatN ad0.length e.ob := by rw [hal]; exact flatB_ok h2
  have R1 := R.first R0.pre px hl
  rw [hal] at R1
  refine ⟨?_, R1.fh, R1.f0, R1.bh, R1.fr, R1.adl, R1.adn, R1.pre, R1.ob, fun i r hr => ?_⟩
  · show (wipeE e.sl vs).length = _
    rw [wipeE_length]
    exact R.len
  · have hm := List.all_eq_true.mp h1 _ (List.mem_of_getElem? hr)
    obtain ⟨hs, _⟩ := wipeE_some hr
    obtain ⟨v, hv, rr⟩ := R.sl i r hs
    refine ⟨v, hv, ?_⟩
    cases r with
    | val d => exact rr
    | ob k =>
      obtain ⟨p, hp, e1⟩ := rr
      have hk : k < ad0.length := by rw [hal]; simpa [slotB] using hm
      refine ⟨p, ?_, e1⟩
      have h3 : ad0[k]? = some ad0[k] := List.getElem?_eq_getElem hk
      have h4 := px k _ h3
      rw [h4] at hp
      rw [← hp]
      exact h3
theorem ls_fr {D : _} {σ : L2.St} {H : Hp} {vs : List Nat} (hh : LS T W (sFr vs t) D σ H) : LS T W t D σ H := by
  obtain ⟨c, F, ad, e, Po, rel, q, n, r, x, bk, ct⟩ := hh
  refine ⟨c, F, ad, e, _, rel, q, fun σ' H' F' ad' e' x1 p1 rel1 q1 => ?_, r, x, bk, fun σ' H' F' ad' e' x1 p1 rel1 q1 => ?_⟩
  · exact n σ' H' F' ad _ x1 (Px.refl _) (Rel.go rel rel1 p1 q1.1) q1.2
  · exact ct σ' H' F' ad _ x1 (Px.refl _) (Rel.go rel rel1 p1 q1.1) q1.2
theorem dss_fr {b : List Stmt} (vs : List Nat) (h : DSs T X W b t) : DSs T X W b (sFr vs t) := ⟨PSs.imp h.pss fun D σ H hh => ls_fr hh⟩
end
theorem i_fr {vs : List Nat} {t : SX} {e : Env} {Po : Post} (h : t e { Po with
  nx := fun e1 => goB vs e.ob.length e1 = true ∧ Po.nx (letGo vs e.ob.length e1)
  ct := fun e1 => goB vs e.ob.length e1 = true ∧ Po.ct (letGo vs e.ob.length e1) }) : sFr vs t e Po := h
end DL
end
section
set_option Elab.async false
set_option linter.all false
set_option autoImplicit false
set_option maxRecDepth 100000
set_option maxHeartbeats 2000000
/-! DLT: displays of data that nothing changes; constant ones. -/
namespace DL
open PySem PySem.Spec L2
open PyProof.Rows hiding St

def eLsV (t : AX) : EX := fun e P R => t e (fun rs e1 => rs.length ≤ sizeLine ∧ ∃ ds, allD e1 rs = some ds ∧ P (.val (.lst ds)) e1) R
section
variable {T : Cn} {X : Cx} {W : WX} {a : Expr} {t : EX} {pos : Pos}
theorem de_lsV {es : List Expr} {u : AX} (h : DA T X W es u) : DE T X W (.List es pos) (eLsV u) := ⟨PE.imp (pe_lst h.pa) fun σ H Q h => by
  obtain ⟨c, F, ad, e, P, R, rel, q, hq, hx⟩ := h
  refine ⟨c, F, ad, e, _, R, rel, q, fun vs H1 F1 ad1 e1 rs x1 p1 rel1 r1 q1 => ?_, hx⟩
  obtain ⟨hl, ds, hd, q2⟩ := q1
  refine ⟨by rw [r1.len]; exact hl, fun p hp => ?_⟩
  exact (hq.mono x1 p1).laid rel1 hp (fun x => rep_lst.mpr ⟨p, vs, rfl, .inl upd_same, (allD_ok rel1 r1 hd).mono x⟩) q2⟩
theorem de_kon {d : D} (h : DE T X W a t) (hk : ∀ e P R, P (.val d) e → t e P R) : DE T X W a (eD d) := ⟨PE.imp h.pe fun σ H Q hh => by
  obtain ⟨c, F, ad, e, P, R, rel, q, hq, hx⟩ := hh
  exact ⟨c, F, ad, e, P, R, rel, hk e P R q, hq, hx⟩⟩
end
theorem i_lsV {a : AX} {e : Env} {P : RV → Env → Prop} {R : Xc → Env → Prop} (h : a e (fun rs e1 => rs.length ≤ sizeLine ∧ ∃ ds, allD e1 rs = some ds ∧ P (.val (.lst ds)) e1) R) : eLsV a e P R := h
theorem i_lsV1 {e : Env} {rs : List RV} {ds : List D} {Z : D → Prop} (hl : rs.length ≤ sizeLine) (hd : allD e rs = some ds) (h : Z (.lst ds)) : rs.length ≤ sizeLine ∧ ∃ ds, allD e rs = some ds ∧ Z (.lst ds) := ⟨hl, ds, hd, h⟩
theorem i_exD {x : List D} {Z : List D → Prop} (h : Z x) : ∃ d, some x = some d ∧ Z d := ⟨x, rfl, h⟩
example : ∀ e P R, P (.val (.lst [.str [61], .lst []])) e → (eLsV (aCons (eD (.str [61])) (aCons (eD (.lst [])) aNil))) e P R := fun _ _ _ h => ⟨small_line (by decide), _, rfl, h⟩
end DL
end
section
set_option Elab.async false
set_option linter.all false
set_option autoImplicit false
set_option maxRecDepth 100000
set_option maxHeartbeats 0
namespace LW
open PySem PySem.Spec PyProof.Rows DL
open L2 hiding St start
def top (i : Nat) : Stmt := PySem.Challenge.pw_slipreach_k00_texts_cut_into_tokens.main.body.getD i (.Pass ⟨0, 0, 0, 0⟩)
def cbody : Stmt → List Stmt
  | .ClassDef _ _ _ b _ _ _ _ _ _ _ => b
  | _ => []
def nm : Nat → Str := fun i => if i < 200 then (["SettingsError", "BadText"]).getD (i - 100) "" else if i < 300 then (["SettingsError", "BadText"]).getD (i - 200) "" else (["at"]).getD (i - 300) ""
def isA_BadText : Nat → Option Bool := fun c => [(100, false), (101, true)].lookup c
def isA_SettingsError : Nat → Option Bool := fun c => [(100, true), (101, true)].lookup c
def ans_BadText : Nat → Option Bool := fun c => [(100, false), (101, true)].lookup c
/-- what the module says -/
structure Fs (T : Cn) : Prop where
  f_abs : T.mg "abs" = none
  f_enumerate : T.mg "enumerate" = none
  f_int : T.mg "int" = none
  f_isinstance : T.mg "isinstance" = none
  f_len : T.mg "len" = none
  f_list : T.mg "list" = none
  f_range : T.mg "range" = none
  f_repr : T.mg "repr" = none
  f_str : T.mg "str" = none
  f_sum : T.mg "sum" = none
  c_DIGITS : GC T "DIGITS" (.str [48, 49, 50, 51, 52, 53, 54, 55, 56, 57])
  c_LETTERS : GC T "LETTERS" (.str [97, 98, 99, 100, 101, 102, 103, 104, 105, 106, 107, 108, 109, 110, 111, 112, 113, 114, 115, 116, 117, 118, 119, 120, 121, 122])
  c_LONGEST : GC T "LONGEST" (.int 12)
  c_SIGNS : GC T "SIGNS" (.tup [.str [61], .str [59], .str [44], .str [91], .str [93]])
  g_BadText : T.mg "BadText" = some (.ref (He.ga T.K "BadText"))
  g_SettingsError : T.mg "SettingsError" = some (.ref (He.ga T.K "SettingsError"))
  x_BadText : ∀ c k, isA_BadText c = some k → ∀ C, T.mg (T.nm c) = some (.ref C) → PySem.W.exmOne T.K (.ref C) (.ref (He.ga T.K "BadText")) = some k
  x_SettingsError : ∀ c k, isA_SettingsError c = some k → ∀ C, T.mg (T.nm c) = some (.ref C) → PySem.W.exmOne T.K (.ref C) (.ref (He.ga T.K "SettingsError")) = some k
  xf_at : ∀ c ∈ [101], ∀ C, T.mg (T.nm c) = some (.ref C) → XfC T.K C ∧ PySem.W.findIn T.K (.ref C) (T.nm 300) = some none
  is_BadText : ∀ c b, ans_BadText c = some b → ∀ C, T.mg (T.nm c) = some (.ref C) → ExcC T.K C ∧ PySem.W.kitOne T.K (.ref C) (.ref (He.ga T.K "BadText")) = some b
def s_made_of : Stmt := top 8
def d_made_of : He.DefD := ⟨("made_of", none), "made_of", "made_of", defArgs s_made_of, defBody s_made_of, defScope s_made_of, [], []⟩
def s_is_word : Stmt := top 9
def d_is_word : He.DefD := ⟨("is_word", none), "is_word", "is_word", defArgs s_is_word, defBody s_is_word, defScope s_is_word, [], []⟩
def s_is_numeral : Stmt := top 10
def d_is_numeral : He.DefD := ⟨("is_numeral", none), "is_numeral", "is_numeral", defArgs s_is_numeral, defBody s_is_numeral, defScope s_is_numeral, [], []⟩
def s_sort_of : Stmt := top 11
def d_sort_of : He.DefD := ⟨("sort_of", none), "sort_of", "sort_of", defArgs s_sort_of, defBody s_sort_of, defScope s_sort_of, [], []⟩
def s_run_behind : Stmt := top 12
def d_run_behind : He.DefD := ⟨("run_behind", none), "run_behind", "run_behind", defArgs s_run_behind, defBody s_run_behind, defScope s_run_behind, [], []⟩
def s_tokens : Stmt := top 13
def d_tokens : He.DefD := ⟨("tokens", none), "tokens", "tokens", defArgs s_tokens, defBody s_tokens, defScope s_tokens, [], []⟩
def s_text_of : Stmt := top 14
def d_text_of : He.DefD := ⟨("text_of", none), "text_of", "text_of", defArgs s_text_of, defBody s_text_of, defScope s_text_of, [], []⟩
def s__law_pool : Stmt := top 16
def d__law_pool : He.DefD := ⟨("_law_pool", none), "_law_pool", "_law_pool", defArgs s__law_pool, defBody s__law_pool, defScope s__law_pool, [], []⟩
def s__law_pick : Stmt := top 17
def d__law_pick : He.DefD := ⟨("_law_pick", none), "_law_pick", "_law_pick", defArgs s__law_pick, defBody s__law_pick, defScope s__law_pick, [], []⟩
def s__law_of : Stmt := top 18
def d__law_of : He.DefD := ⟨("_law_of", none), "_law_of", "_law_of", defArgs s__law_of, defBody s__law_of, defScope s__law_of, [], []⟩
def s__law_run : Stmt := top 19
def d__law_run : He.DefD := ⟨("_law_run", none), "_law_run", "_law_run", defArgs s__law_run, defBody s__law_run, defScope s__law_run, [], []⟩
def s__law_piece : Stmt := top 20
def d__law_piece : He.DefD := ⟨("_law_piece", none), "_law_piece", "_law_piece", defArgs s__law_piece, defBody s__law_piece, defScope s__law_piece, [], []⟩
def s__law_whole_text : Stmt := top 21
def d__law_whole_text : He.DefD := ⟨("_law_whole_text", none), "_law_whole_text", "_law_whole_text", defArgs s__law_whole_text, defBody s__law_whole_text, defScope s__law_whole_text, [], []⟩
def s__law_is_token : Stmt := top 22
def d__law_is_token : He.DefD := ⟨("_law_is_token", none), "_law_is_token", "_law_is_token", defArgs s__law_is_token, defBody s__law_is_token, defScope s__law_is_token, [], []⟩
def s__law_cut : Stmt := top 23
def d__law_cut : He.DefD := ⟨("_law_cut", none), "_law_cut", "_law_cut", defArgs s__law_cut, defBody s__law_cut, defScope s__law_cut, [], []⟩
def s__law_told : Stmt := top 24
def d__law_told : He.DefD := ⟨("_law_told", none), "_law_told", "_law_told", defArgs s__law_told, defBody s__law_told, defScope s__law_told, [], []⟩
def s__law_glued : Stmt := top 25
def d__law_glued : He.DefD := ⟨("_law_glued", none), "_law_glued", "_law_glued", defArgs s__law_glued, defBody s__law_glued, defScope s__law_glued, [], []⟩
def s__law_same : Stmt := top 26
def d__law_same : He.DefD := ⟨("_law_same", none), "_law_same", "_law_same", defArgs s__law_same, defBody s__law_same, defScope s__law_same, [], []⟩
def s_law : Stmt := top 27
def d_law : He.DefD := ⟨("law", none), "law", "law", defArgs s_law, defBody s_law, defScope s_law, [], []⟩
def s_init_BadText : Stmt := (cbody (top 2)).getD 0 (.Pass ⟨0, 0, 0, 0⟩)
def d_init_BadText : He.DefD := ⟨("BadText", some "__init__"), "__init__", "BadText.__init__", defArgs s_init_BadText, defBody s_init_BadText, defScope s_init_BadText, [], []⟩
abbrev N_made_of : List Str := ["thing", "signs", "sign"]
theorem sc_made_of : FnScope N_made_of ["thing", "signs"] (defScope s_made_of) := ⟨rfl, rfl, rfl, by decide +kernel, rfl, by decide +kernel, by decide +kernel⟩
def t_made_of_1  : SX := (sIf (tVal (op2 (inX true) (eVar 2) (eVar 1))) (sRet (eD (.bl false))) sNext)
def t_made_of  : SX := (sSeq (sIf (tOrX (tNotX (tTru (isiX "str" (eVar 0)))) (tNotX (tVal (eChain ileX ileX (eD (.int 1)) (eB lenX (aCons (eVar 0) aNil)) (eD (.int 12)))))) (sRet (eD (.bl false))) sNext) (sSeq (sFor (iSeq (eVar 0)) (gNm 2) (t_made_of_1 )) (sRet (eD (.bl true)))))
theorem b_made_of {K : PySem.W.Frag} {mg : Str → Option Value} {Pg : Program} {w : World} {base : Heap} {f : Addr} (fs : Fs ⟨K, mg, nm⟩)  : Bod ⟨K, mg, nm⟩ Pg w base 0 N_made_of "made_of" (defScope s_made_of) f (defBody s_made_of) (t_made_of ) := fun cdv A outer s H E hr hgd tk => by
  have hu : (A.deeper (envOfC "made_of" (defScope s_made_of) s.heap.objs.size f cdv)).units + 100 < cLine := by have := hr.un; omega
  exact (dss_cons (ds_if (DW.dt (dw_or (dt_not (dt_tru (de_isi (fs.f_isinstance) (fs.f_str) rfl (de_var 0)))) (dw_or1 (dt_not (dt_chain op_le ad_le op_le ad_le de_int (de_len (fs.f_len) (da_cons (de_var 0) da_nil)) (de_gc fs.c_LONGEST)))))) (dss_one (ds_ret de_bl)) dss_nil) (dss_cons (ds_for (passes_of rfl) rfl (di_seq (de_var 0)) (dg_name 2 sc_made_of.nd) (dss_one (ds_if (dt_nin hu (de_var 2) (de_var 1)) (dss_one (ds_ret de_bl)) dss_nil))) (dss_one (ds_ret de_bl))))
abbrev N_is_word : List Str := ["thing"]
theorem sc_is_word : FnScope N_is_word ["thing"] (defScope s_is_word) := ⟨rfl, rfl, rfl, by decide +kernel, rfl, by decide +kernel, by decide +kernel⟩
def t_is_word (c_made_of : FX) : SX := (sRet (eCall [true, true] [] c_made_of (aCons (eVar 0) (aCons (eD (.str [97, 98, 99, 100, 101, 102, 103, 104, 105, 106, 107, 108, 109, 110, 111, 112, 113, 114, 115, 116, 117, 118, 119, 120, 121, 122])) aNil))))
theorem b_is_word {K : PySem.W.Frag} {mg : Str → Option Value} {Pg : Program} {w : World} {base : Heap} {f : Addr} (fs : Fs ⟨K, mg, nm⟩) {c_made_of : FX} (F_made_of : GFn ⟨K, mg, nm⟩ Pg w base 1 "made_of" 2 [] c_made_of) : Bod ⟨K, mg, nm⟩ Pg w base 1 N_is_word "is_word" (defScope s_is_word) f (defBody s_is_word) (t_is_word c_made_of) := fun cdv A outer s H E hr hgd tk => by
  have hu : (A.deeper (envOfC "is_word" (defScope s_is_word) s.heap.objs.size f cdv)).units + 100 < cLine := by have := hr.un; omega
  exact (dss_one (ds_ret (de_callF [true, true] F_made_of hr hgd tk (da_cons (de_var 0) (da_cons (de_gc fs.c_LETTERS) da_nil)))))
abbrev N_is_numeral : List Str := ["thing"]
theorem sc_is_numeral : FnScope N_is_numeral ["thing"] (defScope s_is_numeral) := ⟨rfl, rfl, rfl, by decide +kernel, rfl, by decide +kernel, by decide +kernel⟩
def t_is_numeral (c_made_of : FX) : SX := (sRet (eAnd (eCall [true, true] [] c_made_of (aCons (eVar 0) (aCons (eD (.str [48, 49, 50, 51, 52, 53, 54, 55, 56, 57])) aNil))) (eOr (op2 (eqX false) (eVar 0) (eD (.str [48]))) (op2 (eqX true) (op2 ixX (eVar 0) (eD (.int 0))) (eD (.str [48]))))))
theorem b_is_numeral {K : PySem.W.Frag} {mg : Str → Option Value} {Pg : Program} {w : World} {base : Heap} {f : Addr} (fs : Fs ⟨K, mg, nm⟩) {c_made_of : FX} (F_made_of : GFn ⟨K, mg, nm⟩ Pg w base 1 "made_of" 2 [] c_made_of) : Bod ⟨K, mg, nm⟩ Pg w base 1 N_is_numeral "is_numeral" (defScope s_is_numeral) f (defBody s_is_numeral) (t_is_numeral c_made_of) := fun cdv A outer s H E hr hgd tk => by
  have hu : (A.deeper (envOfC "is_numeral" (defScope s_is_numeral) s.heap.objs.size f cdv)).units + 100 < cLine := by have := hr.un; omega
  exact (dss_one (ds_ret (de_and (de_callF [true, true] F_made_of hr hgd tk (da_cons (de_var 0) (da_cons (de_gc fs.c_DIGITS) da_nil))) (de_one (de_or (de_eq hu (de_var 0) (de_strL [48])) (de_one (de_ne hu (de_ix (de_var 0) de_int) (de_strL [48]))))))))
abbrev N_sort_of : List Str := ["thing"]
theorem sc_sort_of : FnScope N_sort_of ["thing"] (defScope s_sort_of) := ⟨rfl, rfl, rfl, by decide +kernel, rfl, by decide +kernel, by decide +kernel⟩
def t_sort_of (c_is_numeral : FX) (c_is_word : FX) : SX := (sSeq (sIf (tNotX (tTru (isiX "str" (eVar 0)))) (sRet (eD .non)) sNext) (sSeq (sIf (tVal (op2 (inX false) (eVar 0) (eD (.tup [.str [61], .str [59], .str [44], .str [91], .str [93]])))) (sRet (eVar 0)) sNext) (sSeq (sIf (tTru (eCall [true] [] c_is_word (aCons (eVar 0) aNil))) (sRet (eD (.str [119, 111, 114, 100]))) sNext) (sRet (eIf (tTru (eCall [true] [] c_is_numeral (aCons (eVar 0) aNil))) (eD (.str [110, 117, 109, 98, 101, 114])) (eD .non))))))
theorem b_sort_of {K : PySem.W.Frag} {mg : Str → Option Value} {Pg : Program} {w : World} {base : Heap} {f : Addr} (fs : Fs ⟨K, mg, nm⟩) {c_is_numeral : FX} (F_is_numeral : GFn ⟨K, mg, nm⟩ Pg w base 2 "is_numeral" 1 [] c_is_numeral) {c_is_word : FX} (F_is_word : GFn ⟨K, mg, nm⟩ Pg w base 2 "is_word" 1 [] c_is_word) : Bod ⟨K, mg, nm⟩ Pg w base 2 N_sort_of "sort_of" (defScope s_sort_of) f (defBody s_sort_of) (t_sort_of c_is_numeral c_is_word) := fun cdv A outer s H E hr hgd tk => by
  have hu : (A.deeper (envOfC "sort_of" (defScope s_sort_of) s.heap.objs.size f cdv)).units + 100 < cLine := by have := hr.un; omega
  exact (dss_cons (ds_if (dt_not (dt_tru (de_isi (fs.f_isinstance) (fs.f_str) rfl (de_var 0)))) (dss_one (ds_ret de_non)) dss_nil) (dss_cons (ds_if (dt_in hu (de_var 0) (de_gc fs.c_SIGNS)) (dss_one (ds_ret (de_var 0))) dss_nil) (dss_cons (ds_if (dt_tru (de_callF [true] F_is_word hr hgd tk (da_cons (de_var 0) da_nil))) (dss_one (ds_ret (de_strL [119, 111, 114, 100]))) dss_nil) (dss_one (ds_ret (de_if (dt_tru (de_callF [true] F_is_numeral hr hgd tk (da_cons (de_var 0) da_nil))) (de_strL [110, 117, 109, 98, 101, 114]) de_non))))))
abbrev N_run_behind : List Str := ["text", "at", "behind"]
theorem sc_run_behind : FnScope N_run_behind ["text", "at"] (defScope s_run_behind) := ⟨rfl, rfl, rfl, by decide +kernel, rfl, by decide +kernel, by decide +kernel⟩
def t_run_behind_1  : SX := (sAug 2 (eD (.int 1)) (ix2 (fun _ _ => True) fun i j => .int (i + j)))
def t_run_behind  : SX := (sSeq (sAsg (eVar 1) (gNm 2)) (sSeq (sWhile (tAndX (tVal (op2 iltX (eVar 2) (eB lenX (aCons (eVar 0) aNil)))) (tOrX (tVal (op2 (inX false) (op2 ixX (eVar 0) (eVar 2)) (eD (.str [97, 98, 99, 100, 101, 102, 103, 104, 105, 106, 107, 108, 109, 110, 111, 112, 113, 114, 115, 116, 117, 118, 119, 120, 121, 122])))) (tVal (op2 (inX false) (op2 ixX (eVar 0) (eVar 2)) (eD (.str [48, 49, 50, 51, 52, 53, 54, 55, 56, 57])))))) (t_run_behind_1 )) (sRet (eVar 2))))
theorem b_run_behind {K : PySem.W.Frag} {mg : Str → Option Value} {Pg : Program} {w : World} {base : Heap} {f : Addr} (fs : Fs ⟨K, mg, nm⟩)  : Bod ⟨K, mg, nm⟩ Pg w base 0 N_run_behind "run_behind" (defScope s_run_behind) f (defBody s_run_behind) (t_run_behind ) := fun cdv A outer s H E hr hgd tk => by
  have hu : (A.deeper (envOfC "run_behind" (defScope s_run_behind) s.heap.objs.size f cdv)).units + 100 < cLine := by have := hr.un; omega
  exact (dss_cons (ds_set 2 (de_var 1) sc_run_behind.nd) (dss_cons (ds_while (passes_of rfl) (DW.dt (dw_and (dt_cmp op_lt ad_lt (de_var 2) (de_len (fs.f_len) (da_cons (de_var 0) da_nil))) (dw_and1 (DW.dt (dw_or (dt_in hu (de_ix (de_var 0) (de_var 2)) (de_gc fs.c_LETTERS)) (dw_or1 (dt_in hu (de_ix (de_var 0) (de_var 2)) (de_gc fs.c_DIGITS)))))))) (dss_one (ds_aug 2 iop_add (ad_ix0 fun _ _ _ => rep_int.mpr rfl) de_int sc_run_behind.nd))) (dss_one (ds_ret (de_var 2)))))
abbrev N_tokens : List Str := ["text", "found", "at", "sign", "behind", "run"]
theorem sc_tokens : FnScope N_tokens ["text"] (defScope s_tokens) := ⟨rfl, rfl, rfl, by decide +kernel, rfl, by decide +kernel, by decide +kernel⟩
def t_tokens_1 (c_sort_of : FX) (c_run_behind : FX) : SX := (sSeq (sAsg (op2 ixX (eVar 0) (eVar 2)) (gNm 3)) (sSeq (sAsg (eCall [true, true] [] c_run_behind (aCons (eVar 0) (aCons (eVar 2) aNil))) (gNm 4)) (sIf (tVal (op2 igtX (eVar 4) (eVar 2))) (sSeq (sAsg (eSl (eVar 0) (pSome (eVar 2)) (pSome (eVar 4))) (gNm 5)) (sSeq (sIf (tVal (isNX false (eCall [true] [] c_sort_of (aCons (eVar 5) aNil)))) (sRaise 101 [300] (aCons (eVar 2) aNil)) sNext) (sSeq (sDrop (eM tyLs appX (eVar 1) (aCons (eVar 5) aNil))) (sAsg (eVar 4) (gNm 2))))) (sSeq (sIf (tVal (op2 (inX false) (eVar 3) (eD (.tup [.str [61], .str [59], .str [44], .str [91], .str [93]])))) (sDrop (eM tyLs appX (eVar 1) (aCons (eVar 3) aNil))) (sIf (tVal (op2 (inX true) (eVar 3) (eTup (aCons (eD (.str [32])) (aCons (eD (.str [10])) aNil))))) (sRaise 101 [300] (aCons (eVar 2) aNil)) sNext)) (sAug 2 (eD (.int 1)) (ix2 (fun _ _ => True) fun i j => .int (i + j)))))))
def t_tokens (c_sort_of : FX) (c_run_behind : FX) : SX := (sSeq (sAsg (eLst aNil) (gNm 1)) (sSeq (sAsg (eD (.int 0)) (gNm 2)) (sSeq (sWhile (tVal (op2 iltX (eVar 2) (eB lenX (aCons (eVar 0) aNil)))) (t_tokens_1 c_sort_of c_run_behind)) (sRet (eVar 1)))))
theorem b_tokens {K : PySem.W.Frag} {mg : Str → Option Value} {Pg : Program} {w : World} {base : Heap} {f : Addr} (fs : Fs ⟨K, mg, nm⟩) {c_sort_of : FX} (F_sort_of : GFn ⟨K, mg, nm⟩ Pg w base 3 "sort_of" 1 [] c_sort_of) {c_run_behind : FX} (F_run_behind : GFn ⟨K, mg, nm⟩ Pg w base 1 "run_behind" 2 [] c_run_behind) (X_BadText : ExcK ⟨K, mg, nm⟩ Pg w base 101 [300]) : Bod ⟨K, mg, nm⟩ Pg w base 3 N_tokens "tokens" (defScope s_tokens) f (defBody s_tokens) (t_tokens c_sort_of c_run_behind) := fun cdv A outer s H E hr hgd tk => by
  have hu : (A.deeper (envOfC "tokens" (defScope s_tokens) s.heap.objs.size f cdv)).units + 100 < cLine := by have := hr.un; omega
  exact (dss_cons (ds_set 1 (de_lst da_nil) sc_tokens.nd) (dss_cons (ds_set 2 de_int sc_tokens.nd) (dss_cons (ds_while (passes_of rfl) (dt_cmp op_lt ad_lt (de_var 2) (de_len (fs.f_len) (da_cons (de_var 0) da_nil))) (dss_cons (ds_set 3 (de_ix (de_var 0) (de_var 2)) sc_tokens.nd) (dss_cons (ds_set 4 (de_callF [true, true] F_run_behind hr hgd tk (da_cons (de_var 0) (da_cons (de_var 2) da_nil))) sc_tokens.nd) (dss_one (ds_if (dt_cmp op_gt ad_gt (de_var 4) (de_var 2)) (dss_cons (ds_set 5 (de_sl (de_var 0) (do_some (de_var 2)) (do_some (de_var 4))) sc_tokens.nd) (dss_cons (ds_if (dt_isN (de_callF [true] F_sort_of hr hgd tk (da_cons (de_var 5) da_nil))) (dss_one (ds_raise (c := 101) (fl := [300]) X_BadText rfl (hr.mono (by decide)) tk (da_cons (de_var 2) da_nil))) dss_nil) (dss_cons (ds_expr (de_append (de_var 1) (da_cons (de_var 5) da_nil))) (dss_one (ds_set 2 (de_var 4) sc_tokens.nd))))) (dss_cons (ds_if (dt_in hu (de_var 3) (de_gc fs.c_SIGNS)) (dss_one (ds_expr (de_append (de_var 1) (da_cons (de_var 3) da_nil)))) (dss_one (ds_if (dt_nin hu (de_var 3) (de_tup (da_cons (de_strL [32]) (da_cons (de_strL [10]) da_nil)))) (dss_one (ds_raise (c := 101) (fl := [300]) X_BadText rfl (hr.mono (by decide)) tk (da_cons (de_var 2) da_nil))) dss_nil))) (dss_one (ds_aug 2 iop_add (ad_ix0 fun _ _ _ => rep_int.mpr rfl) de_int sc_tokens.nd)))))))) (dss_one (ds_ret (de_var 1))))))
abbrev N_text_of : List Str := ["file"]
theorem sc_text_of : FnScope N_text_of ["file"] (defScope s_text_of) := ⟨rfl, rfl, rfl, by decide +kernel, rfl, by decide +kernel, by decide +kernel⟩
def t_text_of  : SX := (sRet (eM tyStr joinX (eD (.str [32])) (aCons (eFz (eB listX (aCons (eVar 0) aNil))) aNil)))
theorem b_text_of {K : PySem.W.Frag} {mg : Str → Option Value} {Pg : Program} {w : World} {base : Heap} {f : Addr} (fs : Fs ⟨K, mg, nm⟩)  : Bod ⟨K, mg, nm⟩ Pg w base 0 N_text_of "text_of" (defScope s_text_of) f (defBody s_text_of) (t_text_of ) := fun cdv A outer s H E hr hgd tk => by
  have hu : (A.deeper (envOfC "text_of" (defScope s_text_of) s.heap.objs.size f cdv)).units + 100 < cLine := by have := hr.un; omega
  exact (dss_one (ds_ret (de_join (de_strL [32]) (da_cons (de_fz (de_list (fs.f_list) (da_cons (de_var 0) da_nil))) da_nil))))
abbrev N__law_pool : List Str := ["script", "place", "cell", "great"]
theorem sc__law_pool : FnScope N__law_pool ["script", "place"] (defScope s__law_pool) := ⟨rfl, rfl, rfl, by decide +kernel, rfl, by decide +kernel, by decide +kernel⟩
def t__law_pool  : SX := (sSeq (sAsg (eIf (tVal (op2 iltX (eVar 1) (eB lenX (aCons (eVar 0) aNil)))) (op2 ixX (eVar 0) (eVar 1)) (op2 modX (eB intX (aCons (eB sumX (aCons (eSl (eVar 0) pNone (pSome (eD (.int 1)))) aNil)) aNil)) (eD (.int 1000003)))) (gNm 2)) (sSeq (sAsg (eIf (tVal (op2 igeX (eB absX (aCons (eVar 2) aNil)) (op2 powX (eD (.int 10)) (eD (.int 18))))) (eB absX (aCons (eVar 2) aNil)) (eD (.int 0))) (gNm 3)) (sRet (eLst (aCons (eVar 3) (aCons (op2 addX (op2 addX (op2 addX (op2 imulX (op2 modX (eB intX (aCons (eVar 2) aNil)) (eD (.int 2305843009213693951))) (eD (.int 7))) (op2 imulX (eD (.int 6689)) (eVar 1))) (op2 imulX (eD (.int 523)) (eD (.int 1200)))) (eD (.int 91))) (aCons (eD (.int 0)) aNil)))))))
theorem b__law_pool {K : PySem.W.Frag} {mg : Str → Option Value} {Pg : Program} {w : World} {base : Heap} {f : Addr} (fs : Fs ⟨K, mg, nm⟩)  : Bod ⟨K, mg, nm⟩ Pg w base 0 N__law_pool "_law_pool" (defScope s__law_pool) f (defBody s__law_pool) (t__law_pool ) := fun cdv A outer s H E hr hgd tk => by
  have hu : (A.deeper (envOfC "_law_pool" (defScope s__law_pool) s.heap.objs.size f cdv)).units + 100 < cLine := by have := hr.un; omega
  exact (dss_cons (ds_set 2 (de_if (dt_cmp op_lt ad_lt (de_var 1) (de_len (fs.f_len) (da_cons (de_var 0) da_nil))) (de_ix (de_var 0) (de_var 1)) (de_mod (de_intC (fs.f_int) (da_cons (de_sum rfl (fs.f_sum) (da_cons (de_sl (de_var 0) do_none (do_some de_int)) da_nil)) da_nil)) de_int)) sc__law_pool.nd) (dss_cons (ds_set 3 (de_if (dt_cmp op_ge ad_ge (de_abs (fs.f_abs) (da_cons (de_var 2) da_nil)) (de_pow de_int de_int)) (de_abs (fs.f_abs) (da_cons (de_var 2) da_nil)) de_int) sc__law_pool.nd) (dss_one (ds_ret (de_lst (da_cons (de_var 3) (da_cons (de_add (de_add (de_add (de_imul (de_mod (de_intC (fs.f_int) (da_cons (de_var 2) da_nil)) de_int) de_int) (de_imul de_int (de_var 1))) (de_imul de_int de_int)) de_int) (da_cons de_int da_nil))))))))
abbrev N__law_pick : List Str := ["pool", "many", "mixed", "found"]
theorem sc__law_pick : FnScope N__law_pick ["pool", "many"] (defScope s__law_pick) := ⟨rfl, rfl, rfl, by decide +kernel, rfl, by decide +kernel, by decide +kernel⟩
def t__law_pick  : SX := (sSeq (sIf (tVal (op2 igtX (op2 ixX (eVar 0) (eD (.int 0))) (eD (.int 0)))) (sSeq (sAsg (op2 modX (eB intX (aCons (op2 ixX (eVar 0) (eD (.int 0))) aNil)) (eVar 1)) (gNm 3)) (sSeq (sSetIx (eVar 0) (eD (.int 0)) (op2 fdivX (op2 ixX (eVar 0) (eD (.int 0))) (eVar 1))) (sRet (eVar 3)))) sNext) (sSeq (sSetIx (eVar 0) (eD (.int 2)) (op2 addX (op2 ixX (eVar 0) (eD (.int 2))) (eD (.int 1)))) (sSeq (sAsg (op2 modX (eB intX (aCons (op2 powX (op2 addX (op2 ixX (eVar 0) (eD (.int 1))) (op2 imulX (eD (.int 1500450271)) (op2 ixX (eVar 0) (eD (.int 2))))) (eD (.int 3))) aNil)) (eD (.int 2305843009213693921))) (gNm 2)) (sSeq (sAsg (op2 modX (eB intX (aCons (op2 powX (op2 addX (eVar 2) (op2 imulX (eD (.int 28657)) (op2 ixX (eVar 0) (eD (.int 2))))) (eD (.int 2))) aNil)) (eD (.int 2305843009213693951))) (gNm 2)) (sRet (op2 modX (eB intX (aCons (op2 fdivX (eVar 2) (eD (.int 1024))) aNil)) (eVar 1)))))))
theorem b__law_pick {K : PySem.W.Frag} {mg : Str → Option Value} {Pg : Program} {w : World} {base : Heap} {f : Addr} (fs : Fs ⟨K, mg, nm⟩)  : Bod ⟨K, mg, nm⟩ Pg w base 0 N__law_pick "_law_pick" (defScope s__law_pick) f (defBody s__law_pick) (t__law_pick ) := fun cdv A outer s H E hr hgd tk => by
  have hu : (A.deeper (envOfC "_law_pick" (defScope s__law_pick) s.heap.objs.size f cdv)).units + 100 < cLine := by have := hr.un; omega
  exact (dss_cons (ds_if (dt_cmp op_gt ad_gt (de_ix (de_var 0) de_int) de_int) (dss_cons (ds_set 3 (de_mod (de_intC (fs.f_int) (da_cons (de_ix (de_var 0) de_int) da_nil)) (de_var 1)) sc__law_pick.nd) (dss_cons (ds_setIx (de_var 0) de_int (de_fdiv (de_ix (de_var 0) de_int) (de_var 1))) (dss_one (ds_ret (de_var 3))))) dss_nil) (dss_cons (ds_setIx (de_var 0) de_int (de_add (de_ix (de_var 0) de_int) de_int)) (dss_cons (ds_set 2 (de_mod (de_intC (fs.f_int) (da_cons (de_pow (de_add (de_ix (de_var 0) de_int) (de_imul de_int (de_ix (de_var 0) de_int))) de_int) da_nil)) de_int) sc__law_pick.nd) (dss_cons (ds_set 2 (de_mod (de_intC (fs.f_int) (da_cons (de_pow (de_add (de_var 2) (de_imul de_int (de_ix (de_var 0) de_int))) de_int) da_nil)) de_int) sc__law_pick.nd) (dss_one (ds_ret (de_mod (de_intC (fs.f_int) (da_cons (de_fdiv (de_var 2) de_int) da_nil)) (de_var 1))))))))
abbrev N__law_of : List Str := ["pool", "some"]
theorem sc__law_of : FnScope N__law_of ["pool", "some"] (defScope s__law_of) := ⟨rfl, rfl, rfl, by decide +kernel, rfl, by decide +kernel, by decide +kernel⟩
def t__law_of (c__law_pick : FX) : SX := (sRet (op2 ixX (eVar 1) (eCall [false, true] [] c__law_pick (aCons (eVar 0) (aCons (eB lenX (aCons (eVar 1) aNil)) aNil)))))
theorem b__law_of {K : PySem.W.Frag} {mg : Str → Option Value} {Pg : Program} {w : World} {base : Heap} {f : Addr} (fs : Fs ⟨K, mg, nm⟩) {c__law_pick : FX} (F__law_pick : GFn ⟨K, mg, nm⟩ Pg w base 1 "_law_pick" 2 [] c__law_pick) : Bod ⟨K, mg, nm⟩ Pg w base 1 N__law_of "_law_of" (defScope s__law_of) f (defBody s__law_of) (t__law_of c__law_pick) := fun cdv A outer s H E hr hgd tk => by
  have hu : (A.deeper (envOfC "_law_of" (defScope s__law_of) s.heap.objs.size f cdv)).units + 100 < cLine := by have := hr.un; omega
  exact (dss_one (ds_ret (de_ix (de_var 1) (de_callF [false, true] F__law_pick hr hgd tk (da_cons (de_var 0) (da_cons (de_len (fs.f_len) (da_cons (de_var 1) da_nil)) da_nil))))))
abbrev N__law_run : List Str := ["pool", "way", "many", "letters", "digits", "k"]
theorem sc__law_run : FnScope N__law_run ["pool"] (defScope s__law_run) := ⟨rfl, rfl, rfl, by decide +kernel, rfl, by decide +kernel, by decide +kernel⟩
def t__law_run_1 (c__law_pick : FX) : EX := (op2 ixX (eD (.str [48, 49, 50, 51, 52, 53, 54, 55, 56, 57])) (eCall [false, true] [] c__law_pick (aCons (eVar 0) (aCons (eD (.int 10)) aNil))))
def t__law_run_2 (c__law_pick : FX) : EX := (op2 ixX (eD (.str [97, 98, 99, 100, 101, 102, 103, 104, 105, 106, 107, 108, 109, 110, 111, 112, 113, 114, 115, 116, 117, 118, 119, 120, 121, 122])) (eCall [false, true] [] c__law_pick (aCons (eVar 0) (aCons (eD (.int 26)) aNil))))
def t__law_run (c__law_pick : FX) : SX := (sSeq (sAsg (eCall [false, true] [] c__law_pick (aCons (eVar 0) (aCons (eD (.int 8)) aNil))) (gNm 1)) (sSeq (sAsg (op2 ixX (eD (.lst [.int 1, .int 2, .int 3, .int 12, .int 13])) (eCall [false, true] [] c__law_pick (aCons (eVar 0) (aCons (eD (.int 5)) aNil)))) (gNm 2)) (sSeq (sAsg (eM tyStr joinX (eD (.str [])) (aCons (eFz (eLc (iR1 (aCons (eVar 2) aNil)) (gNm 5) tYesX (t__law_run_2 c__law_pick) [5])) aNil)) (gNm 3)) (sSeq (sAsg (eM tyStr joinX (eD (.str [])) (aCons (eFz (eLc (iR1 (aCons (eVar 2) aNil)) (gNm 5) tYesX (t__law_run_1 c__law_pick) [5])) aNil)) (gNm 4)) (sSeq (sIf (tVal (op2 iltX (eVar 1) (eD (.int 3)))) (sRet (eVar 3)) sNext) (sSeq (sIf (tVal (op2 iltX (eVar 1) (eD (.int 6)))) (sRet (eIf (tVal (op2 igtX (eCall [false, true] [] c__law_pick (aCons (eVar 0) (aCons (eD (.int 3)) aNil))) (eD (.int 0)))) (eB strX (aCons (eB intX (aCons (eVar 4) aNil)) aNil)) (eIf (tVal (op2 igtX (eCall [false, true] [] c__law_pick (aCons (eVar 0) (aCons (eD (.int 3)) aNil))) (eD (.int 0)))) (eVar 4) (eD (.str [48]))))) sNext) (sRet (eIf (tVal (op2 (eqX false) (eVar 1) (eD (.int 6)))) (op2 addX (eSl (eVar 3) pNone (pSome (eD (.int 3)))) (eSl (eVar 4) pNone (pSome (eD (.int 2))))) (op2 addX (eSl (eVar 4) pNone (pSome (eD (.int 2)))) (eSl (eVar 3) pNone (pSome (eD (.int 3)))))))))))))
theorem b__law_run {K : PySem.W.Frag} {mg : Str → Option Value} {Pg : Program} {w : World} {base : Heap} {f : Addr} (fs : Fs ⟨K, mg, nm⟩) {c__law_pick : FX} (F__law_pick : GFn ⟨K, mg, nm⟩ Pg w base 1 "_law_pick" 2 [] c__law_pick) : Bod ⟨K, mg, nm⟩ Pg w base 1 N__law_run "_law_run" (defScope s__law_run) f (defBody s__law_run) (t__law_run c__law_pick) := fun cdv A outer s H E hr hgd tk => by
  have hu : (A.deeper (envOfC "_law_run" (defScope s__law_run) s.heap.objs.size f cdv)).units + 100 < cLine := by have := hr.un; omega
  exact (dss_cons (ds_set 1 (de_callF [false, true] F__law_pick hr hgd tk (da_cons (de_var 0) (da_cons de_int da_nil))) sc__law_run.nd) (dss_cons (ds_set 2 (de_ix (de_kon (d := .lst [.int 1, .int 2, .int 3, .int 12, .int 13]) (de_lsV (da_cons de_int (da_cons de_int (da_cons de_int (da_cons de_int (da_cons de_int da_nil)))))) fun _ _ _ h => ⟨small_line (by decide), _, rfl, h⟩) (de_callF [false, true] F__law_pick hr hgd tk (da_cons (de_var 0) (da_cons de_int da_nil)))) sc__law_run.nd) (dss_cons (ds_set 3 (de_join (de_strL []) (da_cons (de_fz (de_lc (vs := [5]) (own := [("k", 5)]) rfl sc__law_run.nd (di_range1 (fs.f_range) (da_cons (de_var 2) da_nil)) (blkOk_by (by show blkC N__law_run (defScope s__law_run) _ _ = true; decide +kernel)) rfl (fun _ _ _ _ _ => (dgw_name 5 sc__law_run.nd)) (fun _ _ _ _ _ => dts_nil) (fun _ _ _ _ _ => (de_ix (de_strL [97, 98, 99, 100, 101, 102, 103, 104, 105, 106, 107, 108, 109, 110, 111, 112, 113, 114, 115, 116, 117, 118, 119, 120, 121, 122]) (de_callF [false, true] F__law_pick hr hgd takes_W0 (da_cons (de_var 0) (da_cons de_int da_nil))))))) da_nil)) sc__law_run.nd) (dss_cons (ds_set 4 (de_join (de_strL []) (da_cons (de_fz (de_lc (vs := [5]) (own := [("k", 5)]) rfl sc__law_run.nd (di_range1 (fs.f_range) (da_cons (de_var 2) da_nil)) (blkOk_by (by show blkC N__law_run (defScope s__law_run) _ _ = true; decide +kernel)) rfl (fun _ _ _ _ _ => (dgw_name 5 sc__law_run.nd)) (fun _ _ _ _ _ => dts_nil) (fun _ _ _ _ _ => (de_ix (de_strL [48, 49, 50, 51, 52, 53, 54, 55, 56, 57]) (de_callF [false, true] F__law_pick hr hgd takes_W0 (da_cons (de_var 0) (da_cons de_int da_nil))))))) da_nil)) sc__law_run.nd) (dss_cons (ds_if (dt_cmp op_lt ad_lt (de_var 1) de_int) (dss_one (ds_ret (de_var 3))) dss_nil) (dss_cons (ds_if (dt_cmp op_lt ad_lt (de_var 1) de_int) (dss_one (ds_ret (de_if (dt_cmp op_gt ad_gt (de_callF [false, true] F__law_pick hr hgd tk (da_cons (de_var 0) (da_cons de_int da_nil))) de_int) (de_strC (fs.f_str) (da_cons (de_intC (fs.f_int) (da_cons (de_var 4) da_nil)) da_nil)) (de_if (dt_cmp op_gt ad_gt (de_callF [false, true] F__law_pick hr hgd tk (da_cons (de_var 0) (da_cons de_int da_nil))) de_int) (de_var 4) (de_strL [48]))))) dss_nil) (dss_one (ds_ret (de_if (dt_eq hu (de_var 1) de_int) (de_add (de_sl (de_var 3) do_none (do_some de_int)) (de_sl (de_var 4) do_none (do_some de_int))) (de_add (de_sl (de_var 4) do_none (do_some de_int)) (de_sl (de_var 3) do_none (do_some de_int))))))))))))
abbrev N__law_piece : List Str := ["pool", "way"]
theorem sc__law_piece : FnScope N__law_piece ["pool"] (defScope s__law_piece) := ⟨rfl, rfl, rfl, by decide +kernel, rfl, by decide +kernel, by decide +kernel⟩
def t__law_piece (c__law_pick : FX) (c__law_run : FX) : SX := (sSeq (sAsg (eCall [false, true] [] c__law_pick (aCons (eVar 0) (aCons (eD (.int 16)) aNil))) (gNm 1)) (sSeq (sIf (tVal (op2 iltX (eVar 1) (eD (.int 6)))) (sRet (eCall [false] [] c__law_run (aCons (eVar 0) aNil))) sNext) (sSeq (sIf (tVal (op2 iltX (eVar 1) (eD (.int 10)))) (sRet (op2 ixX (eD (.lst [.str [32], .str [32, 32], .str [10], .str [32, 10, 32]])) (eCall [false, true] [] c__law_pick (aCons (eVar 0) (aCons (eD (.int 4)) aNil))))) sNext) (sSeq (sIf (tVal (op2 iltX (eVar 1) (eD (.int 15)))) (sRet (op2 ixX (eD (.str [61, 59, 44, 91, 93])) (op2 subX (eVar 1) (eD (.int 10))))) sNext) (sRet (op2 ixX (eD (.lst [.str [65], .str [45], .str [95], .str [126], .str [46], .str [123], .str [34], .str [90], .str [9], .str [9]])) (eCall [false, true] [] c__law_pick (aCons (eVar 0) (aCons (eD (.int 10)) aNil)))))))))
theorem b__law_piece {K : PySem.W.Frag} {mg : Str → Option Value} {Pg : Program} {w : World} {base : Heap} {f : Addr} (fs : Fs ⟨K, mg, nm⟩) {c__law_pick : FX} (F__law_pick : GFn ⟨K, mg, nm⟩ Pg w base 1 "_law_pick" 2 [] c__law_pick) {c__law_run : FX} (F__law_run : GFn ⟨K, mg, nm⟩ Pg w base 2 "_law_run" 1 [] c__law_run) : Bod ⟨K, mg, nm⟩ Pg w base 2 N__law_piece "_law_piece" (defScope s__law_piece) f (defBody s__law_piece) (t__law_piece c__law_pick c__law_run) := fun cdv A outer s H E hr hgd tk => by
  have hu : (A.deeper (envOfC "_law_piece" (defScope s__law_piece) s.heap.objs.size f cdv)).units + 100 < cLine := by have := hr.un; omega
  exact (dss_cons (ds_set 1 (de_callF [false, true] F__law_pick hr hgd tk (da_cons (de_var 0) (da_cons de_int da_nil))) sc__law_piece.nd) (dss_cons (ds_if (dt_cmp op_lt ad_lt (de_var 1) de_int) (dss_one (ds_ret (de_callF [false] F__law_run hr hgd tk (da_cons (de_var 0) da_nil)))) dss_nil) (dss_cons (ds_if (dt_cmp op_lt ad_lt (de_var 1) de_int) (dss_one (ds_ret (de_ix (de_kon (d := .lst [.str [32], .str [32, 32], .str [10], .str [32, 10, 32]]) (de_lsV (da_cons (de_strL [32]) (da_cons (de_strL [32, 32]) (da_cons (de_strL [10]) (da_cons (de_strL [32, 10, 32]) da_nil))))) fun _ _ _ h => ⟨small_line (by decide), _, rfl, h⟩) (de_callF [false, true] F__law_pick hr hgd tk (da_cons (de_var 0) (da_cons de_int da_nil)))))) dss_nil) (dss_cons (ds_if (dt_cmp op_lt ad_lt (de_var 1) de_int) (dss_one (ds_ret (de_ix (de_strL [61, 59, 44, 91, 93]) (de_sub (de_var 1) de_int)))) dss_nil) (dss_one (ds_ret (de_ix (de_kon (d := .lst [.str [65], .str [45], .str [95], .str [126], .str [46], .str [123], .str [34], .str [90], .str [9], .str [9]]) (de_lsV (da_cons (de_strL [65]) (da_cons (de_strL [45]) (da_cons (de_strL [95]) (da_cons (de_strL [126]) (da_cons (de_strL [46]) (da_cons (de_strL [123]) (da_cons (de_strL [34]) (da_cons (de_strL [90]) (da_cons (de_strL [9]) (da_cons (de_strL [9]) da_nil))))))))))) fun _ _ _ h => ⟨small_line (by decide), _, rfl, h⟩) (de_callF [false, true] F__law_pick hr hgd tk (da_cons (de_var 0) (da_cons de_int da_nil))))))))))
abbrev N__law_whole_text : List Str := ["pool", "pieces", "made", "piece", "is_good", "needs_blank", "k"]
theorem sc__law_whole_text : FnScope N__law_whole_text ["pool"] (defScope s__law_whole_text) := ⟨rfl, rfl, rfl, by decide +kernel, rfl, by decide +kernel, by decide +kernel⟩
def t__law_whole_text_1 (c__law_is_token : FX) (c__law_pick : FX) (c__law_piece : FX) : SX := (sSeq (sAsg (eOr (op2 (eqX false) (eM tyStr stripCX (eVar 3) (aCons (eD (.str [32, 10])) aNil)) (eD (.str []))) (eOr (op2 (inX false) (eVar 3) (eD (.lst [.str [61], .str [59], .str [44], .str [91], .str [93]]))) (eAnd (eCall [true] [] c__law_is_token (aCons (eVar 3) aNil)) (eAnd (eM tyStr alnumX (eVar 3) aNil) (op2 (inX true) (op2 ixX (eVar 3) (eD (.int 0))) (eD (.str [65, 90]))))))) (gNm 4)) (sSeq (sAsg (eAnd (op2 (eqX true) (eVar 2) (eD (.str []))) (eAnd (eM tyStr alnumX (op2 ixX (eVar 2) (eNeg (eD (.int 1)))) aNil) (eM tyStr alnumX (op2 ixX (eVar 3) (eD (.int 0))) aNil))) (gNm 5)) (sIf (tTru (eVar 4)) (sAsg (op2 addX (op2 addX (eVar 2) (eIf (tTru (eVar 5)) (eD (.str [32])) (eD (.str [])))) (eVar 3)) (gNm 2)) sNext)))
def t__law_whole_text_2 (c__law_is_token : FX) (c__law_pick : FX) (c__law_piece : FX) : EX := (eCall [false] [] c__law_piece (aCons (eVar 0) aNil))
def t__law_whole_text (c__law_is_token : FX) (c__law_pick : FX) (c__law_piece : FX) : SX := (sSeq (sAsg (eFz (eLc (iR1 (aCons (eCall [false, true] [] c__law_pick (aCons (eVar 0) (aCons (eD (.int 25)) aNil))) aNil)) (gNm 6) tYesX (t__law_whole_text_2 c__law_is_token c__law_pick c__law_piece) [6])) (gNm 1)) (sSeq (sIf (tVal (op2 (eqX false) (eCall [false, true] [] c__law_pick (aCons (eVar 0) (aCons (eD (.int 2)) aNil))) (eD (.int 0)))) (sRet (eM tyStr joinX (eD (.str [])) (aCons (eVar 1) aNil))) sNext) (sSeq (sAsg (eD (.str [])) (gNm 2)) (sSeq (sFor (iSeq (eVar 1)) (gNm 3) (t__law_whole_text_1 c__law_is_token c__law_pick c__law_piece)) (sRet (eVar 2))))))
theorem b__law_whole_text {K : PySem.W.Frag} {mg : Str → Option Value} {Pg : Program} {w : World} {base : Heap} {f : Addr} (fs : Fs ⟨K, mg, nm⟩) {c__law_is_token : FX} (F__law_is_token : GFn ⟨K, mg, nm⟩ Pg w base 1 "_law_is_token" 1 [] c__law_is_token) {c__law_pick : FX} (F__law_pick : GFn ⟨K, mg, nm⟩ Pg w base 1 "_law_pick" 2 [] c__law_pick) {c__law_piece : FX} (F__law_piece : GFn ⟨K, mg, nm⟩ Pg w base 3 "_law_piece" 1 [] c__law_piece) : Bod ⟨K, mg, nm⟩ Pg w base 3 N__law_whole_text "_law_whole_text" (defScope s__law_whole_text) f (defBody s__law_whole_text) (t__law_whole_text c__law_is_token c__law_pick c__law_piece) := fun cdv A outer s H E hr hgd tk => by
  have hu : (A.deeper (envOfC "_law_whole_text" (defScope s__law_whole_text) s.heap.objs.size f cdv)).units + 100 < cLine := by have := hr.un; omega
  exact (dss_cons (ds_setLcV 1 (vs := [6]) (own := [("k", 6)]) rfl sc__law_whole_text.nd (di_range1 (fs.f_range) (da_cons (de_callF [false, true] F__law_pick hr hgd tk (da_cons (de_var 0) (da_cons de_int da_nil))) da_nil)) (blkOk_by (by show blkC N__law_whole_text (defScope s__law_whole_text) _ _ = true; decide +kernel)) (sw_true rfl rfl rfl rfl) rfl rfl rfl (fun _ _ _ _ _ => (dgw_name 6 sc__law_whole_text.nd)) (fun _ _ _ _ _ => dts_nil) (fun _ _ _ _ _ => (de_callF [false] F__law_piece hr hgd takes_W0 (da_cons (de_var 0) da_nil)))) (dss_cons (ds_if (dt_eq hu (de_callF [false, true] F__law_pick hr hgd tk (da_cons (de_var 0) (da_cons de_int da_nil))) de_int) (dss_one (ds_ret (de_join (de_strL []) (da_cons (de_var 1) da_nil)))) dss_nil) (dss_cons (ds_set 2 (de_strL []) sc__law_whole_text.nd) (dss_cons (ds_for (passes_of rfl) rfl (di_seq (de_var 1)) (dg_name 3 sc__law_whole_text.nd) (dss_cons (ds_set 4 (de_or (de_eq hu (de_stripC (de_var 3) (da_cons (de_strL [32, 10]) da_nil)) (de_strL [])) (de_or (de_in hu (de_var 3) (de_kon (d := .lst [.str [61], .str [59], .str [44], .str [91], .str [93]]) (de_lsV (da_cons (de_strL [61]) (da_cons (de_strL [59]) (da_cons (de_strL [44]) (da_cons (de_strL [91]) (da_cons (de_strL [93]) da_nil)))))) fun _ _ _ h => ⟨small_line (by decide), _, rfl, h⟩)) (de_one (de_and (de_callF [true] F__law_is_token hr hgd tk (da_cons (de_var 3) da_nil)) (de_and (de_isalnum (de_var 3)) (de_one (de_nin hu (de_ix (de_var 3) de_int) (de_strL [65, 90])))))))) sc__law_whole_text.nd) (dss_cons (ds_set 5 (de_and (de_ne hu (de_var 2) (de_strL [])) (de_and (de_isalnum (de_ix (de_var 2) (de_neg de_int))) (de_one (de_isalnum (de_ix (de_var 3) de_int))))) sc__law_whole_text.nd) (dss_one (ds_if (dt_tru (de_var 4)) (dss_one (ds_set 2 (de_add (de_add (de_var 2) (de_if (dt_tru (de_var 5)) (de_strL [32]) (de_strL []))) (de_var 3)) sc__law_whole_text.nd)) dss_nil))))) (dss_one (ds_ret (de_var 2)))))))
abbrev N__law_is_token : List Str := ["run", "figures", "sign"]
theorem sc__law_is_token : FnScope N__law_is_token ["run"] (defScope s__law_is_token) := ⟨rfl, rfl, rfl, by decide +kernel, rfl, by decide +kernel, by decide +kernel⟩
def t__law_is_token_1  : EX := (eVar 2)
def t__law_is_token  : SX := (sSeq (sIf (tVal (op2 igtX (eB lenX (aCons (eVar 0) aNil)) (eD (.int 12)))) (sRet (eD (.bl false))) sNext) (sSeq (sAsg (eFz (eLc (iSeq (eVar 0)) (gNm 2) (tVal (op2 (inX false) (eVar 2) (eD (.str [48, 49, 50, 51, 52, 53, 54, 55, 56, 57])))) (t__law_is_token_1 ) [2])) (gNm 1)) (sSeq (sIf (tVal (op2 (eqX false) (eVar 1) (eD (.lst [])))) (sRet (eD (.bl true))) sNext) (sRet (eAnd (op2 (eqX false) (eB lenX (aCons (eVar 1) aNil)) (eB lenX (aCons (eVar 0) aNil))) (eOr (op2 (eqX false) (eVar 0) (eD (.str [48]))) (op2 (eqX true) (op2 ixX (eVar 0) (eD (.int 0))) (eD (.str [48])))))))))
theorem b__law_is_token {K : PySem.W.Frag} {mg : Str → Option Value} {Pg : Program} {w : World} {base : Heap} {f : Addr} (fs : Fs ⟨K, mg, nm⟩)  : Bod ⟨K, mg, nm⟩ Pg w base 0 N__law_is_token "_law_is_token" (defScope s__law_is_token) f (defBody s__law_is_token) (t__law_is_token ) := fun cdv A outer s H E hr hgd tk => by
  have hu : (A.deeper (envOfC "_law_is_token" (defScope s__law_is_token) s.heap.objs.size f cdv)).units + 100 < cLine := by have := hr.un; omega
  exact (dss_cons (ds_if (dt_cmp op_gt ad_gt (de_len (fs.f_len) (da_cons (de_var 0) da_nil)) de_int) (dss_one (ds_ret de_bl)) dss_nil) (dss_cons (ds_setLcV 1 (vs := [2]) (own := [("sign", 2)]) rfl sc__law_is_token.nd (di_seq (de_var 0)) (blkOk_by (by show blkC N__law_is_token (defScope s__law_is_token) _ _ = true; decide +kernel)) (sw_true rfl rfl rfl rfl) rfl rfl rfl (fun _ _ _ _ _ => (dgw_name 2 sc__law_is_token.nd)) (fun _ _ _ _ _ => (dts_one (dt_in hu (de_var 2) (de_strL [48, 49, 50, 51, 52, 53, 54, 55, 56, 57])))) (fun _ _ _ _ _ => (de_var 2))) (dss_cons (ds_if (dt_eq hu (de_var 1) (de_kon (d := .lst []) (de_lsV da_nil) fun _ _ _ h => ⟨small_line (by decide), _, rfl, h⟩)) (dss_one (ds_ret de_bl)) dss_nil) (dss_one (ds_ret (de_and (de_eq hu (de_len (fs.f_len) (da_cons (de_var 1) da_nil)) (de_len (fs.f_len) (da_cons (de_var 0) da_nil))) (de_one (de_or (de_eq hu (de_var 0) (de_strL [48])) (de_one (de_ne hu (de_ix (de_var 0) de_int) (de_strL [48])))))))))))
abbrev N__law_cut : List Str := ["text", "found", "run", "begin", "place", "sign"]
theorem sc__law_cut : FnScope N__law_cut ["text"] (defScope s__law_cut) := ⟨rfl, rfl, rfl, by decide +kernel, rfl, by decide +kernel, by decide +kernel⟩
def t__law_cut_1 (c__law_is_token : FX) : SX := (sSeq (sIf (tVal (op2 (inX false) (eVar 5) (eD (.str [97, 98, 99, 100, 101, 102, 103, 104, 105, 106, 107, 108, 109, 110, 111, 112, 113, 114, 115, 116, 117, 118, 119, 120, 121, 122, 48, 49, 50, 51, 52, 53, 54, 55, 56, 57])))) (sSeq (sAsg (eIf (tVal (op2 (eqX false) (eVar 2) (eD (.str [])))) (eVar 4) (eVar 3)) (gNm 3)) (sSeq (sAsg (op2 addX (eVar 2) (eVar 5)) (gNm 2)) sCont)) sNext) (sSeq (sIf (tVal (op2 (eqX true) (eVar 2) (eD (.str [])))) (sSeq (sIf (tNotX (tTru (eCall [true] [] c__law_is_token (aCons (eVar 2) aNil)))) (sRet (eVar 3)) sNext) (sSeq (sDrop (eM tyLs appX (eVar 1) (aCons (eVar 2) aNil))) (sAsg (eD (.str [])) (gNm 2)))) sNext) (sIf (tVal (op2 (inX false) (eVar 5) (eD (.str [61, 59, 44, 91, 93])))) (sDrop (eM tyLs appX (eVar 1) (aCons (eVar 5) aNil))) (sIf (tVal (op2 (inX true) (eVar 5) (eD (.str [32, 10])))) (sRet (eVar 4)) sNext))))
def t__law_cut (c__law_is_token : FX) : SX := (sSeq (sPar3 1 2 3 (aCons (eLst aNil) (aCons (eD (.str [])) (aCons (eD (.int 0)) aNil)))) (sSeq (sFor (iEn (aCons (op2 addX (eVar 0) (eD (.str [32]))) aNil)) (gTp 2 (gsCons (gNm 4) (gsCons (gNm 5) gsNil))) (t__law_cut_1 c__law_is_token)) (sRet (eVar 1))))
theorem b__law_cut {K : PySem.W.Frag} {mg : Str → Option Value} {Pg : Program} {w : World} {base : Heap} {f : Addr} (fs : Fs ⟨K, mg, nm⟩) {c__law_is_token : FX} (F__law_is_token : GFn ⟨K, mg, nm⟩ Pg w base 1 "_law_is_token" 1 [] c__law_is_token) : Bod ⟨K, mg, nm⟩ Pg w base 1 N__law_cut "_law_cut" (defScope s__law_cut) f (defBody s__law_cut) (t__law_cut c__law_is_token) := fun cdv A outer s H E hr hgd tk => by
  have hu : (A.deeper (envOfC "_law_cut" (defScope s__law_cut) s.heap.objs.size f cdv)).units + 100 < cLine := by have := hr.un; omega
  exact (dss_cons (ds_par3 1 2 3 rfl sc__law_cut.nd (da_cons (de_lst da_nil) (da_cons (de_strL []) (da_cons de_int da_nil)))) (dss_cons (ds_for (passes_of rfl) rfl (di_enum (fs.f_enumerate) (da_cons (de_add (de_var 0) (de_strL [32])) da_nil)) (dg_tup rfl (dgs_cons (dg_name 4 sc__law_cut.nd) (dgs_cons (dg_name 5 sc__law_cut.nd) dgs_nil))) (dss_cons (ds_if (dt_in hu (de_var 5) (de_strL [97, 98, 99, 100, 101, 102, 103, 104, 105, 106, 107, 108, 109, 110, 111, 112, 113, 114, 115, 116, 117, 118, 119, 120, 121, 122, 48, 49, 50, 51, 52, 53, 54, 55, 56, 57])) (dss_cons (ds_set 3 (de_if (dt_eq hu (de_var 2) (de_strL [])) (de_var 4) (de_var 3)) sc__law_cut.nd) (dss_cons (ds_set 2 (de_add (de_var 2) (de_var 5)) sc__law_cut.nd) (dss_one ds_cont))) dss_nil) (dss_cons (ds_if (dt_ne hu (de_var 2) (de_strL [])) (dss_cons (ds_if (dt_not (dt_tru (de_callF [true] F__law_is_token hr hgd tk (da_cons (de_var 2) da_nil)))) (dss_one (ds_ret (de_var 3))) dss_nil) (dss_cons (ds_expr (de_append (de_var 1) (da_cons (de_var 2) da_nil))) (dss_one (ds_set 2 (de_strL []) sc__law_cut.nd)))) dss_nil) (dss_one (ds_if (dt_in hu (de_var 5) (de_strL [61, 59, 44, 91, 93])) (dss_one (ds_expr (de_append (de_var 1) (da_cons (de_var 5) da_nil)))) (dss_one (ds_if (dt_nin hu (de_var 5) (de_strL [32, 10])) (dss_one (ds_ret (de_var 4))) dss_nil))))))) (dss_one (ds_ret (de_var 1)))))
abbrev N__law_told : List Str := ["text", "e"]
theorem sc__law_told : FnScope N__law_told ["text"] (defScope s__law_told) := ⟨rfl, rfl, rfl, by decide +kernel, rfl, by decide +kernel, by decide +kernel⟩
def t__law_told (T : Cn) (c_tokens : FX) : SX := (sTryAs T 1 isA_BadText (sRet (eCall [true] [] c_tokens (aCons (eVar 0) aNil))) (fun a cls d => (sRet (eXf T a cls d [101] 300 (eVar 1)))))
theorem b__law_told {K : PySem.W.Frag} {mg : Str → Option Value} {Pg : Program} {w : World} {base : Heap} {f : Addr} (fs : Fs ⟨K, mg, nm⟩) {c_tokens : FX} (F_tokens : GFn ⟨K, mg, nm⟩ Pg w base 4 "tokens" 1 [] c_tokens) : Bod ⟨K, mg, nm⟩ Pg w base 4 N__law_told "_law_told" (defScope s__law_told) f (defBody s__law_told) (t__law_told ⟨K, mg, nm⟩ c_tokens) := fun cdv A outer s H E hr hgd tk => by
  have hu : (A.deeper (envOfC "_law_told" (defScope s__law_told) s.heap.objs.size f cdv)).units + 100 < cLine := by have := hr.un; omega
  exact (dss_one (ds_tryAs 1 (isA := isA_BadText) sc__law_told.nd ⟨rfl, by decide, .inl fs.g_BadText⟩ tk fs.x_BadText (fun _ _ _ tk2 hp2 => (dss_one (ds_ret (de_callF [true] F_tokens hr hgd tk2 (da_cons (de_var 0) da_nil))))) (fun a oe cls d pn hz hf => (dss_one (ds_ret (de_xf hz hf (fs.xf_at) (de_var 1)))))))
abbrev N__law_glued : List Str := ["pool", "file", "made", "plain", "one"]
theorem sc__law_glued : FnScope N__law_glued ["pool", "file"] (defScope s__law_glued) := ⟨rfl, rfl, rfl, by decide +kernel, rfl, by decide +kernel, by decide +kernel⟩
def t__law_glued_1 (c__law_pick : FX) : SX := (sSeq (sIf (tAndX (tVal (op2 (eqX true) (eVar 2) (eD (.str [])))) (tAndX (tVal (op2 (inX false) (op2 ixX (eVar 2) (eNeg (eD (.int 1)))) (eVar 3))) (tVal (op2 (inX false) (op2 ixX (eVar 4) (eD (.int 0))) (eVar 3))))) (sAsg (op2 addX (eVar 2) (op2 ixX (eD (.lst [.str [32], .str [10], .str [32, 32]])) (eCall [false, true] [] c__law_pick (aCons (eVar 0) (aCons (eD (.int 3)) aNil))))) (gNm 2)) (sIf (tVal (op2 (eqX false) (eCall [false, true] [] c__law_pick (aCons (eVar 0) (aCons (eD (.int 2)) aNil))) (eD (.int 0)))) (sAsg (op2 addX (eVar 2) (op2 ixX (eD (.lst [.str [32], .str [10]])) (eCall [false, true] [] c__law_pick (aCons (eVar 0) (aCons (eD (.int 2)) aNil))))) (gNm 2)) sNext)) (sAsg (op2 addX (eVar 2) (eVar 4)) (gNm 2)))
def t__law_glued (c__law_pick : FX) : SX := (sSeq (sAsg (eD (.str [])) (gNm 2)) (sSeq (sAsg (eD (.str [97, 98, 99, 100, 101, 102, 103, 104, 105, 106, 107, 108, 109, 110, 111, 112, 113, 114, 115, 116, 117, 118, 119, 120, 121, 122, 48, 49, 50, 51, 52, 53, 54, 55, 56, 57])) (gNm 3)) (sSeq (sFor (iSeq (eVar 1)) (gNm 4) (t__law_glued_1 c__law_pick)) (sRet (op2 addX (eVar 2) (op2 ixX (eD (.lst [.str [], .str [32], .str [10]])) (eCall [false, true] [] c__law_pick (aCons (eVar 0) (aCons (eD (.int 3)) aNil)))))))))
theorem b__law_glued {K : PySem.W.Frag} {mg : Str → Option Value} {Pg : Program} {w : World} {base : Heap} {f : Addr} (fs : Fs ⟨K, mg, nm⟩) {c__law_pick : FX} (F__law_pick : GFn ⟨K, mg, nm⟩ Pg w base 1 "_law_pick" 2 [] c__law_pick) : Bod ⟨K, mg, nm⟩ Pg w base 1 N__law_glued "_law_glued" (defScope s__law_glued) f (defBody s__law_glued) (t__law_glued c__law_pick) := fun cdv A outer s H E hr hgd tk => by
  have hu : (A.deeper (envOfC "_law_glued" (defScope s__law_glued) s.heap.objs.size f cdv)).units + 100 < cLine := by have := hr.un; omega
  exact (dss_cons (ds_set 2 (de_strL []) sc__law_glued.nd) (dss_cons (ds_set 3 (de_strL [97, 98, 99, 100, 101, 102, 103, 104, 105, 106, 107, 108, 109, 110, 111, 112, 113, 114, 115, 116, 117, 118, 119, 120, 121, 122, 48, 49, 50, 51, 52, 53, 54, 55, 56, 57]) sc__law_glued.nd) (dss_cons (ds_for (passes_of rfl) rfl (di_seq (de_var 1)) (dg_name 4 sc__law_glued.nd) (dss_cons (ds_if (DW.dt (dw_and (dt_ne hu (de_var 2) (de_strL [])) (dw_and (dt_in hu (de_ix (de_var 2) (de_neg de_int)) (de_var 3)) (dw_and1 (dt_in hu (de_ix (de_var 4) de_int) (de_var 3)))))) (dss_one (ds_set 2 (de_add (de_var 2) (de_ix (de_kon (d := .lst [.str [32], .str [10], .str [32, 32]]) (de_lsV (da_cons (de_strL [32]) (da_cons (de_strL [10]) (da_cons (de_strL [32, 32]) da_nil)))) fun _ _ _ h => ⟨small_line (by decide), _, rfl, h⟩) (de_callF [false, true] F__law_pick hr hgd tk (da_cons (de_var 0) (da_cons de_int da_nil))))) sc__law_glued.nd)) (dss_one (ds_if (dt_eq hu (de_callF [false, true] F__law_pick hr hgd tk (da_cons (de_var 0) (da_cons de_int da_nil))) de_int) (dss_one (ds_set 2 (de_add (de_var 2) (de_ix (de_kon (d := .lst [.str [32], .str [10]]) (de_lsV (da_cons (de_strL [32]) (da_cons (de_strL [10]) da_nil))) fun _ _ _ h => ⟨small_line (by decide), _, rfl, h⟩) (de_callF [false, true] F__law_pick hr hgd tk (da_cons (de_var 0) (da_cons de_int da_nil))))) sc__law_glued.nd)) dss_nil))) (dss_one (ds_set 2 (de_add (de_var 2) (de_var 4)) sc__law_glued.nd)))) (dss_one (ds_ret (de_add (de_var 2) (de_ix (de_kon (d := .lst [.str [], .str [32], .str [10]]) (de_lsV (da_cons (de_strL []) (da_cons (de_strL [32]) (da_cons (de_strL [10]) da_nil)))) fun _ _ _ h => ⟨small_line (by decide), _, rfl, h⟩) (de_callF [false, true] F__law_pick hr hgd tk (da_cons (de_var 0) (da_cons de_int da_nil))))))))))
abbrev N__law_same : List Str := ["told", "due"]
theorem sc__law_same : FnScope N__law_same ["told", "due"] (defScope s__law_same) := ⟨rfl, rfl, rfl, by decide +kernel, rfl, by decide +kernel, by decide +kernel⟩
def t__law_same  : SX := (sRet (op2 (eqX false) (eB reprX (aCons (eVar 0) aNil)) (eB reprX (aCons (eVar 1) aNil))))
theorem b__law_same {K : PySem.W.Frag} {mg : Str → Option Value} {Pg : Program} {w : World} {base : Heap} {f : Addr} (fs : Fs ⟨K, mg, nm⟩)  : Bod ⟨K, mg, nm⟩ Pg w base 0 N__law_same "_law_same" (defScope s__law_same) f (defBody s__law_same) (t__law_same ) := fun cdv A outer s H E hr hgd tk => by
  have hu : (A.deeper (envOfC "_law_same" (defScope s__law_same) s.heap.objs.size f cdv)).units + 100 < cLine := by have := hr.un; omega
  exact (dss_one (ds_ret (de_eq hu (de_repr (x := .Constant .none 0 ⟨0, 0, 0, 0⟩) hu hgd (fs.f_repr) (da_cons (de_var 0) da_nil)) (de_repr (x := .Constant .none 0 ⟨0, 0, 0, 0⟩) hu hgd (fs.f_repr) (da_cons (de_var 1) da_nil)))))
abbrev N_law : List Str := ["script", "place", "e", "pool", "text", "due", "runs", "file", "run", "kept", "told", "k"]
theorem sc_law : FnScope N_law ["script"] (defScope s_law) := ⟨rfl, rfl, rfl, by decide +kernel, rfl, by decide +kernel, by decide +kernel⟩
def t_law_1 (T : Cn) (c_tokens : FX) (c__law_same : FX) (c__law_told : FX) (c_text_of : FX) (c__law_glued : FX) (c__law_pick : FX) (c__law_run : FX) (c__law_is_token : FX) (c__law_cut : FX) (c__law_whole_text : FX) (c__law_pool : FX) : SX := (sAsg (eFz (op2 addX (eFz (op2 addX (eVar 7) (eLsV (aCons (eVar 8) aNil)))) (op2 ixX (eD (.lst [.lst [], .lst [.str [61]], .lst [.str [59]], .lst [.str [91]], .lst [.str [93]], .lst [.str [44]]])) (eCall [false, true] [] c__law_pick (aCons (eVar 3) (aCons (eD (.int 6)) aNil)))))) (gNm 7))
def t_law_2 (T : Cn) (c_tokens : FX) (c__law_same : FX) (c__law_told : FX) (c_text_of : FX) (c__law_glued : FX) (c__law_pick : FX) (c__law_run : FX) (c__law_is_token : FX) (c__law_cut : FX) (c__law_whole_text : FX) (c__law_pool : FX) : EX := (eCall [false] [] c__law_run (aCons (eVar 3) aNil))
def t_law_3 (T : Cn) (c_tokens : FX) (c__law_same : FX) (c__law_told : FX) (c_text_of : FX) (c__law_glued : FX) (c__law_pick : FX) (c__law_run : FX) (c__law_is_token : FX) (c__law_cut : FX) (c__law_whole_text : FX) (c__law_pool : FX) : EX := (eVar 8)
def t_law_4 (T : Cn) (c_tokens : FX) (c__law_same : FX) (c__law_told : FX) (c_text_of : FX) (c__law_glued : FX) (c__law_pick : FX) (c__law_run : FX) (c__law_is_token : FX) (c__law_cut : FX) (c__law_whole_text : FX) (c__law_pool : FX) : SX := (sSeq (sAsg (eCall [true, true] [] c__law_pool (aCons (eVar 0) (aCons (eVar 1) aNil))) (gNm 3)) (sSeq (sAsg (eCall [false] [] c__law_whole_text (aCons (eVar 3) aNil)) (gNm 4)) (sSeq (sAsg (eCall [true] [] c__law_cut (aCons (eVar 4) aNil)) (gNm 5)) (sSeq (sIf (tOrX (tNotX (tTru (eCall [true, true] [] c__law_same (aCons (eFz (eCall [true] [] c__law_told (aCons (eVar 4) aNil))) (aCons (eVar 5) aNil))))) (tNotX (tTru (eCall [true, true] [] c__law_same (aCons (eFz (eCall [true] [] c__law_told (aCons (eVar 4) aNil))) (aCons (eVar 5) aNil)))))) (sRet (eD (.bl false))) sNext) (sSeq (sAsg (eFz (eLc (iSeq (eFz (eLc (iR1 (aCons (eCall [false, true] [] c__law_pick (aCons (eVar 3) (aCons (eD (.int 25)) aNil))) aNil)) (gNm 11) tYesX (t_law_2 T c_tokens c__law_same c__law_told c_text_of c__law_glued c__law_pick c__law_run c__law_is_token c__law_cut c__law_whole_text c__law_pool) [11]))) (gNm 8) (tTru (eCall [true] [] c__law_is_token (aCons (eVar 8) aNil))) (t_law_3 T c_tokens c__law_same c__law_told c_text_of c__law_glued c__law_pick c__law_run c__law_is_token c__law_cut c__law_whole_text c__law_pool) [8])) (gNm 6)) (sSeq (sAsg (eD (.lst [])) (gNm 7)) (sSeq (sFor (iSeq (eVar 6)) (gNm 8) (t_law_1 T c_tokens c__law_same c__law_told c_text_of c__law_glued c__law_pick c__law_run c__law_is_token c__law_cut c__law_whole_text c__law_pool)) (sSeq (sAsg (eFz (eB listX (aCons (eVar 7) aNil))) (gNm 9)) (sSeq (sIf (tOrX (tNotX (tTru (eCall [true, true] [] c__law_same (aCons (eCall [true] [] c_text_of (aCons (eVar 7) aNil)) (aCons (eM tyStr joinX (eD (.str [32])) (aCons (eVar 9) aNil)) aNil))))) (tNotX (tTru (eCall [true, true] [] c__law_same (aCons (eFz (eCall [true] [] c__law_told (aCons (eCall [true] [] c_text_of (aCons (eVar 7) aNil)) aNil))) (aCons (eVar 9) aNil)))))) (sRet (eD (.bl false))) sNext) (sSeq (sAsg (eCall [true] [] c__law_told (aCons (eCall [false, true] [] c__law_glued (aCons (eVar 3) (aCons (eVar 9) aNil))) aNil)) (gNm 10)) (sSeq (sIf (tOrX (tNotX (tTru (eCall [false, true] [] c__law_same (aCons (eVar 10) (aCons (eVar 9) aNil))))) (tOrX (tVal (op2 (eqX true) (eVar 7) (eVar 9))) (tVal (op2 (eqX true) (eCall [true] [] c_text_of (aCons (eD (.lst [])) aNil)) (eD (.str [])))))) (sRet (eD (.bl false))) sNext) (sSeq (sDrop (eM tyLs appX (eVar 10) (aCons (eD (.str [120])) aNil))) (sIf (tNotX (tTru (eCall [true, true] [] c__law_same (aCons (eFz (eCall [true] [] c__law_told (aCons (eCall [true] [] c_text_of (aCons (eVar 7) aNil)) aNil))) (aCons (eVar 9) aNil))))) (sRet (eD (.bl false))) sNext)))))))))))))
def t_law (T : Cn) (c_tokens : FX) (c__law_same : FX) (c__law_told : FX) (c_text_of : FX) (c__law_glued : FX) (c__law_pick : FX) (c__law_run : FX) (c__law_is_token : FX) (c__law_cut : FX) (c__law_whole_text : FX) (c__law_pool : FX) : SX := (sSeq (sFor (iR1 (aCons (eD (.int 4)) aNil)) (gNm 1) (sFr [1, 3, 4, 5, 6, 7, 8, 9, 10, 11] (t_law_4 T c_tokens c__law_same c__law_told c_text_of c__law_glued c__law_pick c__law_run c__law_is_token c__law_cut c__law_whole_text c__law_pool))) (sSeq (sTryAs T 2 isA_SettingsError (sDrop (eCall [true] [] c_tokens (aCons (eD (.str [97, 32, 61, 32, 48, 49])) aNil))) (fun a cls d => (sRet (eAnd (eXi T a cls d ans_BadText (eVar 2)) (op2 (eqX false) (eXf T a cls d [101] 300 (eVar 2)) (eD (.int 4))))))) (sRet (eD (.bl false)))))
theorem b_law {K : PySem.W.Frag} {mg : Str → Option Value} {Pg : Program} {w : World} {base : Heap} {f : Addr} (fs : Fs ⟨K, mg, nm⟩) {c_tokens : FX} (F_tokens : GFn ⟨K, mg, nm⟩ Pg w base 4 "tokens" 1 [] c_tokens) {c__law_same : FX} (F__law_same : GFn ⟨K, mg, nm⟩ Pg w base 1 "_law_same" 2 [] c__law_same) {c__law_told : FX} (F__law_told : GFn ⟨K, mg, nm⟩ Pg w base 5 "_law_told" 1 [] c__law_told) {c_text_of : FX} (F_text_of : GFn ⟨K, mg, nm⟩ Pg w base 1 "text_of" 1 [] c_text_of) {c__law_glued : FX} (F__law_glued : GFn ⟨K, mg, nm⟩ Pg w base 2 "_law_glued" 2 [] c__law_glued) {c__law_pick : FX} (F__law_pick : GFn ⟨K, mg, nm⟩ Pg w base 1 "_law_pick" 2 [] c__law_pick) {c__law_run : FX} (F__law_run : GFn ⟨K, mg, nm⟩ Pg w base 2 "_law_run" 1 [] c__law_run) {c__law_is_token : FX} (F__law_is_token : GFn ⟨K, mg, nm⟩ Pg w base 1 "_law_is_token" 1 [] c__law_is_token) {c__law_cut : FX} (F__law_cut : GFn ⟨K, mg, nm⟩ Pg w base 2 "_law_cut" 1 [] c__law_cut) {c__law_whole_text : FX} (F__law_whole_text : GFn ⟨K, mg, nm⟩ Pg w base 4 "_law_whole_text" 1 [] c__law_whole_text) {c__law_pool : FX} (F__law_pool : GFn ⟨K, mg, nm⟩ Pg w base 1 "_law_pool" 2 [] c__law_pool) : Bod ⟨K, mg, nm⟩ Pg w base 5 N_law "law" (defScope s_law) f (defBody s_law) (t_law ⟨K, mg, nm⟩ c_tokens c__law_same c__law_told c_text_of c__law_glued c__law_pick c__law_run c__law_is_token c__law_cut c__law_whole_text c__law_pool) := fun cdv A outer s H E hr hgd tk => by
  have hu : (A.deeper (envOfC "law" (defScope s_law) s.heap.objs.size f cdv)).units + 100 < cLine := by have := hr.un; omega
  exact (dss_cons (ds_for (passes_of rfl) rfl (di_range1 (fs.f_range) (da_cons de_int da_nil)) (dg_name 1 sc_law.nd) (dss_fr [1, 3, 4, 5, 6, 7, 8, 9, 10, 11] (dss_cons (ds_set 3 (de_callF [true, true] F__law_pool hr hgd tk (da_cons (de_var 0) (da_cons (de_var 1) da_nil))) sc_law.nd) (dss_cons (ds_set 4 (de_callF [false] F__law_whole_text hr hgd tk (da_cons (de_var 3) da_nil)) sc_law.nd) (dss_cons (ds_set 5 (de_callF [true] F__law_cut hr hgd tk (da_cons (de_var 4) da_nil)) sc_law.nd) (dss_cons (ds_if (DW.dt (dw_or (dt_not (dt_tru (de_callF [true, true] F__law_same hr hgd tk (da_cons (de_fz (de_callF [true] F__law_told hr hgd tk (da_cons (de_var 4) da_nil))) (da_cons (de_var 5) da_nil))))) (dw_or1 (dt_not (dt_tru (de_callF [true, true] F__law_same hr hgd tk (da_cons (de_fz (de_callF [true] F__law_told hr hgd tk (da_cons (de_var 4) da_nil))) (da_cons (de_var 5) da_nil)))))))) (dss_one (ds_ret de_bl)) dss_nil) (dss_cons (ds_setLcV 6 (vs := [8]) (own := [("run", 8)]) rfl sc_law.nd (di_seq (de_fz (de_lc (vs := [11]) (own := [("k", 11)]) rfl sc_law.nd (di_range1 (fs.f_range) (da_cons (de_callF [false, true] F__law_pick hr hgd tk (da_cons (de_var 3) (da_cons de_int da_nil))) da_nil)) (blkOk_by (by show blkC N_law (defScope s_law) _ _ = true; decide +kernel)) rfl (fun _ _ _ _ _ => (dgw_name 11 sc_law.nd)) (fun _ _ _ _ _ => dts_nil) (fun _ _ _ _ _ => (de_callF [false] F__law_run hr hgd takes_W0 (da_cons (de_var 3) da_nil)))))) (blkOk_by (by show blkC N_law (defScope s_law) _ _ = true; decide +kernel)) (sw_true rfl rfl rfl rfl) rfl rfl rfl (fun _ _ _ _ _ => (dgw_name 8 sc_law.nd)) (fun _ _ _ _ _ => (dts_one (dt_tru (de_callF [true] F__law_is_token hr hgd takes_W0 (da_cons (de_var 8) da_nil))))) (fun _ _ _ _ _ => (de_var 8))) (dss_cons (ds_set 7 (de_kon (d := .lst []) (de_lsV da_nil) fun _ _ _ h => ⟨small_line (by decide), _, rfl, h⟩) sc_law.nd) (dss_cons (ds_for (passes_of rfl) rfl (di_seq (de_var 6)) (dg_name 8 sc_law.nd) (dss_one (ds_set 7 (de_fz (de_add (de_fz (de_add (de_var 7) (de_lsV (da_cons (de_var 8) da_nil)))) (de_ix (de_kon (d := .lst [.lst [], .lst [.str [61]], .lst [.str [59]], .lst [.str [91]], .lst [.str [93]], .lst [.str [44]]]) (de_lsV (da_cons (de_kon (d := .lst []) (de_lsV da_nil) fun _ _ _ h => ⟨small_line (by decide), _, rfl, h⟩) (da_cons (de_kon (d := .lst [.str [61]]) (de_lsV (da_cons (de_strL [61]) da_nil)) fun _ _ _ h => ⟨small_line (by decide), _, rfl, h⟩) (da_cons (de_kon (d := .lst [.str [59]]) (de_lsV (da_cons (de_strL [59]) da_nil)) fun _ _ _ h => ⟨small_line (by decide), _, rfl, h⟩) (da_cons (de_kon (d := .lst [.str [91]]) (de_lsV (da_cons (de_strL [91]) da_nil)) fun _ _ _ h => ⟨small_line (by decide), _, rfl, h⟩) (da_cons (de_kon (d := .lst [.str [93]]) (de_lsV (da_cons (de_strL [93]) da_nil)) fun _ _ _ h => ⟨small_line (by decide), _, rfl, h⟩) (da_cons (de_kon (d := .lst [.str [44]]) (de_lsV (da_cons (de_strL [44]) da_nil)) fun _ _ _ h => ⟨small_line (by decide), _, rfl, h⟩) da_nil))))))) fun _ _ _ h => ⟨small_line (by decide), _, rfl, h⟩) (de_callF [false, true] F__law_pick hr hgd tk (da_cons (de_var 3) (da_cons de_int da_nil)))))) sc_law.nd))) (dss_cons (ds_set 9 (de_fz (de_list (fs.f_list) (da_cons (de_var 7) da_nil))) sc_law.nd) (dss_cons (ds_if (DW.dt (dw_or (dt_not (dt_tru (de_callF [true, true] F__law_same hr hgd tk (da_cons (de_callF [true] F_text_of hr hgd tk (da_cons (de_var 7) da_nil)) (da_cons (de_join (de_strL [32]) (da_cons (de_var 9) da_nil)) da_nil))))) (dw_or1 (dt_not (dt_tru (de_callF [true, true] F__law_same hr hgd tk (da_cons (de_fz (de_callF [true] F__law_told hr hgd tk (da_cons (de_callF [true] F_text_of hr hgd tk (da_cons (de_var 7) da_nil)) da_nil))) (da_cons (de_var 9) da_nil)))))))) (dss_one (ds_ret de_bl)) dss_nil) (dss_cons (ds_set 10 (de_callF [true] F__law_told hr hgd tk (da_cons (de_callF [false, true] F__law_glued hr hgd tk (da_cons (de_var 3) (da_cons (de_var 9) da_nil))) da_nil)) sc_law.nd) (dss_cons (ds_if (DW.dt (dw_or (dt_not (dt_tru (de_callF [false, true] F__law_same hr hgd tk (da_cons (de_var 10) (da_cons (de_var 9) da_nil))))) (dw_or (dt_ne hu (de_var 7) (de_var 9)) (dw_or1 (dt_ne hu (de_callF [true] F_text_of hr hgd tk (da_cons (de_kon (d := .lst []) (de_lsV da_nil) fun _ _ _ h => ⟨small_line (by decide), _, rfl, h⟩) da_nil)) (de_strL [])))))) (dss_one (ds_ret de_bl)) dss_nil) (dss_cons (ds_expr (de_append (de_var 10) (da_cons (de_strL [120]) da_nil))) (dss_one (ds_if (dt_not (dt_tru (de_callF [true, true] F__law_same hr hgd tk (da_cons (de_fz (de_callF [true] F__law_told hr hgd tk (da_cons (de_callF [true] F_text_of hr hgd tk (da_cons (de_var 7) da_nil)) da_nil))) (da_cons (de_var 9) da_nil))))) (dss_one (ds_ret de_bl)) dss_nil)))))))))))))))) (dss_cons (ds_tryAs 2 (isA := isA_SettingsError) sc_law.nd ⟨rfl, by decide, .inl fs.g_SettingsError⟩ tk fs.x_SettingsError (fun _ _ _ tk2 hp2 => (dss_one (ds_expr (de_callF [true] F_tokens hr hgd tk2 (da_cons (de_strL [97, 32, 61, 32, 48, 49]) da_nil))))) (fun a oe cls d pn hz hf => (dss_one (ds_ret (de_and (de_isX hz hf (fs.is_BadText) (de_var 2) (fs.f_isinstance) (fs.g_BadText)) (de_one (de_eq hu (de_xf hz hf (fs.xf_at) (de_var 2)) de_int))))))) (dss_one (ds_ret de_bl))))
-- levels: made_of 1, is_word 2, is_numeral 2, sort_of 3, run_behind 1, tokens 4, text_of 1, _law_pool 1, _law_pick 1, _law_of 2, _law_run 2, _law_piece 3, _law_whole_text 4, _law_is_token 1, _law_cut 2, _law_told 5, _law_glued 2, _law_same 1, law 6
def fn : List He.DefD := [d_made_of, d_is_word, d_is_numeral, d_sort_of, d_run_behind, d_tokens, d_text_of, d__law_pool, d__law_pick, d__law_of, d__law_run, d__law_piece, d__law_whole_text, d__law_is_token, d__law_cut, d__law_told, d__law_glued, d__law_same, d_law, d_init_BadText]
def fa0 : List Fk := [fFree "abs", fFree "enumerate", fFree "int", fFree "isinstance", fFree "len", fFree "list", fFree "range", fFree "repr", fFree "str", fFree "sum", fFa (.str "DIGITS" "0123456789"), fFa (.str "LETTERS" "abcdefghijklmnopqrstuvwxyz"), fFa (.int "LONGEST" 12), fGlo "SIGNS", fTup "SIGNS" [.str "=", .str ";", .str ",", .str "[", .str "]"], fGlo "SettingsError", fGlo "BadText", fExm "SettingsError" "BadText" false, fExm "BadText" "BadText" true, fExm "SettingsError" "SettingsError" true, fExm "BadText" "SettingsError" true, fXf "BadText", fNoat "BadText" "at", fExcC "SettingsError", fKit "SettingsError" "BadText" false, fExcC "BadText", fKit "BadText" "BadText" true, fOex "BadText", fGlo "made_of", fGlo "is_word", fGlo "is_numeral", fGlo "sort_of", fGlo "run_behind", fGlo "tokens", fGlo "text_of", fGlo "_law_pool", fGlo "_law_pick", fGlo "_law_of", fGlo "_law_run", fGlo "_law_piece"]
def fa1 : List Fk := [fGlo "_law_whole_text", fGlo "_law_is_token", fGlo "_law_cut", fGlo "_law_told", fGlo "_law_glued", fGlo "_law_same", fGlo "law"]
def fa : List Fk := fa0 ++ fa1
theorem fs_of {K : PySem.W.Frag} {mg : Str → Option Value} {h : Heap} (X : K.In h) (G : h.Ns mainGlobals mg) (c : SaysF fa fn K) : Fs ⟨K, mg, nm⟩ where
  f_abs := He.free_ok X G (c.fact 0)
  f_enumerate := He.free_ok X G (c.fact 1)
  f_int := He.free_ok X G (c.fact 2)
  f_isinstance := He.free_ok X G (c.fact 3)
  f_len := He.free_ok X G (c.fact 4)
  f_list := He.free_ok X G (c.fact 5)
  f_range := He.free_ok X G (c.fact 6)
  f_repr := He.free_ok X G (c.fact 7)
  f_str := He.free_ok X G (c.fact 8)
  f_sum := He.free_ok X G (c.fact 9)
  c_DIGITS := GC.str (T := ⟨K, mg, nm⟩) X G (c.fact 10)
  c_LETTERS := GC.str (T := ⟨K, mg, nm⟩) X G (c.fact 11)
  c_LONGEST := GC.int (T := ⟨K, mg, nm⟩) X G (c.fact 12)
  c_SIGNS := GC.tup (T := ⟨K, mg, nm⟩) X G (c.fact 13) (c.fact 14) (fun F => RepL.cons (rep_str.mpr rfl) (RepL.cons (rep_str.mpr rfl) (RepL.cons (rep_str.mpr rfl) (RepL.cons (rep_str.mpr rfl) (RepL.cons (rep_str.mpr rfl) (RepL.nil))))))
  g_BadText := He.glo_ok X G (c.fact 16)
  g_SettingsError := He.glo_ok X G (c.fact 15)
  x_BadText := fun z k hk C hC => by
    have hm := mem_look hk
    simp only [List.mem_cons, List.not_mem_nil, or_false, Prod.mk.injEq] at hm
    rcases hm with ⟨rfl, rfl⟩ | ⟨rfl, rfl⟩
    · have e := (He.glo_ok X G (c.fact 15)).symm.trans hC
      cases e
      exact of_decide_eq_true (c.fact 17)
    · have e := (He.glo_ok X G (c.fact 16)).symm.trans hC
      cases e
      exact of_decide_eq_true (c.fact 18)
  x_SettingsError := fun z k hk C hC => by
    have hm := mem_look hk
    simp only [List.mem_cons, List.not_mem_nil, or_false, Prod.mk.injEq] at hm
    rcases hm with ⟨rfl, rfl⟩ | ⟨rfl, rfl⟩
    · have e := (He.glo_ok X G (c.fact 15)).symm.trans hC
      cases e
      exact of_decide_eq_true (c.fact 19)
    · have e := (He.glo_ok X G (c.fact 16)).symm.trans hC
      cases e
      exact of_decide_eq_true (c.fact 20)
  xf_at := fun z hz C hC => by
    simp only [List.mem_cons, List.not_mem_nil, or_false] at hz
    rcases hz with rfl
    · have e := (He.glo_ok X G (c.fact 16)).symm.trans hC
      cases e
      exact ⟨xfB_ok (c.fact 21), He.eqO_ok (c.fact 22)⟩
  is_BadText := fun z b hb C hC => by
    have hm := mem_look hb
    simp only [List.mem_cons, List.not_mem_nil, or_false, Prod.mk.injEq] at hm
    rcases hm with ⟨rfl, rfl⟩ | ⟨rfl, rfl⟩
    · have e := (He.glo_ok X G (c.fact 15)).symm.trans hC
      cases e
      exact ⟨fExcC_ok (c.fact 23), of_decide_eq_true (c.fact 24)⟩
    · have e := (He.glo_ok X G (c.fact 16)).symm.trans hC
      cases e
      exact ⟨fExcC_ok (c.fact 25), of_decide_eq_true (c.fact 26)⟩
theorem sc_init_BadText : FnScope ["self", "at"] ["self", "at"] (defScope s_init_BadText) := ⟨rfl, rfl, rfl, by decide +kernel, rfl, by decide +kernel, by decide +kernel⟩
theorem mk_BadText {K : PySem.W.Frag} {mg : Str → Option Value} {h : Heap} (Pg : Program) (w : World) (base : Heap) (X : K.In h) (G : h.Ns mainGlobals mg) (c : SaysF fa fn K) : ExcK ⟨K, mg, nm⟩ Pg w base 101 [300] := by
  obtain ⟨fd, F⟩ := c.def_ 19 (d := d_init_BadText) rfl
  have O := fOex_ok (c.fact 27)
  exact ExcK.of (T := ⟨K, mg, nm⟩) (ps := ["self", "at"]) X G rfl (c.fact 16) (c.fact 27) F (init1 O.1 (He.eqO_ok (c.fact 22)) F sc_init_BadText rfl rfl fun cdv A outer s H E => (pss_one (ps_ost (pe_var (i := 0) rfl (.inl rfl) (by decide) (by decide)) (pe_var (i := 1) rfl (.inl rfl) (by decide) (by decide))))) (show (List.map nm [300]).Nodup by decide +kernel) (fun _ _ _ _ _ _ us hl => match us, hl with | [_, _], _ => rfl)
abbrev R : PySem.W.OpenRow := PySem.W.OpenLaw.row PySem.Challenge.rw_slipreach_k00_texts_cut_into_tokens
abbrev hk : PySem.W.Hook := hookF 4 fa fn
def ob (s : PySem.W.SharedT) : He.AlD := obsFG 4 fa fn (HandSHeadRun.getT s)
theorem ob_eq (s : PySem.W.SharedT) : ob s = hk.obs s.abs := obsFG_eq (HandSHeadRun.getT_eq s)
def loose : List PySem.Str := ["__name__", "SettingsError", "BadText", "SIGNS", "LETTERS", "DIGITS", "LONGEST", "made_of", "is_word", "is_numeral", "sort_of", "run_behind", "tokens", "text_of", "_law_pool", "_law_pick", "_law_of", "_law_run", "_law_piece", "_law_whole_text", "_law_is_token", "_law_cut", "_law_told", "_law_glued", "_law_same"]
theorem run (w : World) : HandSHeadRun.RunEq R (PySem.W.view R.prog [27]) hk ob 4000 loose w := by
  intro os
  kernel_rfl
-- facts: f_abs 0, f_enumerate 1, f_int 2, f_isinstance 3, f_len 4, f_list 5, f_range 6, f_repr 7, f_str 8, f_sum 9, c_DIGITS 10, c_LETTERS 11, c_LONGEST 12, g_SIGNS 13, c_SIGNS 14, xg_SettingsError 15, xg_BadText 16, exm_SettingsError_BadText 17, exm_BadText_BadText 18, exm_SettingsError_SettingsError 19, exm_BadText_SettingsError 20, xfc_BadText 21, noat_BadText_at 22, excc_SettingsError 23, kit_SettingsError_BadText 24, excc_BadText 25, kit_BadText_BadText 26, oex_BadText 27, d_made_of 28, d_is_word 29, d_is_numeral 30, d_sort_of 31, d_run_behind 32, d_tokens 33, d_text_of 34, d__law_pool 35, d__law_pick 36, d__law_of 37, d__law_run 38, d__law_piece 39, d__law_whole_text 40, d__law_is_token 41, d__law_cut 42, d__law_told 43, d__law_glued 44, d__law_same 45, d_law 46
-- defs: made_of 0, is_word 1, is_numeral 2, sort_of 3, run_behind 4, tokens 5, text_of 6, _law_pool 7, _law_pick 8, _law_of 9, _law_run 10, _law_piece 11, _law_whole_text 12, _law_is_token 13, _law_cut 14, _law_told 15, _law_glued 16, _law_same 17, law 18, init_BadText 19
end LW
end
section
set_option Elab.async false
set_option linter.all false
set_option autoImplicit false
set_option maxRecDepth 100000
set_option maxHeartbeats 1000000
namespace LW
open PySem PySem.Spec PyProof.Rows DL
open L2 hiding St start
local macro_rules | `(tactic| array_get_dec) => `(tactic| first
  | with_reducible refine i_seq ?_
  | with_reducible refine i_asg ?_
  | (with_reducible refine i_gNm ?_; dsimp only [List.set])
  | with_reducible refine i_var (by with_unfolding_all exact rfl) ?_
  | with_reducible refine i_d ?_
  | with_reducible refine i_op2 ?_
  | with_reducible refine i_ret ?_
  | with_reducible refine i_sIf ?_
  | with_reducible refine i_val ?_
  | with_reducible refine i_isb ?_
  | with_reducible refine i_cons ?_
  | with_reducible refine i_nil ?_
  | with_reducible refine i_eB ?_
  | with_reducible refine i_call ?_
  | with_reducible refine i_tTru ?_
  | with_reducible refine i_tru (by with_unfolding_all exact rfl) (by with_unfolding_all exact trivial) ?_
  | with_reducible refine i_and ?_
  | with_reducible refine i_or ?_
  | with_reducible refine i_not ?_
  | with_reducible refine i_next ?_
  | with_reducible refine i_eand ?_
  | with_reducible refine i_eor ?_
  | with_reducible refine i_eif ?_
  | with_reducible refine i_enot ?_
  | with_reducible refine i_lt (by with_unfolding_all exact rfl) (by with_unfolding_all exact rfl) ?_
  | with_reducible refine i_le (by with_unfolding_all exact rfl) (by with_unfolding_all exact rfl) ?_
  | with_reducible refine i_gt (by with_unfolding_all exact rfl) (by with_unfolding_all exact rfl) ?_
  | with_reducible refine i_ge (by with_unfolding_all exact rfl) (by with_unfolding_all exact rfl) ?_
  | with_reducible refine i_sub (by with_unfolding_all exact rfl) (by with_unfolding_all exact rfl) ?_
  | with_reducible refine i_addI (by with_unfolding_all exact rfl) (by with_unfolding_all exact rfl) ?_
  | with_reducible refine i_isi ?_
  | with_reducible refine i_isi1 (by with_unfolding_all exact rfl) (by with_unfolding_all exact rfl) ?_
  | with_reducible refine i_chain ?_
  | with_reducible refine i_drop ?_
  | with_reducible refine i_brk ?_
  | with_reducible refine i_cont ?_
  | with_reducible refine i_retN ?_
  | with_reducible refine i_isN ?_
  | with_reducible refine i_notN ?_
  | with_reducible refine i_eLst ?_
  | with_reducible refine i_eTup ?_
  | with_reducible refine i_eM ?_
  | with_reducible refine i_neg ?_
  | with_reducible refine i_neg1 (by with_unfolding_all exact rfl) ?_
  | with_reducible refine i_par2 ?_
  | with_reducible refine i_par33 ?_
  | with_reducible refine i_for ?_
  | with_reducible refine i_iSeq ?_
  | with_reducible refine i_seqI (by with_unfolding_all exact rfl) ?_
  | with_reducible refine i_iR1 ?_
  | with_reducible refine i_iEn ?_
  | with_reducible refine i_eSl ?_
  | with_reducible refine i_pNone ?_
  | with_reducible refine i_pSome ?_
  | with_reducible refine i_int1 (by with_unfolding_all exact rfl) ?_
  | with_reducible refine i_d1 (by with_unfolding_all exact rfl) ?_
  | with_reducible refine i_raise ?_
  | with_reducible refine i_aug (by with_unfolding_all exact rfl) ?_
  | (with_reducible refine i_augI (by with_unfolding_all exact rfl) (by with_unfolding_all exact rfl) ?_; dsimp only [List.set])
  | with_reducible refine i_inC (by with_unfolding_all exact rfl) (by with_unfolding_all exact rfl) ?_
  | with_reducible refine i_ninC (by with_unfolding_all exact rfl) (by with_unfolding_all exact rfl) ?_
  | with_reducible refine i_par ?_
  | with_reducible refine i_par3 ?_
  | with_reducible refine i_gsNil ?_
  | with_reducible refine i_gsCons ?_
  | with_reducible refine i_setIx ?_
  | with_reducible refine i_eLc ?_
  | with_reducible refine i_yes ?_
  | with_reducible refine i_tyS (by with_unfolding_all exact rfl) ?_
  | with_reducible refine i_tyL (by with_unfolding_all exact rfl) ?_
  | with_reducible refine i_lenS (by with_unfolding_all exact rfl) (by rw [sizeLine_eq]; (try simp only [List.length_append, List.length_cons, List.length_nil]); omega) ?_
  | with_reducible refine i_addS (by with_unfolding_all exact rfl) (by with_unfolding_all exact rfl) (by rw [sizeLine_eq]; (try simp only [List.length_append, List.length_cons, List.length_nil]); omega) ?_
  | with_reducible refine i_lenL (by with_unfolding_all exact rfl) ?_
  | with_reducible refine i_intI (by with_unfolding_all exact rfl) ?_
  | with_reducible refine i_abs (by with_unfolding_all exact rfl) ?_
  | with_reducible refine i_list (by with_unfolding_all exact rfl) ?_
  | with_reducible refine c_v (by repeat (first | exact fz_nil | apply fz_v | (apply fz_l; with_unfolding_all exact rfl) | (apply fz_f; with_unfolding_all exact rfl) | apply fz_k)) (by with_unfolding_all exact rfl) ?_
  | with_reducible refine i_lsV ?_
  | with_reducible refine i_exD ?_
  | (with_reducible refine ⟨small_line (by simp only [List.length_cons, List.length_nil]; omega), ?_⟩; simp only [allD, dv_val'])
  | with_reducible refine i_ixL (by with_unfolding_all exact rfl) (by with_unfolding_all exact rfl) (by with_unfolding_all exact rfl) ?_
  | with_reducible refine i_setIx1 (by with_unfolding_all exact rfl) (by with_unfolding_all exact rfl) (by with_unfolding_all exact rfl) (by with_unfolding_all exact rfl) ?_
  | with_reducible refine i_mod (by with_unfolding_all exact rfl) (by with_unfolding_all exact rfl) (by omega) ?_
  | with_reducible refine i_fdiv (by with_unfolding_all exact rfl) (by with_unfolding_all exact rfl) (by omega) (by omega) ?_
  | with_reducible refine i_imul (by with_unfolding_all exact rfl) (by with_unfolding_all exact rfl) (by first | exact cmul_l (by omega) (by omega) | exact cmul_r (by omega) (by omega)) ?_
  | with_reducible refine i_pow (by with_unfolding_all exact rfl) (by with_unfolding_all exact rfl) (cpow (by omega) (by omega) (by omega) (by omega)) ?_
  | with_reducible refine i_sum (by with_unfolding_all exact rfl) ?_
  | with_reducible refine i_rng1 (by omega) (by omega) ?_
  | with_reducible refine i_lcD ?_
  | with_reducible refine i_rt0 ?_
  | with_reducible refine i_nx0 ?_
  | with_reducible refine i_xc0 ?_
  | with_reducible refine fin_d ?_
  | with_reducible refine finX_0 ?_
  | with_reducible refine i_ifT (by with_unfolding_all exact rfl) ?_
  | with_reducible refine i_ifF (by with_unfolding_all exact rfl) ?_
  | with_reducible refine i_iteD (fun _ => ?_) (fun _ => ?_)
  | with_reducible refine i_iteN (fun _ => ?_) (fun _ => ?_)
  | with_reducible refine i_iteNB (fun _ => ?_) (fun _ => ?_)
  | with_reducible refine i_iteB (fun _ => ?_) (fun _ => ?_)
  | with_reducible refine i_fz ?_
  | with_reducible refine i_fr ?_
  | (with_reducible refine i_fzL (by with_unfolding_all exact rfl) (by with_unfolding_all exact rfl) (by with_unfolding_all exact rfl) ?_; dsimp only [List.take, List.set, List.length_nil, List.length_cons, Nat.zero_add, Nat.reduceAdd])
  | (with_reducible refine i_fzLT (by with_unfolding_all exact rfl) (by with_unfolding_all exact rfl) ?_; dsimp only [List.take, List.set, List.length_nil, List.length_cons, Nat.zero_add, Nat.reduceAdd])
  | (with_reducible refine i_fzV (by with_unfolding_all exact rfl) (by with_unfolding_all exact rfl) ?_; dsimp only [List.take, List.set, List.length_nil, List.length_cons, Nat.zero_add, Nat.reduceAdd])
  | (with_reducible refine i_fzVT (by with_unfolding_all exact rfl) ?_; dsimp only [List.take, List.set, List.length_nil, List.length_cons, Nat.zero_add, Nat.reduceAdd]))
/-! what the defs of the package compute -/
def letters : List Nat := [97, 98, 99, 100, 101, 102, 103, 104, 105, 106, 107, 108, 109, 110, 111, 112, 113, 114, 115, 116, 117, 118, 119, 120, 121, 122]
def digits : List Nat := [48, 49, 50, 51, 52, 53, 54, 55, 56, 57]
def madeOf (s g : List Nat) : Bool := (decide (1 ≤ s.length) && decide (s.length ≤ 12)) && s.all fun c => decide (c ∈ g)
def fx_made_of : FX := fun rs ob P _ => ∃ s g, rs = [.val (.str s), .val (.str g)] ∧ ob = [] ∧ s.length ≤ 100000 ∧ P (.val (.bl (madeOf s g))) []
theorem made_loop {Po : Post} {s g : List Nat} : ∀ (l : List Nat) (o : Option RV), (l.all (fun c => decide (c ∈ g)) = true → ∀ o', Po.nx ⟨[some (.val (.str s)), some (.val (.str g)), o'], []⟩) → (l.all (fun c => decide (c ∈ g)) = false → ∀ e, Po.rt (.val (.bl false)) e) →
    forX (gNm 2) t_made_of_1 (fun _ => True) Po (l.map fun c => .val (.str [c])) ⟨[some (.val (.str s)), some (.val (.str g)), o], []⟩
  | [], o, h1, h0 => i_fNil trivial (h1 rfl o)
  | c :: l, o, h1, h0 => by
    rw [List.map_cons]
    refine i_fCons trivial ?_
    refine i_gNm ?_
    dsimp only [List.set]
    unfold t_made_of_1
    repeat' array_get_dec
    · rename_i hc
      exact h0 (by simp [hc]) _
    · rename_i hc
      exact made_loop l _ (fun h => h1 (by simp [hc]; simpa using h)) (fun h => h0 (by simp [hc]; simpa using h))
theorem l_made_of : ∀ rs ob P R, fx_made_of rs ob P R → t_made_of (startE N_made_of.length rs ob) (endP ob.length P R) := by
  rintro rs ob P R ⟨s, g, rfl, rfl, hz, q⟩
  show t_made_of ⟨[some (.val (.str s)), some (.val (.str g)), none], []⟩ (endP 0 P R)
  unfold t_made_of
  repeat' array_get_dec
  · rename_i h1 h2
    have e : madeOf s g = false := by
      unfold madeOf
      rw [decide_eq_false (show ¬ s.length ≤ 12 by omega)]
      simp
    rw [e] at q
    exact q
  · rename_i h1 h2
    have e : madeOf s g = s.all fun c => decide (c ∈ g) := by
      unfold madeOf
      rw [decide_eq_true (show s.length ≤ 12 by omega), decide_eq_true (show 1 ≤ s.length by omega)]
      simp
    rw [e] at q
    refine made_loop s none (fun h o' => ?_) (fun h e => ?_)
    · rw [h] at q
      repeat' array_get_dec
      exact q
    · rw [h] at q
      exact fin_d q
  · rename_i h1
    have e : madeOf s g = false := by
      unfold madeOf
      rw [decide_eq_false (show ¬ 1 ≤ s.length by omega)]
      simp
    rw [e] at q
    exact q
def isWord (s : List Nat) : Bool := madeOf s letters
def fx_is_word : FX := fun rs ob P _ => ∃ s, rs = [.val (.str s)] ∧ ob = [] ∧ s.length ≤ 100000 ∧ P (.val (.bl (isWord s))) []
theorem l_is_word : ∀ rs ob P R, fx_is_word rs ob P R → t_is_word fx_made_of (startE N_is_word.length rs ob) (endP ob.length P R) := by
  rintro rs ob P R ⟨s, rfl, rfl, hz, q⟩
  show t_is_word fx_made_of ⟨[some (.val (.str s))], []⟩ (endP 0 P R)
  unfold t_is_word
  repeat' array_get_dec
  refine ⟨s, letters, rfl, rfl, hz, ?_⟩
  exact fin_d q
def isNum (s : List Nat) : Bool := madeOf s digits && (decide (s = [48]) || !decide (s.head? = some 48))
theorem madeOf_ne {s g : List Nat} (h : madeOf s g = true) : ∃ c r, s = c :: r ∧ c ∈ g := by
  unfold madeOf at h
  simp only [Bool.and_eq_true, decide_eq_true_eq] at h
  cases s with
  | nil => simp at h
  | cons c r => exact ⟨c, r, rfl, by have := h.2; simp at this; exact this.1⟩
def fx_is_numeral : FX := fun rs ob P _ => ∃ s, rs = [.val (.str s)] ∧ ob = [] ∧ s.length ≤ 100000 ∧ Cps s ∧ P (.val (.bl (isNum s))) []
theorem l_is_numeral : ∀ rs ob P R, fx_is_numeral rs ob P R → t_is_numeral fx_made_of (startE N_is_numeral.length rs ob) (endP ob.length P R) := by
  rintro rs ob P R ⟨s, rfl, rfl, hz, hc, q⟩
  show t_is_numeral fx_made_of ⟨[some (.val (.str s))], []⟩ (endP 0 P R)
  unfold t_is_numeral
  repeat' array_get_dec
  refine ⟨s, digits, rfl, rfl, hz, ?_⟩
  refine ⟨madeOf s digits, rfl, ?_⟩
  refine i_iteB (fun h => ?_) (fun h => ?_)
  · have q' : P (.val (.bl (decide (s = [48]) || !decide (s.head? = some 48)))) [] := by
      unfold isNum at q
      rw [h, Bool.true_and] at q
      exact q
    repeat' array_get_dec
    refine i_eq (rd_val _ _) (rd_val _ _) (lay_str hc) (lay_str (cps_small (by decide))) ?_
    rw [eqv_ss]
    refine ⟨_, rfl, ?_⟩
    refine i_iteD (fun h1 => ?_) (fun h1 => ?_)
    · rw [decide_eq_true h1, Bool.true_or] at q'
      exact fin_d q'
    · rw [decide_eq_false h1, Bool.false_or] at q'
      repeat' array_get_dec
      obtain ⟨c, r, rfl, _⟩ := madeOf_ne h
      refine i_ixS rfl rfl (by rw [sizeLine_eq]; omega) atI_zero ?_
      repeat' array_get_dec
      refine i_ne (rd_val _ _) (rd_val _ _) (lay_str fun z hz => ?_) (lay_str (cps_small (by decide))) ?_
      · have : z = c := by simpa using hz
        rw [this]
        exact hc c List.mem_cons_self
      · rw [eqv_ss]
        refine fin_d ?_
        have e : decide ([c] = [48]) = decide ((c :: r).head? = some 48) := by simp
        rw [e]
        exact q'
  · have e : isNum s = false := by
      unfold isNum
      rw [h, Bool.false_and]
    rw [e] at q
    exact fin_d q
def signs : List (List Nat) := [[61], [59], [44], [91], [93]]
def sortD (s : List Nat) : D := if s ∈ signs then .str s else if isWord s = true then .str [119, 111, 114, 100] else if isNum s = true then .str [110, 117, 109, 98, 101, 114] else .non
def fx_sort_of : FX := fun rs ob P _ => ∃ s, rs = [.val (.str s)] ∧ ob = [] ∧ s.length ≤ 100000 ∧ Cps s ∧ P (.val (sortD s)) []
theorem l_sort_of : ∀ rs ob P R, fx_sort_of rs ob P R → t_sort_of fx_is_numeral fx_is_word (startE N_sort_of.length rs ob) (endP ob.length P R) := by
  rintro rs ob P R ⟨s, rfl, rfl, hz, hc, q⟩
  show t_sort_of fx_is_numeral fx_is_word ⟨[some (.val (.str s))], []⟩ (endP 0 P R)
  unfold t_sort_of
  repeat' array_get_dec
  refine i_inT signs (rd_val _ _) (rd_val _ _) hc (cps_all (by decide)) ?_
  refine ⟨_, rfl, ?_⟩
  refine i_iteD (fun h1 => ?_) (fun h1 => ?_)
  · unfold sortD at q
    rw [if_pos h1] at q
    repeat' array_get_dec
    exact q
  · unfold sortD at q
    rw [if_neg h1] at q
    repeat' array_get_dec
    refine ⟨s, rfl, rfl, hz, ?_⟩
    refine i_tru rfl trivial ?_
    refine i_iteB (fun h2 => ?_) (fun h2 => ?_)
    · rw [if_pos h2] at q
      repeat' array_get_dec
      exact q
    · rw [h2, if_neg Bool.false_ne_true] at q
      repeat' array_get_dec
      refine ⟨s, rfl, rfl, hz, hc, ?_⟩
      refine i_tru rfl trivial ?_
      refine i_iteB (fun h3 => ?_) (fun h3 => ?_)
      · rw [if_pos h3] at q
        repeat' array_get_dec
        exact q
      · rw [h3, if_neg Bool.false_ne_true] at q
        repeat' array_get_dec
        exact q
/-- letters and digits -/
def plain (c : Nat) : Bool := decide (c ∈ letters) || decide (c ∈ digits)
def fx_run_behind : FX := fun rs ob P _ => ∃ s n, rs = [.val (.str s), .val (.int (n : Nat))] ∧ ob = [] ∧ s.length ≤ 100000 ∧ n ≤ s.length ∧ P (.val (.int ((n + ((s.drop n).takeWhile plain).length : Nat)))) []
theorem rb_loop {Po : Post} {s : List Nat} {a : Option RV} (hz : s.length ≤ 100000) : ∀ (m n : Nat), s.length - n = m → n ≤ s.length → Po.nx ⟨[some (.val (.str s)), a, some (.val (.int ((n + ((s.drop n).takeWhile plain).length : Nat))))], []⟩ →
    whileX (tAndX (tVal (op2 iltX (eVar 2) (eB lenX (aCons (eVar 0) aNil)))) (tOrX (tVal (op2 (inX false) (op2 ixX (eVar 0) (eVar 2)) (eD (.str letters)))) (tVal (op2 (inX false) (op2 ixX (eVar 0) (eVar 2)) (eD (.str digits)))))) t_run_behind_1 Po (m + 1) ⟨[some (.val (.str s)), a, some (.val (.int (n : Nat)))], []⟩ := by
  intro m
  induction m with
  | zero =>
    intro n hm hn q
    refine i_wStep ?_
    repeat' array_get_dec
    · rename_i h1
      omega
    · rename_i h1
      have e : s.drop n = [] := List.drop_eq_nil_of_le (by omega)
      rw [e] at q
      exact q
  | succ m ih =>
    intro n hm hn q
    refine i_wStep ?_
    have hlt : n < s.length := by omega
    have hd : s.drop n = s[n] :: s.drop (n + 1) := List.drop_eq_getElem_cons hlt
    have step : plain s[n] = true → t_run_behind_1 ⟨[some (.val (.str s)), a, some (.val (.int (n : Nat)))], []⟩ { nx := whileX (tAndX (tVal (op2 iltX (eVar 2) (eB lenX (aCons (eVar 0) aNil)))) (tOrX (tVal (op2 (inX false) (op2 ixX (eVar 0) (eVar 2)) (eD (.str letters)))) (tVal (op2 (inX false) (op2 ixX (eVar 0) (eVar 2)) (eD (.str digits)))))) t_run_behind_1 Po (m + 1), rt := Po.rt, xc := Po.xc, bk := Po.nx, ct := whileX (tAndX (tVal (op2 iltX (eVar 2) (eB lenX (aCons (eVar 0) aNil)))) (tOrX (tVal (op2 (inX false) (op2 ixX (eVar 0) (eVar 2)) (eD (.str letters)))) (tVal (op2 (inX false) (op2 ixX (eVar 0) (eVar 2)) (eD (.str digits)))))) t_run_behind_1 Po (m + 1) } := fun hp => by
      rw [hd, List.takeWhile_cons_of_pos hp] at q
      unfold t_run_behind_1
      repeat' array_get_dec
      have e : ((n : Nat) : Int) + 1 = ((n + 1 : Nat) : Int) := by omega
      rw [e]
      refine ih (n + 1) (by omega) (by omega) ?_
      rw [List.length_cons] at q
      rw [show n + 1 + ((s.drop (n + 1)).takeWhile plain).length = n + (((s.drop (n + 1)).takeWhile plain).length + 1) by omega]
      exact q
    repeat' array_get_dec
    · rename_i h1
      refine i_ixS rfl rfl (by rw [sizeLine_eq]; omega) (DL.atI_nat (List.getElem?_eq_getElem hlt)) ?_
      repeat' array_get_dec
      · rename_i h2
        exact step (by unfold plain; rw [decide_eq_true h2]; rfl)
      · rename_i h2
        refine i_ixS rfl rfl (by rw [sizeLine_eq]; omega) (DL.atI_nat (List.getElem?_eq_getElem hlt)) ?_
        repeat' array_get_dec
        · rename_i h3
          exact step (by unfold plain; rw [decide_eq_true h3, Bool.or_true])
        · rename_i h3
          have hp : ¬ plain s[n] = true := by unfold plain; rw [decide_eq_false h2, decide_eq_false h3]; decide
          rw [hd, List.takeWhile_cons_of_neg hp] at q
          exact q
    · rename_i h1
      omega
theorem l_run_behind : ∀ rs ob P R, fx_run_behind rs ob P R → t_run_behind (startE N_run_behind.length rs ob) (endP ob.length P R) := by
  rintro rs ob P R ⟨s, n, rfl, rfl, hz, hn, q⟩
  show t_run_behind ⟨[some (.val (.str s)), some (.val (.int (n : Nat))), none], []⟩ (endP 0 P R)
  unfold t_run_behind
  repeat' array_get_dec
  refine i_while (s.length - n + 1) (rb_loop hz _ n rfl hn ?_)
  repeat' array_get_dec
  exact q
/-- the tokens of a text, or the first wrong place; k: no less than what is left -/
def tkN : Nat → Nat → List Nat → List (List Nat) → Nat ⊕ List (List Nat)
  | 0, _, _, acc => .inr acc
  | _ + 1, _, [], acc => .inr acc
  | k + 1, n, c :: r, acc => if plain c = true then (if (sortD (c :: r.takeWhile plain)).isN = true then .inl n else tkN k (n + (c :: r.takeWhile plain).length) (r.dropWhile plain) (acc ++ [c :: r.takeWhile plain]))
    else if [c] ∈ signs then tkN k (n + 1) r (acc ++ [[c]]) else if [c] ∈ ([[32], [10]] : List (List Nat)) then tkN k (n + 1) r acc else .inl n
def tkF (s : List Nat) : Nat ⊕ List (List Nat) := tkN s.length 0 s []
def fx_tokens : FX := fun rs ob P R => ∃ s, rs = [.val (.str s)] ∧ ob = [] ∧ s.length ≤ 100000 ∧ Cps s ∧ match tkF s with
  | .inr ts => P (.ob 0) [.lst (ts.map .str)]
  | .inl n => R ⟨101, [(300, .int (n : Nat))]⟩ []
theorem take_len_tw {α : Type} (p : α → Bool) : ∀ l : List α, l.take (l.takeWhile p).length = l.takeWhile p
  | [] => rfl
  | a :: l => by
    cases h : p a with
    | true => rw [List.takeWhile_cons_of_pos h, List.length_cons, List.take_succ_cons, take_len_tw p l]
    | false => rw [List.takeWhile_cons_of_neg (by rw [h]; decide)]; rfl
theorem drop_len_tw {α : Type} (p : α → Bool) : ∀ l : List α, l.drop (l.takeWhile p).length = l.dropWhile p
  | [] => rfl
  | a :: l => by
    cases h : p a with
    | true => rw [List.takeWhile_cons_of_pos h, List.dropWhile_cons_of_pos h, List.length_cons, List.drop_succ_cons, drop_len_tw p l]
    | false => rw [List.takeWhile_cons_of_neg (by rw [h]; decide), List.dropWhile_cons_of_neg (by rw [h]; decide)]; rfl
theorem tw_len {α : Type} (p : α → Bool) (l : List α) : (l.takeWhile p).length ≤ l.length := (List.takeWhile_sublist p).length_le
def tokC : TX := tVal (op2 iltX (eVar 2) (eB lenX (aCons (eVar 0) aNil)))
theorem tok_loop {Po : Post} {s : List Nat} (hz : s.length ≤ 100000) (hc : Cps s) : ∀ (m n : Nat) (acc : List (List Nat)) (o3 o4 o5 : Option RV), s.length - n ≤ m → n ≤ s.length → acc.length ≤ n →
    (match tkN m n (s.drop n) acc with
      | .inr ts => ∀ o2 o3 o4 o5, Po.nx ⟨[some (.val (.str s)), some (.ob 0), o2, o3, o4, o5], [.lst (ts.map .str)]⟩
      | .inl k => ∀ e, Po.xc ⟨101, [(300, .int (k : Nat))]⟩ e) →
    whileX tokC (t_tokens_1 fx_sort_of fx_run_behind) Po (m + 1) ⟨[some (.val (.str s)), some (.ob 0), some (.val (.int (n : Nat))), o3, o4, o5], [.lst (acc.map .str)]⟩ := by
  intro m
  induction m with
  | zero =>
    intro n acc o3 o4 o5 hm hn ha q
    refine i_wStep ?_
    unfold tokC
    repeat' array_get_dec
    · omega
    · exact q _ _ _ _
  | succ m ih =>
    intro n acc o3 o4 o5 hm hn ha q
    refine i_wStep ?_
    unfold tokC
    repeat' array_get_dec
    · rename_i h1
      have hlt : n < s.length := by omega
      have hd : s.drop n = s[n] :: s.drop (n + 1) := List.drop_eq_getElem_cons hlt
      unfold t_tokens_1
      repeat' array_get_dec
      refine i_ixS rfl rfl (by rw [sizeLine_eq]; omega) (DL.atI_nat (List.getElem?_eq_getElem hlt)) ?_
      repeat' array_get_dec
      refine ⟨s, n, rfl, rfl, hz, hn, ?_⟩
      repeat' array_get_dec
      · rename_i h2
        -- a run
        have hp : plain s[n] = true := by
          cases h : plain s[n] with
          | true => rfl
          | false =>
            rw [hd, List.takeWhile_cons_of_neg (by rw [h]; decide)] at h2
            simp at h2
        have hrun : (s.drop n).takeWhile plain = s[n] :: (s.drop (n + 1)).takeWhile plain := by rw [hd, List.takeWhile_cons_of_pos hp]
        have hle : n + ((s.drop n).takeWhile plain).length ≤ s.length := by
          have := tw_len plain (s.drop n)
          rw [List.length_drop] at this
          omega
        have hq : tkN (m + 1) n (s.drop n) acc = if (sortD ((s.drop n).takeWhile plain)).isN = true then .inl n else tkN m (n + ((s.drop n).takeWhile plain).length) (s.drop (n + ((s.drop n).takeWhile plain).length)) (acc ++ [(s.drop n).takeWhile plain]) := by
          rw [← List.drop_drop, drop_len_tw, hrun]
          conv => lhs; rw [hd, tkN, if_pos hp]
          rw [hd, List.dropWhile_cons_of_pos hp]
        rw [hq] at q
        have ec : cut s (some (n : Int)) (some ((n + ((s.drop n).takeWhile plain).length : Nat) : Int)) = (s.drop n).takeWhile plain := by
          rw [cut_nat s n _ hle (by omega), Nat.add_sub_cancel_left, take_len_tw]
        have hl : ((s.drop n).takeWhile plain).length ≤ s.length := by omega
        have hcr : Cps ((s.drop n).takeWhile plain) := fun c hm => hc c (List.mem_of_mem_drop ((List.takeWhile_sublist plain).subset hm))
        have hpos : 1 ≤ ((s.drop n).takeWhile plain).length := by rw [hrun]; simp
        refine i_slS rfl (by rw [sizeLine_eq]; omega) ?_
        rw [ec]
        repeat' array_get_dec
        refine ⟨_, rfl, rfl, by omega, hcr, ?_⟩
        refine ⟨_, rfl, _, rfl, ?_⟩
        refine i_iteB (fun h3 => ?_) (fun h3 => ?_)
        · have h3' : (sortD ((s.drop n).takeWhile plain)).isN = true := h3
          rw [if_pos h3'] at q
          repeat' array_get_dec
          refine ⟨by simp, [.int (n : Nat)], _, fz_v fz_nil, rfl, q _⟩
        · have h3' : (sortD ((s.drop n).takeWhile plain)).isN = false := h3
          rw [h3', if_neg Bool.false_ne_true] at q
          repeat' array_get_dec
          refine i_app rfl rfl (by rw [sizeLine_eq, List.length_map]; omega) ?_
          repeat' array_get_dec
          have em : acc.map D.str ++ [D.str ((s.drop n).takeWhile plain)] = (acc ++ [(s.drop n).takeWhile plain]).map D.str := by simp
          have := ih (n + ((s.drop n).takeWhile plain).length) (acc ++ [(s.drop n).takeWhile plain]) (some (.val (.str [s[n]]))) (some (.val (.int ((n + ((s.drop n).takeWhile plain).length : Nat))))) (some (.val (.str ((s.drop n).takeWhile plain)))) (by omega) hle (by rw [List.length_append]; simp; omega) q
          rw [← em] at this
          exact this
      · rename_i h2
        have hp : ¬ plain s[n] = true := fun hp => by
          rw [hd, List.takeWhile_cons_of_pos hp, List.length_cons] at h2
          omega
        have hcn : Cps [s[n]] := fun c hm => by
          have : c = s[n] := by simpa using hm
          rw [this]
          exact hc _ (List.getElem_mem hlt)
        have e1 : ((n : Nat) : Int) + 1 = ((n + 1 : Nat) : Int) := by omega
        rw [hd, tkN, if_neg hp] at q
        refine i_inT signs (rd_val _ _) (rd_val _ _) hcn (cps_all (by decide)) ?_
        refine ⟨_, rfl, ?_⟩
        refine i_iteD (fun h3 => ?_) (fun h3 => ?_)
        · rw [if_pos h3] at q
          repeat' array_get_dec
          refine i_app rfl rfl (by rw [sizeLine_eq, List.length_map]; omega) ?_
          repeat' array_get_dec
          have em : acc.map D.str ++ [D.str [s[n]]] = (acc ++ [[s[n]]]).map D.str := by simp
          have := ih (n + 1) (acc ++ [[s[n]]]) (some (.val (.str [s[n]]))) (some (.val (.int ((n + ((s.drop n).takeWhile plain).length : Nat))))) o5 (by omega) (by omega) (by rw [List.length_append]; simp; omega) q
          rw [← em] at this
          rw [e1]
          exact this
        · rw [if_neg h3] at q
          repeat' array_get_dec
          refine i_ninT [[32], [10]] (rd_val _ _) (rd_val _ _) hcn (cps_all (by decide)) ?_
          refine ⟨_, rfl, ?_⟩
          refine i_iteN (fun h4 => ?_) (fun h4 => ?_)
          · rw [if_neg h4] at q
            repeat' array_get_dec
            refine ⟨by simp, [.int (n : Nat)], _, fz_v fz_nil, rfl, q _⟩
          · rw [if_pos h4] at q
            repeat' array_get_dec
            rw [e1]
            exact ih (n + 1) acc (some (.val (.str [s[n]]))) (some (.val (.int ((n + ((s.drop n).takeWhile plain).length : Nat))))) o5 (by omega) (by omega) (by omega) q
    · rename_i h1
      have e : s.drop n = [] := List.drop_eq_nil_of_le (by omega)
      rw [e] at q
      have e2 : tkN (m + 1) n [] acc = .inr acc := by rw [tkN]
      rw [e2] at q
      exact q _ _ _ _
theorem l_tokens : ∀ rs ob P R, fx_tokens rs ob P R → t_tokens fx_sort_of fx_run_behind (startE N_tokens.length rs ob) (endP ob.length P R) := by
  rintro rs ob P R ⟨s, rfl, rfl, hz, hc, q⟩
  show t_tokens fx_sort_of fx_run_behind ⟨[some (.val (.str s)), none, none, none, none, none], []⟩ (endP 0 P R)
  unfold t_tokens
  repeat' array_get_dec
  refine i_while (s.length + 1) (tok_loop hz hc s.length 0 [] none none none (by omega) (by omega) (by simp) ?_)
  unfold tkF at q
  rw [List.drop_zero]
  cases h : tkN s.length 0 s [] with
  | inr ts =>
    rw [h] at q
    intro o2 o3 o4 o5
    repeat' array_get_dec
    exact fin_n rfl q
  | inl k =>
    rw [h] at q
    intro e
    exact finX_0 q

end LW
end
section
set_option Elab.async false
set_option linter.all false
set_option autoImplicit false
set_option maxRecDepth 100000
set_option maxHeartbeats 1000000
namespace LW
open PySem PySem.Spec PyProof.Rows DL
open L2 hiding St start
local macro_rules | `(tactic| array_get_dec) => `(tactic| first
  | with_reducible refine i_seq ?_
  | with_reducible refine i_asg ?_
  | (with_reducible refine i_gNm ?_; dsimp only [List.set])
  | with_reducible refine i_var (by with_unfolding_all exact rfl) ?_
  | with_reducible refine i_d ?_
  | with_reducible refine i_op2 ?_
  | with_reducible refine i_ret ?_
  | with_reducible refine i_sIf ?_
  | with_reducible refine i_val ?_
  | with_reducible refine i_isb ?_
  | with_reducible refine i_cons ?_
  | with_reducible refine i_nil ?_
  | with_reducible refine i_eB ?_
  | with_reducible refine i_call ?_
  | with_reducible refine i_tTru ?_
  | with_reducible refine i_tru (by with_unfolding_all exact rfl) (by with_unfolding_all exact trivial) ?_
  | with_reducible refine i_and ?_
  | with_reducible refine i_or ?_
  | with_reducible refine i_not ?_
  | with_reducible refine i_next ?_
  | with_reducible refine i_eand ?_
  | with_reducible refine i_eor ?_
  | with_reducible refine i_eif ?_
  | with_reducible refine i_enot ?_
  | with_reducible refine i_lt (by with_unfolding_all exact rfl) (by with_unfolding_all exact rfl) ?_
  | with_reducible refine i_le (by with_unfolding_all exact rfl) (by with_unfolding_all exact rfl) ?_
  | with_reducible refine i_gt (by with_unfolding_all exact rfl) (by with_unfolding_all exact rfl) ?_
  | with_reducible refine i_ge (by with_unfolding_all exact rfl) (by with_unfolding_all exact rfl) ?_
  | with_reducible refine i_sub (by with_unfolding_all exact rfl) (by with_unfolding_all exact rfl) ?_
  | with_reducible refine i_addI (by with_unfolding_all exact rfl) (by with_unfolding_all exact rfl) ?_
  | with_reducible refine i_isi ?_
  | with_reducible refine i_isi1 (by with_unfolding_all exact rfl) (by with_unfolding_all exact rfl) ?_
  | with_reducible refine i_chain ?_
  | with_reducible refine i_drop ?_
  | with_reducible refine i_brk ?_
  | with_reducible refine i_cont ?_
  | with_reducible refine i_retN ?_
  | with_reducible refine i_isN ?_
  | with_reducible refine i_notN ?_
  | with_reducible refine i_eLst ?_
  | with_reducible refine i_eTup ?_
  | with_reducible refine i_eM ?_
  | with_reducible refine i_neg ?_
  | with_reducible refine i_neg1 (by with_unfolding_all exact rfl) ?_
  | with_reducible refine i_par2 ?_
  | with_reducible refine i_par33 ?_
  | with_reducible refine i_for ?_
  | with_reducible refine i_iSeq ?_
  | with_reducible refine i_seqI (by with_unfolding_all exact rfl) ?_
  | with_reducible refine i_iR1 ?_
  | with_reducible refine i_iEn ?_
  | with_reducible refine i_eSl ?_
  | with_reducible refine i_pNone ?_
  | with_reducible refine i_pSome ?_
  | with_reducible refine i_int1 (by with_unfolding_all exact rfl) ?_
  | with_reducible refine i_d1 (by with_unfolding_all exact rfl) ?_
  | with_reducible refine i_raise ?_
  | with_reducible refine i_aug (by with_unfolding_all exact rfl) ?_
  | (with_reducible refine i_augI (by with_unfolding_all exact rfl) (by with_unfolding_all exact rfl) ?_; dsimp only [List.set])
  | with_reducible refine i_inC (by with_unfolding_all exact rfl) (by with_unfolding_all exact rfl) ?_
  | with_reducible refine i_ninC (by with_unfolding_all exact rfl) (by with_unfolding_all exact rfl) ?_
  | with_reducible refine i_par ?_
  | with_reducible refine i_par3 ?_
  | with_reducible refine i_gsNil ?_
  | with_reducible refine i_gsCons ?_
  | with_reducible refine i_setIx ?_
  | with_reducible refine i_eLc ?_
  | with_reducible refine i_yes ?_
  | with_reducible refine i_tyS (by with_unfolding_all exact rfl) ?_
  | with_reducible refine i_tyL (by with_unfolding_all exact rfl) ?_
  | with_reducible refine i_lenS (by with_unfolding_all exact rfl) (by rw [sizeLine_eq]; (try simp only [List.length_append, List.length_cons, List.length_nil]); omega) ?_
  | with_reducible refine i_addS (by with_unfolding_all exact rfl) (by with_unfolding_all exact rfl) (by rw [sizeLine_eq]; (try simp only [List.length_append, List.length_cons, List.length_nil]); omega) ?_
  | with_reducible refine i_lenL (by with_unfolding_all exact rfl) ?_
  | with_reducible refine i_intI (by with_unfolding_all exact rfl) ?_
  | with_reducible refine i_abs (by with_unfolding_all exact rfl) ?_
  | with_reducible refine i_list (by with_unfolding_all exact rfl) ?_
  | with_reducible refine c_v (by repeat (first | exact fz_nil | apply fz_v | (apply fz_l; with_unfolding_all exact rfl) | (apply fz_f; with_unfolding_all exact rfl) | apply fz_k)) (by with_unfolding_all exact rfl) ?_
  | with_reducible refine i_lsV ?_
  | with_reducible refine i_exD ?_
  | (with_reducible refine ⟨small_line (by simp only [List.length_cons, List.length_nil]; omega), ?_⟩; simp only [allD, dv_val'])
  | with_reducible refine i_ixL (by with_unfolding_all exact rfl) (by with_unfolding_all exact rfl) (by with_unfolding_all exact rfl) ?_
  | with_reducible refine i_setIx1 (by with_unfolding_all exact rfl) (by with_unfolding_all exact rfl) (by with_unfolding_all exact rfl) (by with_unfolding_all exact rfl) ?_
  | with_reducible refine i_mod (by with_unfolding_all exact rfl) (by with_unfolding_all exact rfl) (by omega) ?_
  | with_reducible refine i_fdiv (by with_unfolding_all exact rfl) (by with_unfolding_all exact rfl) (by omega) (by omega) ?_
  | with_reducible refine i_imul (by with_unfolding_all exact rfl) (by with_unfolding_all exact rfl) (by first | exact cmul_l (by omega) (by omega) | exact cmul_r (by omega) (by omega)) ?_
  | with_reducible refine i_pow (by with_unfolding_all exact rfl) (by with_unfolding_all exact rfl) (cpow (by omega) (by omega) (by omega) (by omega)) ?_
  | with_reducible refine i_sum (by with_unfolding_all exact rfl) ?_
  | with_reducible refine i_rng1 (by omega) (by omega) ?_
  | with_reducible refine i_lcD ?_
  | with_reducible refine i_rt0 ?_
  | with_reducible refine i_nx0 ?_
  | with_reducible refine i_xc0 ?_
  | with_reducible refine fin_d ?_
  | with_reducible refine finX_0 ?_
  | with_reducible refine i_ifT (by with_unfolding_all exact rfl) ?_
  | with_reducible refine i_ifF (by with_unfolding_all exact rfl) ?_
  | with_reducible refine i_iteD (fun _ => ?_) (fun _ => ?_)
  | with_reducible refine i_iteN (fun _ => ?_) (fun _ => ?_)
  | with_reducible refine i_iteNB (fun _ => ?_) (fun _ => ?_)
  | with_reducible refine i_iteB (fun _ => ?_) (fun _ => ?_)
  | with_reducible refine i_fz ?_
  | with_reducible refine i_fr ?_
  | (with_reducible refine i_fzL (by with_unfolding_all exact rfl) (by with_unfolding_all exact rfl) (by with_unfolding_all exact rfl) ?_; dsimp only [List.take, List.set, List.length_nil, List.length_cons, Nat.zero_add, Nat.reduceAdd])
  | (with_reducible refine i_fzLT (by with_unfolding_all exact rfl) (by with_unfolding_all exact rfl) ?_; dsimp only [List.take, List.set, List.length_nil, List.length_cons, Nat.zero_add, Nat.reduceAdd])
  | (with_reducible refine i_fzV (by with_unfolding_all exact rfl) (by with_unfolding_all exact rfl) ?_; dsimp only [List.take, List.set, List.length_nil, List.length_cons, Nat.zero_add, Nat.reduceAdd])
  | (with_reducible refine i_fzVT (by with_unfolding_all exact rfl) ?_; dsimp only [List.take, List.set, List.length_nil, List.length_cons, Nat.zero_add, Nat.reduceAdd]))
/-! the law's own helpers -/
def fx_text_of : FX := fun rs ob P _ => ∃ ss : List (List Nat), rs = [.val (.lst (ss.map .str))] ∧ ob = [] ∧ (ss.map List.length).sum + ss.length ≤ 16777216 ∧ P (.val (.str (joinL [32] ss))) []
theorem l_text_of : ∀ rs ob P R, fx_text_of rs ob P R → t_text_of (startE N_text_of.length rs ob) (endP ob.length P R) := by
  rintro rs ob P R ⟨ss, rfl, rfl, hz, q⟩
  show t_text_of ⟨[some (.val (.lst (ss.map .str)))], []⟩ (endP 0 P R)
  unfold t_text_of
  repeat' array_get_dec
  refine i_join rfl rfl (strsD_map ss) (by simpa using hz) ?_
  repeat' array_get_dec
  exact q
def fx__law_pool : FX := fun rs ob P _ => ∃ (ns : List Int) (k : Nat), rs = [.val (.lst (ns.map .int)), .val (.int (k : Nat))] ∧ ob = [] ∧ k ≤ 100 ∧ ∀ ds, Pl 0 ds → P (.ob 0) [.lst ds]
theorem l__law_pool : ∀ rs ob P R, fx__law_pool rs ob P R → t__law_pool (startE N__law_pool.length rs ob) (endP ob.length P R) := by
  rintro rs ob P R ⟨ns, k, rfl, rfl, hk, q⟩
  show t__law_pool ⟨[some (.val (.lst (ns.map .int))), some (.val (.int (k : Nat))), none, none], []⟩ (endP 0 P R)
  unfold t__law_pool
  repeat' array_get_dec
  · rename_i h
    have hk' : k < ns.length := by
      rw [List.length_map] at h
      omega
    refine i_ixL rfl rfl (DL.atI_nat (show (ns.map D.int)[k]? = some (.int ns[k]) by simp [hk'])) ?_
    repeat' array_get_dec
    · refine fin_n rfl (q _ ?_)
      exact ⟨_, _, _, rfl, by split <;> omega, by omega, by omega, by omega, by omega⟩
    · refine fin_n rfl (q _ ?_)
      exact ⟨_, _, _, rfl, by omega, by omega, by omega, by omega, by omega⟩
  · refine i_slL rfl ?_
    have ec : cut (ns.map D.int) none (some ((1 : Nat) : Int)) = (ns.take 1).map D.int := by rw [cut_to, List.map_take]
    refine i_nil ?_
    refine i_sum (ns := ns.take 1) (by rw [← ec]; rfl) ?_
    repeat' array_get_dec
    · refine fin_n rfl (q _ ?_)
      exact ⟨_, _, _, rfl, by split <;> omega, by omega, by omega, by omega, by omega⟩
    · refine fin_n rfl (q _ ?_)
      exact ⟨_, _, _, rfl, by omega, by omega, by omega, by omega, by omega⟩
theorem l__law_pick : ∀ rs ob P R, fx_pick rs ob P R → t__law_pick (startE N__law_pick.length rs ob) (endP ob.length P R) := by
  rintro rs ob P R ⟨b, ds, m, rfl, rfl, ⟨g, s, n, rfl, h1, h2, h3, h4, h5⟩, hb, hm, hm2, q⟩
  show t__law_pick ⟨[some (.ob 0), some (.val (.int m)), none, none], [.lst [.int g, .int s, .int n]]⟩ (endP 1 P R)
  unfold t__law_pick
  repeat' array_get_dec
  · exact fin_d1 rfl (q _ _ (Int.emod_nonneg _ (by omega)) (Int.emod_lt_of_pos _ hm) ⟨_, _, _, rfl, Int.ediv_nonneg h1 (by omega), h2, h3, h4, by omega⟩)
  · exact fin_d1 rfl (q _ _ (Int.emod_nonneg _ (by omega)) (Int.emod_lt_of_pos _ hm) ⟨_, _, _, rfl, h1, h2, h3, by omega, by omega⟩)

/-! a run: words, numerals, both -/
def Run (r : RV) : Prop := ∃ s : List Nat, r = .val (.str s) ∧ s ≠ [] ∧ s.length ≤ 600 ∧ s.all plain = true
theorem plain_cps {s : List Nat} (h : s.all plain = true) : Cps s := fun c hc => by
  have := List.all_eq_true.mp h c hc
  unfold plain at this
  rw [Bool.or_eq_true, decide_eq_true_eq, decide_eq_true_eq] at this
  rcases this with h | h
  · have : letters.all (· < 1114112) = true := by decide
    simpa using List.all_eq_true.mp this c h
  · have : digits.all (· < 1114112) = true := by decide
    simpa using List.all_eq_true.mp this c h
theorem dr_sign {te : EX} {sl : List (Option RV)} {al : List Nat} {m : Int} (hsl : sl[0]? = some (some (.ob 0))) (hm : m = al.length) (h0 : 0 < m) (h1 : m < 1000000) (ht : te = op2 ixX (eD (.str al)) (eCall [false, true] [] fx_pick (aCons (eVar 0) (aCons (eD (.int m)) aNil)))) : DrawsTo te sl 1 (fun d => ∃ c, d = .str [c] ∧ c ∈ al) := by
  intro b ds ob P R g0 hp hb q
  subst ht
  refine i_op2 (i_d (i_call (i_cons (i_var hsl (i_cons (i_d (i_nil (pick_ok g0 hp (by omega) h0 h1 fun r ds' hr hp' => ?_))))))))
  have hl : r < al.length := by omega
  exact i_ixS rfl rfl (by rw [sizeLine_eq]; omega) (DL.atI_nat (List.getElem?_eq_getElem hl)) (q ds' _ hp' ⟨_, rfl, List.getElem_mem hl⟩)
theorem strs_of {al : List Nat} : ∀ {l : List D}, (∀ d ∈ l, ∃ c, d = .str [c] ∧ c ∈ al) → ∃ s : List Nat, l = (s.map fun c => [c]).map D.str ∧ (∀ c ∈ s, c ∈ al) ∧ s.length = l.length
  | [], _ => ⟨[], rfl, fun c h => by simp at h, rfl⟩
  | d :: l, h => by
    obtain ⟨c, rfl, hc⟩ := h d List.mem_cons_self
    obtain ⟨s, h1, h2, h3⟩ := strs_of (l := l) fun z hz => h z (List.mem_cons_of_mem _ hz)
    refine ⟨c :: s, by rw [List.map_cons, List.map_cons, h1], fun z hz => ?_, by rw [List.length_cons, List.length_cons, h3]⟩
    rcases List.mem_cons.mp hz with e | hz
    · rw [e]
      exact hc
    · exact h2 z hz
theorem sum_single (s : List Nat) : ((s.map fun c => [c]).map List.length).sum = s.length := by
  induction s with
  | nil => rfl
  | cons c s ih => rw [List.map_cons, List.map_cons, List.sum_cons, ih, List.length_cons]; simp; omega
theorem all_letters {s : List Nat} (h : ∀ c ∈ s, c ∈ letters) : s.all plain = true := List.all_eq_true.mpr fun c hc => by
  unfold plain
  rw [decide_eq_true (h c hc)]
  rfl
theorem all_digits {s : List Nat} (h : ∀ c ∈ s, c ∈ digits) : s.all plain = true := List.all_eq_true.mpr fun c hc => by
  unfold plain
  rw [decide_eq_true (h c hc), Bool.or_true]
theorem allD_digits {s : List Nat} (h : ∀ c ∈ s, c ∈ digits) : NumText.AllDigits s := fun c hc => by
  have := h c hc
  unfold digits at this
  simp at this
  omega
theorem digits_of_all {s : List Nat} (h : NumText.AllDigits s) : ∀ c ∈ s, c ∈ digits := fun c hc => by
  have := h c hc
  unfold digits
  simp
  omega
theorem ne_of_len {s : List Nat} {v : Nat} (h : s.length = v) (h1 : 1 ≤ v) : s ≠ [] := fun e => by
  rw [e] at h
  simp at h
  omega
def stripz (s : List Nat) : List Nat := match s.dropWhile (· == 48) with
  | [] => [48]
  | c :: r => c :: r
theorem stripz_ok {s : List Nat} (h : ∀ c ∈ s, c ∈ digits) : stripz s ≠ [] ∧ (stripz s).length ≤ s.length + 1 ∧ ∀ c ∈ stripz s, c ∈ digits := by
  unfold stripz
  have sub := List.dropWhile_sublist (l := s) (fun c : Nat => c == 48)
  cases e : s.dropWhile (· == 48) with
  | nil => exact ⟨by simp, by simp, fun c hc => by have : c = 48 := by simpa using hc
                                                   rw [this]; decide⟩
  | cons c r =>
    rw [e] at sub
    exact ⟨by simp, Nat.le_succ_of_le sub.length_le, fun z hz => h z (sub.subset hz)⟩
theorem all_app {a b : List Nat} (ha : a.all plain = true) (hb : b.all plain = true) : (a ++ b).all plain = true := by
  rw [List.all_append, ha, hb]
  rfl
theorem all_take {a : List Nat} (n : Nat) (ha : a.all plain = true) : (a.take n).all plain = true := List.all_eq_true.mpr fun c hc => List.all_eq_true.mp ha c (List.mem_of_mem_take hc)
theorem l__law_run : ∀ rs ob P R, fxDraw 40 Run rs ob P R → t__law_run fx_pick (startE N__law_run.length rs ob) (endP ob.length P R) := by
  rintro rs ob P R ⟨b, ds, rfl, rfl, hp, hb, q⟩
  show t__law_run fx_pick ⟨[some (.ob 0), none, none, none, none, none], [.lst ds]⟩ (endP 1 P R)
  unfold t__law_run
  repeat' array_get_dec
  refine pick_ok rfl hp (by omega) (by omega) (by omega) fun way ds1 hr1 hp1 => ?_
  repeat' array_get_dec
  refine pick_ok rfl hp1 (by omega) (by omega) (by omega) fun m5 ds2 hr2 hp2 => ?_
  have hm5 : m5 = 0 ∨ m5 = 1 ∨ m5 = 2 ∨ m5 = 3 ∨ m5 = 4 := by omega
  obtain ⟨v, hv, hv1, hv2⟩ : ∃ v : Nat, atI [D.int 1, D.int 2, D.int 3, D.int 12, D.int 13] (m5 : Int) = some (.int v) ∧ 1 ≤ v ∧ v ≤ 13 := by
    rcases hm5 with rfl | rfl | rfl | rfl | rfl
    · exact ⟨1, rfl, by omega, by omega⟩
    · exact ⟨2, rfl, by omega, by omega⟩
    · exact ⟨3, rfl, by omega, by omega⟩
    · exact ⟨12, rfl, by omega, by omega⟩
    · exact ⟨13, rfl, by omega, by omega⟩
  refine i_ixL rfl rfl hv ?_
  repeat' array_get_dec
  have hlen : ((List.range ((v : Nat) : Int).toNat).map fun i : Nat => (RV.val (.int i) : RV)).length = v := by simp
  refine comp_draw (n := 1) (good := fun d => ∃ c, d = .str [c] ∧ c ∈ letters) (fun r => dr_sign (al := letters) rfl rfl (by decide) (by decide) rfl) (by simp) _ _ _ [] _ rfl rfl hp2 (by rw [hlen]; omega) (by rw [hlen]; simp; omega) fun ds3 acc3 hp3 hl3 hg3 => ?_
  rw [hlen] at hp3 hl3
  obtain ⟨ls, rfl, hls, hll⟩ := strs_of (al := letters) (l := acc3) fun d hd => (hg3 d hd).resolve_left (by simp)
  rw [hl3, List.length_nil, Nat.zero_add] at hll
  repeat' array_get_dec
  refine i_join rfl rfl (strsD_map _) (by rw [sum_single]; simp; omega) ?_
  rw [join_signs]
  repeat' array_get_dec
  refine comp_draw (n := 1) (good := fun d => ∃ c, d = .str [c] ∧ c ∈ digits) (fun r => dr_sign (al := digits) rfl rfl (by decide) (by decide) rfl) (by simp) _ _ _ [] _ rfl rfl hp3 (by rw [hlen]; omega) (by rw [hlen]; simp; omega) fun ds4 acc4 hp4 hl4 hg4 => ?_
  rw [hlen] at hp4 hl4
  obtain ⟨dg, rfl, hdg, hdl⟩ := strs_of (al := digits) (l := acc4) fun d hd => (hg4 d hd).resolve_left (by simp)
  rw [hl4, List.length_nil, Nat.zero_add] at hdl
  repeat' array_get_dec
  refine i_join rfl rfl (strsD_map _) (by rw [sum_single]; simp; omega) ?_
  rw [join_signs]
  simp only [List.cons_append, List.nil_append, List.set_cons_zero, List.set_cons_succ, List.length_cons, List.length_nil, Nat.zero_add, Nat.reduceAdd]
  repeat' array_get_dec
  · exact fin_d1 rfl (q _ _ ⟨ls, rfl, ne_of_len hll hv1, by omega, all_letters hls⟩ (hp4.mono (by omega)))
  · refine pick_ok rfl hp4 (by omega) (by omega) (by omega) fun r3 ds5 hr3 hp5 => ?_
    repeat' array_get_dec
    · obtain ⟨n1, n2, n3⟩ := num_text (allD_digits hdg) (ne_of_len hdl hv1) (by omega)
      refine i_intS rfl n1 (by omega) ?_
      repeat' array_get_dec
      refine i_str rfl n2 ?_
      rw [n3]
      obtain ⟨z1, z2, z3⟩ := stripz_ok hdg
      repeat' array_get_dec
      exact fin_d1 rfl (q _ _ ⟨stripz dg, rfl, z1, by omega, all_digits z3⟩ (hp5.mono (by omega)))
    · refine pick_ok rfl hp5 (by omega) (by omega) (by omega) fun r4 ds6 hr4 hp6 => ?_
      repeat' array_get_dec
      · exact fin_d1 rfl (q _ _ ⟨dg, rfl, ne_of_len hdl hv1, by omega, all_digits hdg⟩ (hp6.mono (by omega)))
      · exact fin_d1 rfl (q _ _ ⟨[48], rfl, by simp, by simp, by decide⟩ (hp6.mono (by omega)))
  · have c3 : cut ls none (some (3 : Int)) = ls.take 3 := cut_to ls 3
    have c2 : cut dg none (some (2 : Int)) = dg.take 2 := cut_to dg 2
    have l3 : (ls.take 3).length ≤ 3 := List.length_take_le _ _
    have l2 : (dg.take 2).length ≤ 2 := List.length_take_le _ _
    have n3 : ls.take 3 ≠ [] := fun e => by
      rcases List.take_eq_nil_iff.mp e with h | h
      · omega
      · exact ne_of_len hll hv1 h
    have ap := all_take 3 (all_letters hls)
    have aq := all_take 2 (all_digits hdg)
    refine i_eq (rd_val _ _) (rd_val _ _) (lay_int _) (lay_int _) ?_
    rw [eqv_ii]
    refine ⟨_, rfl, ?_⟩
    refine i_iteD (fun _ => ?_) (fun _ => ?_)
    · repeat' array_get_dec
      refine i_slS rfl (by rw [sizeLine_eq]; omega) ?_
      rw [c3]
      repeat' array_get_dec
      refine i_slS rfl (by rw [sizeLine_eq]; omega) ?_
      rw [c2]
      repeat' array_get_dec
      exact fin_d1 rfl (q _ _ ⟨ls.take 3 ++ dg.take 2, rfl, by simp [n3], by rw [List.length_append]; omega, all_app ap aq⟩ (hp4.mono (by omega)))
    · repeat' array_get_dec
      refine i_slS rfl (by rw [sizeLine_eq]; omega) ?_
      rw [c2]
      repeat' array_get_dec
      refine i_slS rfl (by rw [sizeLine_eq]; omega) ?_
      rw [c3]
      repeat' array_get_dec
      exact fin_d1 rfl (q _ _ ⟨dg.take 2 ++ ls.take 3, rfl, by simp [n3], by rw [List.length_append]; omega, all_app aq ap⟩ (hp4.mono (by omega)))

end LW
end
section
set_option Elab.async false
set_option linter.all false
set_option autoImplicit false
set_option maxRecDepth 100000
set_option maxHeartbeats 1000000
namespace LW
open PySem PySem.Spec PyProof.Rows DL
open L2 hiding St start
local macro_rules | `(tactic| array_get_dec) => `(tactic| first
  | with_reducible refine i_seq ?_
  | with_reducible refine i_asg ?_
  | (with_reducible refine i_gNm ?_; dsimp only [List.set])
  | with_reducible refine i_var (by with_unfolding_all exact rfl) ?_
  | with_reducible refine i_d ?_
  | with_reducible refine i_op2 ?_
  | with_reducible refine i_ret ?_
  | with_reducible refine i_sIf ?_
  | with_reducible refine i_val ?_
  | with_reducible refine i_isb ?_
  | with_reducible refine i_cons ?_
  | with_reducible refine i_nil ?_
  | with_reducible refine i_eB ?_
  | with_reducible refine i_call ?_
  | with_reducible refine i_tTru ?_
  | with_reducible refine i_tru (by with_unfolding_all exact rfl) (by with_unfolding_all exact trivial) ?_
  | with_reducible refine i_and ?_
  | with_reducible refine i_or ?_
  | with_reducible refine i_not ?_
  | with_reducible refine i_next ?_
  | with_reducible refine i_eand ?_
  | with_reducible refine i_eor ?_
  | with_reducible refine i_eif ?_
  | with_reducible refine i_enot ?_
  | with_reducible refine i_lt (by with_unfolding_all exact rfl) (by with_unfolding_all exact rfl) ?_
  | with_reducible refine i_le (by with_unfolding_all exact rfl) (by with_unfolding_all exact rfl) ?_
  | with_reducible refine i_gt (by with_unfolding_all exact rfl) (by with_unfolding_all exact rfl) ?_
  | with_reducible refine i_ge (by with_unfolding_all exact rfl) (by with_unfolding_all exact rfl) ?_
  | with_reducible refine i_sub (by with_unfolding_all exact rfl) (by with_unfolding_all exact rfl) ?_
  | with_reducible refine i_addI (by with_unfolding_all exact rfl) (by with_unfolding_all exact rfl) ?_
  | with_reducible refine i_isi ?_
  | with_reducible refine i_isi1 (by with_unfolding_all exact rfl) (by with_unfolding_all exact rfl) ?_
  | with_reducible refine i_chain ?_
  | with_reducible refine i_drop ?_
  | with_reducible refine i_brk ?_
  | with_reducible refine i_cont ?_
  | with_reducible refine i_retN ?_
  | with_reducible refine i_isN ?_
  | with_reducible refine i_notN ?_
  | with_reducible refine i_eLst ?_
  | with_reducible refine i_eTup ?_
  | with_reducible refine i_eM ?_
  | with_reducible refine i_neg ?_
  | with_reducible refine i_neg1 (by with_unfolding_all exact rfl) ?_
  | with_reducible refine i_par2 ?_
  | with_reducible refine i_par33 ?_
  | with_reducible refine i_for ?_
  | with_reducible refine i_iSeq ?_
  | with_reducible refine i_seqI (by with_unfolding_all exact rfl) ?_
  | with_reducible refine i_iR1 ?_
  | with_reducible refine i_iEn ?_
  | with_reducible refine i_eSl ?_
  | with_reducible refine i_pNone ?_
  | with_reducible refine i_pSome ?_
  | with_reducible refine i_int1 (by with_unfolding_all exact rfl) ?_
  | with_reducible refine i_d1 (by with_unfolding_all exact rfl) ?_
  | with_reducible refine i_raise ?_
  | with_reducible refine i_aug (by with_unfolding_all exact rfl) ?_
  | (with_reducible refine i_augI (by with_unfolding_all exact rfl) (by with_unfolding_all exact rfl) ?_; dsimp only [List.set])
  | with_reducible refine i_inC (by with_unfolding_all exact rfl) (by with_unfolding_all exact rfl) ?_
  | with_reducible refine i_ninC (by with_unfolding_all exact rfl) (by with_unfolding_all exact rfl) ?_
  | with_reducible refine i_par ?_
  | with_reducible refine i_par3 ?_
  | with_reducible refine i_gsNil ?_
  | with_reducible refine i_gsCons ?_
  | with_reducible refine i_setIx ?_
  | with_reducible refine i_eLc ?_
  | with_reducible refine i_yes ?_
  | with_reducible refine i_tyS (by with_unfolding_all exact rfl) ?_
  | with_reducible refine i_tyL (by with_unfolding_all exact rfl) ?_
  | with_reducible refine i_lenS (by with_unfolding_all exact rfl) (by rw [sizeLine_eq]; (try simp only [List.length_append, List.length_cons, List.length_nil]); omega) ?_
  | with_reducible refine i_addS (by with_unfolding_all exact rfl) (by with_unfolding_all exact rfl) (by rw [sizeLine_eq]; (try simp only [List.length_append, List.length_cons, List.length_nil]); omega) ?_
  | with_reducible refine i_lenL (by with_unfolding_all exact rfl) ?_
  | with_reducible refine i_intI (by with_unfolding_all exact rfl) ?_
  | with_reducible refine i_abs (by with_unfolding_all exact rfl) ?_
  | with_reducible refine i_list (by with_unfolding_all exact rfl) ?_
  | with_reducible refine c_v (by repeat (first | exact fz_nil | apply fz_v | (apply fz_l; with_unfolding_all exact rfl) | (apply fz_f; with_unfolding_all exact rfl) | apply fz_k)) (by with_unfolding_all exact rfl) ?_
  | with_reducible refine i_lsV ?_
  | with_reducible refine i_exD ?_
  | (with_reducible refine ⟨small_line (by simp only [List.length_cons, List.length_nil]; omega), ?_⟩; simp only [allD, dv_val'])
  | with_reducible refine i_ixL (by with_unfolding_all exact rfl) (by with_unfolding_all exact rfl) (by with_unfolding_all exact rfl) ?_
  | with_reducible refine i_setIx1 (by with_unfolding_all exact rfl) (by with_unfolding_all exact rfl) (by with_unfolding_all exact rfl) (by with_unfolding_all exact rfl) ?_
  | with_reducible refine i_mod (by with_unfolding_all exact rfl) (by with_unfolding_all exact rfl) (by omega) ?_
  | with_reducible refine i_fdiv (by with_unfolding_all exact rfl) (by with_unfolding_all exact rfl) (by omega) (by omega) ?_
  | with_reducible refine i_imul (by with_unfolding_all exact rfl) (by with_unfolding_all exact rfl) (by first | exact cmul_l (by omega) (by omega) | exact cmul_r (by omega) (by omega)) ?_
  | with_reducible refine i_pow (by with_unfolding_all exact rfl) (by with_unfolding_all exact rfl) (cpow (by omega) (by omega) (by omega) (by omega)) ?_
  | with_reducible refine i_sum (by with_unfolding_all exact rfl) ?_
  | with_reducible refine i_rng1 (by omega) (by omega) ?_
  | with_reducible refine i_lcD ?_
  | with_reducible refine i_rt0 ?_
  | with_reducible refine i_nx0 ?_
  | with_reducible refine i_xc0 ?_
  | with_reducible refine fin_d ?_
  | with_reducible refine finX_0 ?_
  | with_reducible refine i_ifT (by with_unfolding_all exact rfl) ?_
  | with_reducible refine i_ifF (by with_unfolding_all exact rfl) ?_
  | with_reducible refine i_iteD (fun _ => ?_) (fun _ => ?_)
  | with_reducible refine i_iteN (fun _ => ?_) (fun _ => ?_)
  | with_reducible refine i_iteNB (fun _ => ?_) (fun _ => ?_)
  | with_reducible refine i_iteB (fun _ => ?_) (fun _ => ?_)
  | with_reducible refine i_fz ?_
  | with_reducible refine i_fr ?_
  | (with_reducible refine i_fzL (by with_unfolding_all exact rfl) (by with_unfolding_all exact rfl) (by with_unfolding_all exact rfl) ?_; dsimp only [List.take, List.set, List.length_nil, List.length_cons, Nat.zero_add, Nat.reduceAdd])
  | (with_reducible refine i_fzLT (by with_unfolding_all exact rfl) (by with_unfolding_all exact rfl) ?_; dsimp only [List.take, List.set, List.length_nil, List.length_cons, Nat.zero_add, Nat.reduceAdd])
  | (with_reducible refine i_fzV (by with_unfolding_all exact rfl) (by with_unfolding_all exact rfl) ?_; dsimp only [List.take, List.set, List.length_nil, List.length_cons, Nat.zero_add, Nat.reduceAdd])
  | (with_reducible refine i_fzVT (by with_unfolding_all exact rfl) ?_; dsimp only [List.take, List.set, List.length_nil, List.length_cons, Nat.zero_add, Nat.reduceAdd]))
/-! pieces, tokens, told -/
def Piece (r : RV) : Prop := ∃ s : List Nat, r = .val (.str s) ∧ s ≠ [] ∧ s.length ≤ 600 ∧ Cps s
theorem run_piece {r : RV} (h : Run r) : Piece r := by
  obtain ⟨s, h1, h2, h3, h4⟩ := h
  exact ⟨s, h1, h2, h3, plain_cps h4⟩
theorem at_strs {l : List (List Nat)} {m : Int} {r : Nat} (hm : m = l.length) (hr : (r : Int) < m) : ∃ s, s ∈ l ∧ atI (l.map D.str) (r : Int) = some (.str s) := by
  have h : r < l.length := by omega
  exact ⟨l[r], List.getElem_mem h, DL.atI_nat (by rw [List.getElem?_map, List.getElem?_eq_getElem h]; rfl)⟩
theorem l__law_piece : ∀ rs ob P R, fxDraw 45 Piece rs ob P R → t__law_piece fx_pick (fxDraw 40 Run) (startE N__law_piece.length rs ob) (endP ob.length P R) := by
  rintro rs ob P R ⟨b, ds, rfl, rfl, hp, hb, q⟩
  show t__law_piece fx_pick (fxDraw 40 Run) ⟨[some (.ob 0), none], [.lst ds]⟩ (endP 1 P R)
  unfold t__law_piece
  repeat' array_get_dec
  refine pick_ok rfl hp (by omega) (by omega) (by omega) fun way ds1 hr1 hp1 => ?_
  repeat' array_get_dec
  · refine draw_ok rfl hp1 (by omega) fun d ds2 hg hp2 => ?_
    obtain ⟨s, e, h2, h3, h4⟩ := run_piece hg
    cases e
    exact fin_d1 rfl (q _ _ ⟨s, rfl, h2, h3, h4⟩ (hp2.mono (by omega)))
  · refine pick_ok rfl hp1 (by omega) (by omega) (by omega) fun r2 ds2 hr2 hp2 => ?_
    obtain ⟨s, hs, ha⟩ := at_strs (l := [[32], [32, 32], [10], [32, 10, 32]]) rfl hr2
    refine i_ixL rfl rfl ha ?_
    have hs' : s ≠ [] ∧ s.length ≤ 600 ∧ Cps s := by
      simp only [List.mem_cons, List.not_mem_nil, or_false] at hs
      rcases hs with rfl | rfl | rfl | rfl <;> exact ⟨by simp, by simp, cps_small (by decide)⟩
    exact fin_d1 rfl (q _ _ ⟨s, rfl, hs'⟩ (hp2.mono (by omega)))
  · rename_i h1 h2 h3
    have hlt : way - 10 < [61, 59, 44, 91, 93].length := by simp; omega
    have e : ((way : Nat) : Int) - 10 = ((way - 10 : Nat) : Int) := by omega
    rw [e]
    refine i_ixS rfl rfl (by rw [sizeLine_eq]; decide) (DL.atI_nat (List.getElem?_eq_getElem hlt)) ?_
    have hm := List.getElem_mem hlt
    have hc : Cps [[61, 59, 44, 91, 93][way - 10]] := fun c hc => by
      have : c = [61, 59, 44, 91, 93][way - 10] := by simpa using hc
      rw [this]
      have a : [61, 59, 44, 91, 93].all (· < 1114112) = true := by decide
      simpa using List.all_eq_true.mp a _ hm
    exact fin_d1 rfl (q _ _ ⟨_, rfl, by simp, by simp, hc⟩ (hp1.mono (by omega)))
  · refine pick_ok rfl hp1 (by omega) (by omega) (by omega) fun r2 ds2 hr2 hp2 => ?_
    obtain ⟨s, hs, ha⟩ := at_strs (l := [[65], [45], [95], [126], [46], [123], [34], [90], [9], [9]]) rfl hr2
    refine i_ixL rfl rfl ha ?_
    have hs' : s ≠ [] ∧ s.length ≤ 600 ∧ Cps s := by
      simp only [List.mem_cons, List.not_mem_nil, or_false] at hs
      rcases hs with rfl | rfl | rfl | rfl | rfl | rfl | rfl | rfl | rfl | rfl <;> exact ⟨by simp, by simp, cps_small (by decide)⟩
    exact fin_d1 rfl (q _ _ ⟨s, rfl, hs'⟩ (hp2.mono (by omega)))
/-! the law's own look at a token -/
def isTok (s : List Nat) : Bool := if 12 < s.length then false else if s.filter (fun c => decide (c ∈ digits)) = [] then true else decide ((s.filter fun c => decide (c ∈ digits)).length = s.length) && (decide (s = [48]) || !decide (s.head? = some 48))
def fx__law_is_token : FX := fun rs ob P _ => ∃ s, rs = [.val (.str s)] ∧ ob = [] ∧ s.length ≤ 100000 ∧ Cps s ∧ P (.val (.bl (isTok s))) []
theorem fig_loop {s : List Nat} {Z : List OD → Prop} {o : Option RV} : ∀ (l acc : List Nat), acc.length + l.length ≤ 100000 → Z [.lst (((acc ++ l.filter fun c => decide (c ∈ digits)).map fun c => [c]).map D.str)] →
    compX [2] (gNm 2) (tVal (op2 (inX false) (eVar 2) (eD (.str digits)))) t__law_is_token_1 (fun _ => True) [some (.val (.str s)), o, none] 0 Z (l.map fun c => .val (.str [c])) [.lst ((acc.map fun c => [c]).map D.str)]
  | [], acc, hl, q => i_cNil trivial (by simpa using q)
  | c :: l, acc, hl, q => by
    rw [List.map_cons]
    refine i_cCons trivial ?_
    rw [List.length_cons] at hl
    refine i_gNm ?_
    dsimp only [List.set, wipeE]
    repeat' array_get_dec
    · rename_i hc
      unfold t__law_is_token_1
      repeat' array_get_dec
      refine i_putD rfl rfl (by rw [sizeLine_eq, List.length_map, List.length_map]; omega) ?_
      have em : ((acc.map fun c => [c]).map D.str ++ [D.str [c]]) = (((acc ++ [c]).map fun c => [c]).map D.str) := by simp
      show compX _ _ _ _ _ _ _ _ _ [.lst ((acc.map fun c => [c]).map D.str ++ [D.str [c]])]
      rw [em]
      refine fig_loop l (acc ++ [c]) (by rw [List.length_append]; simp; omega) ?_
      rw [List.filter_cons_of_pos (by simpa using hc)] at q
      simpa using q
    · rename_i hc
      refine fig_loop l acc (by omega) ?_
      rw [List.filter_cons_of_neg (by simpa using hc)] at q
      exact q
theorem l__law_is_token : ∀ rs ob P R, fx__law_is_token rs ob P R → t__law_is_token (startE N__law_is_token.length rs ob) (endP ob.length P R) := by
  rintro rs ob P R ⟨s, rfl, rfl, hz, hc, q⟩
  show t__law_is_token ⟨[some (.val (.str s)), none, none], []⟩ (endP 0 P R)
  unfold t__law_is_token
  repeat' array_get_dec
  · rename_i h
    have e : isTok s = false := by
      unfold isTok
      rw [if_pos (by omega)]
    rw [e] at q
    exact q
  · rename_i h
    refine fig_loop s [] (by simp; exact hz) ?_
    rw [List.nil_append]
    generalize hf : (s.filter fun c => decide (c ∈ digits)) = figs
    have hfc : Cps figs := fun c h => hc c (List.mem_filter.mp (hf ▸ h)).1
    have hfl : figs.length ≤ s.length := by rw [← hf]; exact List.length_filter_le _ _
    unfold isTok at q
    rw [if_neg (by omega), hf] at q
    repeat' array_get_dec
    refine i_eq (rd_val _ _) (rd_val _ _) (lay_strs fun z hz => ?_) (lay_strs (ss := []) fun z hz => by simp at hz) ?_
    · obtain ⟨c, h1, rfl⟩ := List.mem_map.mp hz
      exact fun d hd => by
        have : d = c := by simpa using hd
        rw [this]
        exact hfc c h1
    · rw [eqv_nl]
      refine ⟨_, rfl, ?_⟩
      refine i_iteB (fun h2 => ?_) (fun h2 => ?_)
      · have e0 : figs = [] := by
          cases figs with
          | nil => rfl
          | cons a b => simp at h2
        rw [if_pos e0] at q
        exact fin_d q
      · have e0 : figs ≠ [] := fun e => by rw [e] at h2; simp at h2
        rw [if_neg e0] at q
        repeat' array_get_dec
        refine i_eq (rd_val _ _) (rd_val _ _) (lay_int _) (lay_int _) ?_
        rw [eqv_ii]
        have el : decide (((((figs.map fun c => [c]).map D.str).length : Nat) : Int) = ((s.length : Nat) : Int)) = decide (figs.length = s.length) := by
          rw [List.length_map, List.length_map, Bool.eq_iff_iff]
          simp
          omega
        rw [el]
        refine ⟨_, rfl, ?_⟩
        refine i_iteD (fun h3 => ?_) (fun h3 => ?_)
        · rw [decide_eq_true h3, Bool.true_and] at q
          repeat' array_get_dec
          refine i_eq (rd_val _ _) (rd_val _ _) (lay_str hc) (lay_str (cps_small (by decide))) ?_
          rw [eqv_ss]
          refine ⟨_, rfl, ?_⟩
          refine i_iteD (fun h4 => ?_) (fun h4 => ?_)
          · rw [decide_eq_true h4, Bool.true_or] at q
            exact fin_d q
          · rw [decide_eq_false h4, Bool.false_or] at q
            repeat' array_get_dec
            cases s with
            | nil =>
              rw [← hf] at e0
              simp at e0
            | cons c r =>
              refine i_ixS rfl rfl (by rw [sizeLine_eq]; omega) atI_zero ?_
              repeat' array_get_dec
              refine i_ne (rd_val _ _) (rd_val _ _) (lay_str fun z hz => ?_) (lay_str (cps_small (by decide))) ?_
              · have : z = c := by simpa using hz
                rw [this]
                exact hc c List.mem_cons_self
              · rw [eqv_ss]
                refine fin_d ?_
                have e : decide ([c] = [48]) = decide ((c :: r).head? = some 48) := by simp
                rw [e]
                exact q
        · rw [decide_eq_false h3, Bool.false_and] at q
          exact fin_d q
/-! what tokens tells, or where it refuses -/
def fx__law_told : FX := fun rs ob P _ => ∃ s, rs = [.val (.str s)] ∧ ob = [] ∧ s.length ≤ 100000 ∧ Cps s ∧ match tkF s with
  | .inr ts => P (.ob 0) [.lst (ts.map .str)]
  | .inl n => P (.val (.int (n : Nat))) []
theorem l__law_told (T : Cn) : ∀ rs ob P R, fx__law_told rs ob P R → t__law_told T fx_tokens (startE N__law_told.length rs ob) (endP ob.length P R) := by
  rintro rs ob P R ⟨s, rfl, rfl, hz, hc, q⟩
  show t__law_told T fx_tokens ⟨[some (.val (.str s)), none], []⟩ (endP 0 P R)
  unfold t__law_told sTryAs
  repeat' array_get_dec
  refine ⟨s, rfl, rfl, hz, hc, ?_⟩
  cases h : tkF s with
  | inr ts =>
    rw [h] at q
    exact fin_n rfl q
  | inl n =>
    rw [h] at q
    refine ⟨true, rfl, ?_⟩
    rw [if_pos rfl]
    intro a cls d dd hcl hdd
    refine i_ret ?_
    refine i_var rfl ⟨dd, 101, _, _, rfl, hcl, hdd (by simp), by simp, rfl, ?_⟩
    exact fin_d q
/-! the same as texts -/
def fx__law_same : FX := fun rs ob P _ => ∃ d, Lay 60 d ∧ shows d = true ∧ (PyData.shown d.py).length ≤ 1000000 ∧
  ((rs = [.val d, .val d] ∧ ob = [] ∧ P (.val (.bl true)) []) ∨ ∃ ds, d = .lst ds ∧ rs = [.ob 0, .val d] ∧ ob = [.lst ds] ∧ P (.val (.bl true)) [.lst ds])
theorem l__law_same : ∀ rs ob P R, fx__law_same rs ob P R → t__law_same (startE N__law_same.length rs ob) (endP ob.length P R) := by
  rintro rs ob P R ⟨d, hl, hs, hz, ⟨rfl, rfl, q⟩ | ⟨ds, rfl, rfl, rfl, q⟩⟩
  · show t__law_same ⟨[some (.val d), some (.val d)], []⟩ (endP 0 P R)
    unfold t__law_same
    repeat' array_get_dec
    refine i_repr (rd_val _ _) hl hs (by rw [sizeLine_eq]; omega) ?_
    repeat' array_get_dec
    refine i_repr (rd_val _ _) hl hs (by rw [sizeLine_eq]; omega) ?_
    refine i_eqS rfl rfl ?_
    rw [decide_eq_true rfl]
    exact fin_d q
  · show t__law_same ⟨[some (.ob 0), some (.val (.lst ds))], [.lst ds]⟩ (endP 1 P R)
    unfold t__law_same
    repeat' array_get_dec
    refine i_repr (rd_ob (ds := ds) rfl) hl hs (by rw [sizeLine_eq]; omega) ?_
    repeat' array_get_dec
    refine i_repr (rd_val _ _) hl hs (by rw [sizeLine_eq]; omega) ?_
    refine i_eqS rfl rfl ?_
    rw [decide_eq_true rfl]
    exact fin_d1 rfl q

end LW
end
section
set_option Elab.async false
set_option linter.all false
set_option autoImplicit false
set_option maxRecDepth 100000
set_option maxHeartbeats 1000000
namespace LW
open PySem PySem.Spec PyProof.Rows DL
open L2 hiding St start
local macro_rules | `(tactic| array_get_dec) => `(tactic| first
  | with_reducible refine i_seq ?_
  | with_reducible refine i_asg ?_
  | (with_reducible refine i_gNm ?_; dsimp only [List.set])
  | with_reducible refine i_var (by with_unfolding_all exact rfl) ?_
  | with_reducible refine i_d ?_
  | with_reducible refine i_op2 ?_
  | with_reducible refine i_ret ?_
  | with_reducible refine i_sIf ?_
  | with_reducible refine i_val ?_
  | with_reducible refine i_isb ?_
  | with_reducible refine i_cons ?_
  | with_reducible refine i_nil ?_
  | with_reducible refine i_eB ?_
  | with_reducible refine i_call ?_
  | with_reducible refine i_tTru ?_
  | with_reducible refine i_tru (by with_unfolding_all exact rfl) (by with_unfolding_all exact trivial) ?_
  | with_reducible refine i_and ?_
  | with_reducible refine i_or ?_
  | with_reducible refine i_not ?_
  | with_reducible refine i_next ?_
  | with_reducible refine i_eand ?_
  | with_reducible refine i_eor ?_
  | with_reducible refine i_eif ?_
  | with_reducible refine i_enot ?_
  | with_reducible refine i_lt (by with_unfolding_all exact rfl) (by with_unfolding_all exact rfl) ?_
  | with_reducible refine i_le (by with_unfolding_all exact rfl) (by with_unfolding_all exact rfl) ?_
  | with_reducible refine i_gt (by with_unfolding_all exact rfl) (by with_unfolding_all exact rfl) ?_
  | with_reducible refine i_ge (by with_unfolding_all exact rfl) (by with_unfolding_all exact rfl) ?_
  | with_reducible refine i_sub (by with_unfolding_all exact rfl) (by with_unfolding_all exact rfl) ?_
  | with_reducible refine i_addI (by with_unfolding_all exact rfl) (by with_unfolding_all exact rfl) ?_
  | with_reducible refine i_isi ?_
  | with_reducible refine i_isi1 (by with_unfolding_all exact rfl) (by with_unfolding_all exact rfl) ?_
  | with_reducible refine i_chain ?_
  | with_reducible refine i_drop ?_
  | with_reducible refine i_brk ?_
  | with_reducible refine i_cont ?_
  | with_reducible refine i_retN ?_
  | with_reducible refine i_isN ?_
  | with_reducible refine i_notN ?_
  | with_reducible refine i_eLst ?_
  | with_reducible refine i_eTup ?_
  | with_reducible refine i_eM ?_
  | with_reducible refine i_neg ?_
  | with_reducible refine i_neg1 (by with_unfolding_all exact rfl) ?_
  | with_reducible refine i_par2 ?_
  | with_reducible refine i_par33 ?_
  | with_reducible refine i_for ?_
  | with_reducible refine i_iSeq ?_
  | with_reducible refine i_seqI (by with_unfolding_all exact rfl) ?_
  | with_reducible refine i_iR1 ?_
  | with_reducible refine i_iEn ?_
  | with_reducible refine i_eSl ?_
  | with_reducible refine i_pNone ?_
  | with_reducible refine i_pSome ?_
  | with_reducible refine i_int1 (by with_unfolding_all exact rfl) ?_
  | with_reducible refine i_d1 (by with_unfolding_all exact rfl) ?_
  | with_reducible refine i_raise ?_
  | with_reducible refine i_aug (by with_unfolding_all exact rfl) ?_
  | (with_reducible refine i_augI (by with_unfolding_all exact rfl) (by with_unfolding_all exact rfl) ?_; dsimp only [List.set])
  | with_reducible refine i_eqS (by with_unfolding_all exact rfl) (by with_unfolding_all exact rfl) ?_
  | with_reducible refine i_neS (by with_unfolding_all exact rfl) (by with_unfolding_all exact rfl) ?_
  | with_reducible refine i_inC (by with_unfolding_all exact rfl) (by with_unfolding_all exact rfl) ?_
  | with_reducible refine i_ninC (by with_unfolding_all exact rfl) (by with_unfolding_all exact rfl) ?_
  | with_reducible refine i_par ?_
  | with_reducible refine i_par3 ?_
  | with_reducible refine i_gsNil ?_
  | with_reducible refine i_gsCons ?_
  | with_reducible refine i_setIx ?_
  | with_reducible refine i_eLc ?_
  | with_reducible refine i_yes ?_
  | with_reducible refine i_tyS (by with_unfolding_all exact rfl) ?_
  | with_reducible refine i_tyL (by with_unfolding_all exact rfl) ?_
  | with_reducible refine i_lenS (by with_unfolding_all exact rfl) (by rw [sizeLine_eq]; (try simp only [List.length_append, List.length_cons, List.length_nil]); omega) ?_
  | with_reducible refine i_addS (by with_unfolding_all exact rfl) (by with_unfolding_all exact rfl) (by rw [sizeLine_eq]; (try simp only [List.length_append, List.length_cons, List.length_nil]); omega) ?_
  | with_reducible refine i_lenL (by with_unfolding_all exact rfl) ?_
  | with_reducible refine i_intI (by with_unfolding_all exact rfl) ?_
  | with_reducible refine i_abs (by with_unfolding_all exact rfl) ?_
  | with_reducible refine i_list (by with_unfolding_all exact rfl) ?_
  | with_reducible refine c_v (by repeat (first | exact fz_nil | apply fz_v | (apply fz_l; with_unfolding_all exact rfl) | (apply fz_f; with_unfolding_all exact rfl) | apply fz_k)) (by with_unfolding_all exact rfl) ?_
  | with_reducible refine i_lsV ?_
  | with_reducible refine i_exD ?_
  | (with_reducible refine ⟨small_line (by simp only [List.length_cons, List.length_nil]; omega), ?_⟩; simp only [allD, dv_val'])
  | with_reducible refine i_ixL (by with_unfolding_all exact rfl) (by with_unfolding_all exact rfl) (by with_unfolding_all exact rfl) ?_
  | with_reducible refine i_setIx1 (by with_unfolding_all exact rfl) (by with_unfolding_all exact rfl) (by with_unfolding_all exact rfl) (by with_unfolding_all exact rfl) ?_
  | with_reducible refine i_mod (by with_unfolding_all exact rfl) (by with_unfolding_all exact rfl) (by omega) ?_
  | with_reducible refine i_fdiv (by with_unfolding_all exact rfl) (by with_unfolding_all exact rfl) (by omega) (by omega) ?_
  | with_reducible refine i_imul (by with_unfolding_all exact rfl) (by with_unfolding_all exact rfl) (by first | exact cmul_l (by omega) (by omega) | exact cmul_r (by omega) (by omega)) ?_
  | with_reducible refine i_pow (by with_unfolding_all exact rfl) (by with_unfolding_all exact rfl) (cpow (by omega) (by omega) (by omega) (by omega)) ?_
  | with_reducible refine i_sum (by with_unfolding_all exact rfl) ?_
  | with_reducible refine i_rng1 (by omega) (by omega) ?_
  | with_reducible refine i_lcD ?_
  | with_reducible refine i_rt0 ?_
  | with_reducible refine i_nx0 ?_
  | with_reducible refine i_xc0 ?_
  | with_reducible refine fin_d ?_
  | with_reducible refine finX_0 ?_
  | with_reducible refine i_ifT (by with_unfolding_all exact rfl) ?_
  | with_reducible refine i_ifF (by with_unfolding_all exact rfl) ?_
  | with_reducible refine i_iteD (fun _ => ?_) (fun _ => ?_)
  | with_reducible refine i_iteN (fun _ => ?_) (fun _ => ?_)
  | with_reducible refine i_iteNB (fun _ => ?_) (fun _ => ?_)
  | with_reducible refine i_iteB (fun _ => ?_) (fun _ => ?_)
  | with_reducible refine i_fz ?_
  | with_reducible refine i_fr ?_
  | (with_reducible refine i_fzL (by with_unfolding_all exact rfl) (by with_unfolding_all exact rfl) (by with_unfolding_all exact rfl) ?_; dsimp only [List.take, List.set, List.length_nil, List.length_cons, Nat.zero_add, Nat.reduceAdd])
  | (with_reducible refine i_fzLT (by with_unfolding_all exact rfl) (by with_unfolding_all exact rfl) ?_; dsimp only [List.take, List.set, List.length_nil, List.length_cons, Nat.zero_add, Nat.reduceAdd])
  | (with_reducible refine i_fzV (by with_unfolding_all exact rfl) (by with_unfolding_all exact rfl) ?_; dsimp only [List.take, List.set, List.length_nil, List.length_cons, Nat.zero_add, Nat.reduceAdd])
  | (with_reducible refine i_fzVT (by with_unfolding_all exact rfl) ?_; dsimp only [List.take, List.set, List.length_nil, List.length_cons, Nat.zero_add, Nat.reduceAdd]))
/-! the law's own cutting, beside the package's -/
def cutL : Nat → List Nat → List (List Nat) → List Nat → Nat → Nat ⊕ List (List Nat)
  | _, [], found, _, _ => .inr found
  | p, c :: r, found, run, beg => if plain c = true then cutL (p + 1) r found (run ++ [c]) (if run = [] then p else beg)
    else if run ≠ [] ∧ isTok run = false then .inl beg
    else if c ∈ ([61, 59, 44, 91, 93] : List Nat) then cutL (p + 1) r ((if run = [] then found else found ++ [run]) ++ [[c]]) [] beg
    else if c ∈ ([32, 10] : List Nat) then cutL (p + 1) r (if run = [] then found else found ++ [run]) [] beg else .inl p
theorem plain_32 : plain 32 = false := by decide
theorem signs_in (c : Nat) : [c] ∈ signs ↔ c ∈ ([61, 59, 44, 91, 93] : List Nat) := by simp [signs]
theorem blank_in (c : Nat) : [c] ∈ ([[32], [10]] : List (List Nat)) ↔ c ∈ ([32, 10] : List Nat) := by simp
theorem cut_run : ∀ (r run : List Nat) (p : Nat) (acc : List (List Nat)) (beg : Nat), run ≠ [] → cutL p (r ++ [32]) acc run beg = cutL (p + (r.takeWhile plain).length) (r.dropWhile plain ++ [32]) acc (run ++ r.takeWhile plain) beg
  | [], run, p, acc, beg, _ => by simp
  | c :: r, run, p, acc, beg, h => by
    cases hp : plain c with
    | true =>
      rw [List.takeWhile_cons_of_pos hp, List.dropWhile_cons_of_pos hp, List.cons_append, cutL, if_pos hp, if_neg h, cut_run r (run ++ [c]) (p + 1) acc beg (by simp), List.length_cons]
      have e1 : p + 1 + (r.takeWhile plain).length = p + ((r.takeWhile plain).length + 1) := by omega
      rw [e1, List.append_assoc]
      rfl
    | false =>
      rw [List.takeWhile_cons_of_neg (by rw [hp]; decide), List.dropWhile_cons_of_neg (by rw [hp]; decide)]
      simp
theorem cut_stop {p : Nat} {c : Nat} {r : List Nat} {acc : List (List Nat)} {run : List Nat} {beg : Nat} (hc : plain c = false) (h : run ≠ []) : cutL p (c :: r) acc run beg = if isTok run = true then cutL p (c :: r) (acc ++ [run]) [] beg else .inl beg := by
  cases ht : isTok run with
  | true => rw [cutL, cutL, hc]; simp [h, ht]
  | false => rw [cutL, hc]; simp [h, ht]
theorem filter_dig_nil {s : List Nat} (h : s.all plain = true) : (s.filter (fun c => decide (c ∈ digits)) = []) ↔ s.all (fun c => decide (c ∈ letters)) = true := by
  rw [List.filter_eq_nil_iff, List.all_eq_true]
  have hd : ∀ c, c ∈ letters → c ∉ digits := by
    intro c hc
    have : letters.all (fun c => !decide (c ∈ digits)) = true := by decide
    have := List.all_eq_true.mp this c hc
    simpa using this
  constructor
  · intro g c hc
    have := List.all_eq_true.mp h c hc
    have g' := g c hc
    unfold plain at this
    simp only [decide_eq_true_eq] at g'
    rw [decide_eq_false g', Bool.or_false] at this
    exact this
  · intro g c hc
    have := g c hc
    simp only [decide_eq_true_eq] at this ⊢
    exact hd c this
theorem filter_dig_all {s : List Nat} : ((s.filter fun c => decide (c ∈ digits)).length = s.length) ↔ s.all (fun c => decide (c ∈ digits)) = true := by
  rw [List.length_filter_eq_length_iff, List.all_eq_true]
theorem sort_tok {s : List Nat} (h : s.all plain = true) (hn : s ≠ []) : (sortD s).isN = !isTok s := by
  have hl : 1 ≤ s.length := by
    cases s with
    | nil => exact absurd rfl hn
    | cons a b => simp
  have hs : ¬ s ∈ signs := fun hm => by
    have : signs.all (fun z => !(z.all plain)) = true := by decide
    have := List.all_eq_true.mp this s hm
    rw [h] at this
    exact absurd this (by decide)
  unfold sortD
  rw [if_neg hs]
  unfold isWord isNum madeOf isTok
  by_cases h12 : s.length ≤ 12
  · rw [decide_eq_true hl, decide_eq_true h12, if_neg (show ¬ 12 < s.length by omega)]
    simp only [Bool.true_and]
    by_cases hf : s.filter (fun c => decide (c ∈ digits)) = []
    · rw [if_pos hf, if_pos ((filter_dig_nil h).mp hf)]
      rfl
    · rw [if_neg hf, if_neg (fun z => hf ((filter_dig_nil h).mpr z))]
      by_cases ha : s.all (fun c => decide (c ∈ digits)) = true
      · rw [decide_eq_true (filter_dig_all.mpr ha), ha]
        simp only [Bool.true_and]
        cases (decide (s = [48]) || !decide (s.head? = some 48)) <;> rfl
      · rw [decide_eq_false (fun z => ha (filter_dig_all.mp z))]
        have ha' : s.all (fun c => decide (c ∈ digits)) = false := by simpa using ha
        rw [ha']
        rfl
  · rw [decide_eq_false h12, if_pos (show 12 < s.length by omega)]
    simp [D.isN]
theorem tw_all (p : Nat → Bool) (l : List Nat) : (l.takeWhile p).all p = true := by
  induction l with
  | nil => rfl
  | cons a l ih =>
    cases h : p a with
    | true => rw [List.takeWhile_cons_of_pos h, List.all_cons, h, ih]; rfl
    | false => rw [List.takeWhile_cons_of_neg (by rw [h]; decide)]; rfl
theorem dw_head {p : Nat → Bool} : ∀ {l : List Nat} {d : Nat} {r : List Nat}, l.dropWhile p = d :: r → p d = false
  | a :: l, d, r, h => by
    cases ha : p a with
    | true => rw [List.dropWhile_cons_of_pos ha] at h; exact dw_head h
    | false =>
      rw [List.dropWhile_cons_of_neg (by rw [ha]; decide)] at h
      cases h
      exact ha
theorem tk_nil (k n : Nat) (acc : List (List Nat)) : tkN k n [] acc = .inr acc := by cases k <;> rw [tkN]
theorem cut_tk : ∀ (k p : Nat) (s : List Nat) (acc : List (List Nat)) (beg : Nat), s.length ≤ k → cutL p (s ++ [32]) acc [] beg = tkN k p s acc := by
  intro k
  induction k with
  | zero =>
    intro p s acc beg h
    have : s = [] := List.length_eq_zero_iff.mp (by omega)
    subst this
    rw [tk_nil, List.nil_append, cutL, plain_32]
    simp [cutL]
  | succ k ih =>
    intro p s acc beg h
    cases s with
    | nil =>
      rw [tk_nil, List.nil_append, cutL, plain_32]
      simp [cutL]
    | cons c r =>
      rw [List.length_cons] at h
      rw [List.cons_append, cutL, tkN]
      cases hp : plain c with
      | true =>
        rw [if_pos rfl, if_pos rfl, if_pos rfl, List.nil_append, cut_run r [c] (p + 1) acc p (by simp)]
        have hall : (c :: r.takeWhile plain).all plain = true := by rw [List.all_cons, hp, tw_all]; rfl
        have hst := sort_tok hall (by simp)
        have hw : ([c] : List Nat) ++ r.takeWhile plain = c :: r.takeWhile plain := rfl
        rw [hw, hst]
        have hdl : (r.dropWhile plain).length ≤ k := Nat.le_trans (List.dropWhile_sublist _).length_le (by omega)
        have e1 : p + 1 + (r.takeWhile plain).length = p + (c :: r.takeWhile plain).length := by rw [List.length_cons]; omega
        have key : ∀ (d : Nat) (z : List Nat), r.dropWhile plain ++ [32] = d :: z → plain d = false → cutL (p + (c :: r.takeWhile plain).length) (r.dropWhile plain ++ [32]) acc (c :: r.takeWhile plain) p =
            if (!isTok (c :: r.takeWhile plain)) = true then .inl p else tkN k (p + (c :: r.takeWhile plain).length) (r.dropWhile plain) (acc ++ [c :: r.takeWhile plain]) := fun d z e hd => by
          rw [e, cut_stop hd (by simp), ← e]
          cases isTok (c :: r.takeWhile plain) with
          | true => rw [if_pos rfl, ih _ _ _ _ hdl]; rfl
          | false => rfl
        rw [e1]
        cases hdw : r.dropWhile plain with
        | nil =>
          have := key 32 [] (by rw [hdw]; rfl) plain_32
          rw [hdw] at this
          exact this
        | cons d z =>
          have := key d (z ++ [32]) (by rw [hdw]; rfl) (dw_head hdw)
          rw [hdw] at this
          exact this
      | false =>
        rw [if_neg Bool.false_ne_true, if_neg Bool.false_ne_true, if_neg (by simp)]
        by_cases h1 : c ∈ ([61, 59, 44, 91, 93] : List Nat)
        · rw [if_pos h1, if_pos ((signs_in c).mpr h1), if_pos rfl]
          exact ih _ _ _ _ (by omega)
        · rw [if_neg h1, if_neg (fun z => h1 ((signs_in c).mp z))]
          by_cases h2 : c ∈ ([32, 10] : List Nat)
          · rw [if_pos h2, if_pos ((blank_in c).mpr h2), if_pos rfl]
            exact ih _ _ _ _ (by omega)
          · rw [if_neg h2, if_neg (fun z => h2 ((blank_in c).mp z))]
def fx__law_cut : FX := fun rs ob P _ => ∃ s, rs = [.val (.str s)] ∧ ob = [] ∧ s.length ≤ 90000 ∧ Cps s ∧ match tkF s with
  | .inr ts => P (.val (.lst (ts.map .str))) []
  | .inl n => P (.val (.int (n : Nat))) []

end LW
end
section
set_option Elab.async false
set_option linter.all false
set_option autoImplicit false
set_option maxRecDepth 100000
set_option maxHeartbeats 1000000
namespace LW
open PySem PySem.Spec PyProof.Rows DL
open L2 hiding St start
local macro_rules | `(tactic| array_get_dec) => `(tactic| first
  | with_reducible refine i_seq ?_
  | with_reducible refine i_asg ?_
  | (with_reducible refine i_gNm ?_; dsimp only [List.set])
  | with_reducible refine i_var (by with_unfolding_all exact rfl) ?_
  | with_reducible refine i_d ?_
  | with_reducible refine i_op2 ?_
  | with_reducible refine i_ret ?_
  | with_reducible refine i_sIf ?_
  | with_reducible refine i_val ?_
  | with_reducible refine i_isb ?_
  | with_reducible refine i_cons ?_
  | with_reducible refine i_nil ?_
  | with_reducible refine i_eB ?_
  | with_reducible refine i_call ?_
  | with_reducible refine i_tTru ?_
  | with_reducible refine i_tru (by with_unfolding_all exact rfl) (by with_unfolding_all exact trivial) ?_
  | with_reducible refine i_and ?_
  | with_reducible refine i_or ?_
  | with_reducible refine i_not ?_
  | with_reducible refine i_next ?_
  | with_reducible refine i_eand ?_
  | with_reducible refine i_eor ?_
  | with_reducible refine i_eif ?_
  | with_reducible refine i_enot ?_
  | with_reducible refine i_lt (by with_unfolding_all exact rfl) (by with_unfolding_all exact rfl) ?_
  | with_reducible refine i_le (by with_unfolding_all exact rfl) (by with_unfolding_all exact rfl) ?_
  | with_reducible refine i_gt (by with_unfolding_all exact rfl) (by with_unfolding_all exact rfl) ?_
  | with_reducible refine i_ge (by with_unfolding_all exact rfl) (by with_unfolding_all exact rfl) ?_
  | with_reducible refine i_sub (by with_unfolding_all exact rfl) (by with_unfolding_all exact rfl) ?_
  | with_reducible refine i_addI (by with_unfolding_all exact rfl) (by with_unfolding_all exact rfl) ?_
  | with_reducible refine i_isi ?_
  | with_reducible refine i_isi1 (by with_unfolding_all exact rfl) (by with_unfolding_all exact rfl) ?_
  | with_reducible refine i_chain ?_
  | with_reducible refine i_drop ?_
  | with_reducible refine i_brk ?_
  | with_reducible refine i_cont ?_
  | with_reducible refine i_retN ?_
  | with_reducible refine i_isN ?_
  | with_reducible refine i_notN ?_
  | with_reducible refine i_eLst ?_
  | with_reducible refine i_eTup ?_
  | with_reducible refine i_eM ?_
  | with_reducible refine i_neg ?_
  | with_reducible refine i_neg1 (by with_unfolding_all exact rfl) ?_
  | with_reducible refine i_par2 ?_
  | with_reducible refine i_par33 ?_
  | with_reducible refine i_for ?_
  | with_reducible refine i_iSeq ?_
  | with_reducible refine i_seqI (by with_unfolding_all exact rfl) ?_
  | with_reducible refine i_iR1 ?_
  | with_reducible refine i_iEn ?_
  | with_reducible refine i_eSl ?_
  | with_reducible refine i_pNone ?_
  | with_reducible refine i_pSome ?_
  | with_reducible refine i_int1 (by with_unfolding_all exact rfl) ?_
  | with_reducible refine i_d1 (by with_unfolding_all exact rfl) ?_
  | with_reducible refine i_raise ?_
  | with_reducible refine i_aug (by with_unfolding_all exact rfl) ?_
  | (with_reducible refine i_augI (by with_unfolding_all exact rfl) (by with_unfolding_all exact rfl) ?_; dsimp only [List.set])
  | with_reducible refine i_eqS (by with_unfolding_all exact rfl) (by with_unfolding_all exact rfl) ?_
  | with_reducible refine i_neS (by with_unfolding_all exact rfl) (by with_unfolding_all exact rfl) ?_
  | with_reducible refine i_inC (by with_unfolding_all exact rfl) (by with_unfolding_all exact rfl) ?_
  | with_reducible refine i_ninC (by with_unfolding_all exact rfl) (by with_unfolding_all exact rfl) ?_
  | with_reducible refine i_par ?_
  | with_reducible refine i_par3 ?_
  | with_reducible refine i_gsNil ?_
  | with_reducible refine i_gsCons ?_
  | with_reducible refine i_setIx ?_
  | with_reducible refine i_eLc ?_
  | with_reducible refine i_yes ?_
  | with_reducible refine i_tyS (by with_unfolding_all exact rfl) ?_
  | with_reducible refine i_tyL (by with_unfolding_all exact rfl) ?_
  | with_reducible refine i_lenS (by with_unfolding_all exact rfl) (by rw [sizeLine_eq]; (try simp only [List.length_append, List.length_cons, List.length_nil]); omega) ?_
  | with_reducible refine i_addS (by with_unfolding_all exact rfl) (by with_unfolding_all exact rfl) (by rw [sizeLine_eq]; (try simp only [List.length_append, List.length_cons, List.length_nil]); omega) ?_
  | with_reducible refine i_lenL (by with_unfolding_all exact rfl) ?_
  | with_reducible refine i_intI (by with_unfolding_all exact rfl) ?_
  | with_reducible refine i_abs (by with_unfolding_all exact rfl) ?_
  | with_reducible refine i_list (by with_unfolding_all exact rfl) ?_
  | with_reducible refine c_v (by repeat (first | exact fz_nil | apply fz_v | (apply fz_l; with_unfolding_all exact rfl) | (apply fz_f; with_unfolding_all exact rfl) | apply fz_k)) (by with_unfolding_all exact rfl) ?_
  | with_reducible refine i_lsV ?_
  | with_reducible refine i_exD ?_
  | (with_reducible refine ⟨small_line (by simp only [List.length_cons, List.length_nil]; omega), ?_⟩; simp only [allD, dv_val'])
  | with_reducible refine i_ixL (by with_unfolding_all exact rfl) (by with_unfolding_all exact rfl) (by with_unfolding_all exact rfl) ?_
  | with_reducible refine i_setIx1 (by with_unfolding_all exact rfl) (by with_unfolding_all exact rfl) (by with_unfolding_all exact rfl) (by with_unfolding_all exact rfl) ?_
  | with_reducible refine i_mod (by with_unfolding_all exact rfl) (by with_unfolding_all exact rfl) (by omega) ?_
  | with_reducible refine i_fdiv (by with_unfolding_all exact rfl) (by with_unfolding_all exact rfl) (by omega) (by omega) ?_
  | with_reducible refine i_imul (by with_unfolding_all exact rfl) (by with_unfolding_all exact rfl) (by first | exact cmul_l (by omega) (by omega) | exact cmul_r (by omega) (by omega)) ?_
  | with_reducible refine i_pow (by with_unfolding_all exact rfl) (by with_unfolding_all exact rfl) (cpow (by omega) (by omega) (by omega) (by omega)) ?_
  | with_reducible refine i_sum (by with_unfolding_all exact rfl) ?_
  | with_reducible refine i_rng1 (by omega) (by omega) ?_
  | with_reducible refine i_lcD ?_
  | with_reducible refine i_rt0 ?_
  | with_reducible refine i_nx0 ?_
  | with_reducible refine i_xc0 ?_
  | with_reducible refine fin_d ?_
  | with_reducible refine finX_0 ?_
  | with_reducible refine i_ifT (by with_unfolding_all exact rfl) ?_
  | with_reducible refine i_ifF (by with_unfolding_all exact rfl) ?_
  | with_reducible refine i_iteD (fun _ => ?_) (fun _ => ?_)
  | with_reducible refine i_iteN (fun _ => ?_) (fun _ => ?_)
  | with_reducible refine i_iteNB (fun _ => ?_) (fun _ => ?_)
  | with_reducible refine i_iteB (fun _ => ?_) (fun _ => ?_)
  | with_reducible refine i_fz ?_
  | with_reducible refine i_fr ?_
  | (with_reducible refine i_fzL (by with_unfolding_all exact rfl) (by with_unfolding_all exact rfl) (by with_unfolding_all exact rfl) ?_; dsimp only [List.take, List.set, List.length_nil, List.length_cons, Nat.zero_add, Nat.reduceAdd])
  | (with_reducible refine i_fzLT (by with_unfolding_all exact rfl) (by with_unfolding_all exact rfl) ?_; dsimp only [List.take, List.set, List.length_nil, List.length_cons, Nat.zero_add, Nat.reduceAdd])
  | (with_reducible refine i_fzV (by with_unfolding_all exact rfl) (by with_unfolding_all exact rfl) ?_; dsimp only [List.take, List.set, List.length_nil, List.length_cons, Nat.zero_add, Nat.reduceAdd])
  | (with_reducible refine i_fzVT (by with_unfolding_all exact rfl) ?_; dsimp only [List.take, List.set, List.length_nil, List.length_cons, Nat.zero_add, Nat.reduceAdd]))
theorem in36 (c : Nat) : decide (c ∈ ([97, 98, 99, 100, 101, 102, 103, 104, 105, 106, 107, 108, 109, 110, 111, 112, 113, 114, 115, 116, 117, 118, 119, 120, 121, 122, 48, 49, 50, 51, 52, 53, 54, 55, 56, 57] : List Nat)) = plain c := by
  unfold plain
  rw [← Bool.decide_or, decide_eq_decide]
  have : ([97, 98, 99, 100, 101, 102, 103, 104, 105, 106, 107, 108, 109, 110, 111, 112, 113, 114, 115, 116, 117, 118, 119, 120, 121, 122, 48, 49, 50, 51, 52, 53, 54, 55, 56, 57] : List Nat) = letters ++ digits := rfl
  rw [this, List.mem_append]
theorem numd_from (ds : List D) (p : Nat) (d : D) : ((d :: ds).zipIdx p).map (fun q : D × Nat => (RV.val (.tup [.int (q.2 : Nat), q.1]) : RV)) = .val (.tup [.int (p : Nat), d]) :: (ds.zipIdx (p + 1)).map (fun q : D × Nat => (RV.val (.tup [.int (q.2 : Nat), q.1]) : RV)) := by
  rw [List.zipIdx_cons, List.map_cons]
theorem cut_loop {Po : Post} {t0 : RV} : ∀ (l : List Nat) (p : Nat) (found : List (List Nat)) (run : List Nat) (beg : Nat) (o4 o5 : Option RV), found.length + run.length + l.length ≤ 100000 → Cps run → Cps l →
    (match cutL p l found run beg with
      | .inr ts => ∀ o2 o3 o4 o5, Po.nx ⟨[some t0, some (.ob 0), o2, o3, o4, o5], [.lst (ts.map .str)]⟩
      | .inl k => ∀ e, Po.rt (.val (.int (k : Nat))) e) →
    forX (gTp 2 (gsCons (gNm 4) (gsCons (gNm 5) gsNil))) (t__law_cut_1 fx__law_is_token) (fun _ => True) Po (((l.map fun c => D.str [c]).zipIdx p).map fun q : D × Nat => .val (.tup [.int (q.2 : Nat), q.1])) ⟨[some t0, some (.ob 0), some (.val (.str run)), some (.val (.int (beg : Nat))), o4, o5], [.lst (found.map .str)]⟩
  | [], p, found, run, beg, o4, o5, _, _, _, q => by
    rw [cutL] at q
    exact i_fNil trivial (q _ _ _ _)
  | c :: l, p, found, run, beg, o4, o5, hl, hr, hcl, q => by
    rw [List.map_cons, numd_from]
    rw [List.length_cons] at hl
    have hc1 : Cps [c] := fun d hd => by
      have : d = c := by simpa using hd
      rw [this]
      exact hcl c List.mem_cons_self
    have hl1 : Cps l := fun d hd => hcl d (List.mem_cons_of_mem _ hd)
    have e1 : ((p : Nat) : Int) + 1 = ((p + 1 : Nat) : Int) := by omega
    refine i_fCons trivial ?_
    refine i_gTp (tpI_val _ _) rfl ?_
    refine i_gsCons (i_gNm (i_gsCons (i_gNm (i_gsNil ?_))))
    dsimp only [List.set]
    unfold t__law_cut_1
    refine i_seq (i_sIf (i_val (i_op2 (i_var rfl (i_d (i_inC rfl rfl ?_))))))
    rw [in36]
    refine i_isb ?_
    rw [cutL] at q
    cases hp : plain c with
    | true =>
      rw [hp, if_pos rfl] at q
      refine i_if1 ?_
      by_cases hrun : run = []
      · subst hrun
        rw [if_pos rfl] at q
        repeat' array_get_dec
        exact cut_loop l (p + 1) found [c] p _ _ (by simp; omega) hc1 hl1 q
      · rw [if_neg hrun] at q
        repeat' array_get_dec
        · rename_i h
          exact absurd (of_decide_eq_true h) hrun
        · exact cut_loop l (p + 1) found (run ++ [c]) beg _ _ (by rw [List.length_append]; simp; omega) (cps_app hr hc1) hl1 q
    | false =>
      rw [hp, if_neg Bool.false_ne_true] at q
      refine i_if0 ?_
      -- the sign behind a run, if any
      have tail : ∀ (fd : List (List Nat)), fd.length + l.length + 1 ≤ 100000 → (match (if c ∈ ([61, 59, 44, 91, 93] : List Nat) then cutL (p + 1) l (fd ++ [[c]]) [] beg else if c ∈ ([32, 10] : List Nat) then cutL (p + 1) l fd [] beg else .inl p) with
          | .inr ts => ∀ o2 o3 o4 o5, Po.nx ⟨[some t0, some (.ob 0), o2, o3, o4, o5], [.lst (ts.map .str)]⟩
          | .inl k => ∀ e, Po.rt (.val (.int (k : Nat))) e) →
          (sIf (tVal (op2 (inX false) (eVar 5) (eD (.str [61, 59, 44, 91, 93])))) (sDrop (eM tyLs appX (eVar 1) (aCons (eVar 5) aNil))) (sIf (tVal (op2 (inX true) (eVar 5) (eD (.str [32, 10])))) (sRet (eVar 4)) sNext)) ⟨[some t0, some (.ob 0), some (.val (.str [])), some (.val (.int (beg : Nat))), some (.val (.int (p : Nat))), some (.val (.str [c]))], [.lst (fd.map .str)]⟩
            { nx := forX (gTp 2 (gsCons (gNm 4) (gsCons (gNm 5) gsNil))) (t__law_cut_1 fx__law_is_token) (fun _ => True) Po (((l.map fun c => D.str [c]).zipIdx (p + 1)).map fun q : D × Nat => .val (.tup [.int (q.2 : Nat), q.1])), rt := Po.rt, xc := Po.xc, bk := Po.nx, ct := forX (gTp 2 (gsCons (gNm 4) (gsCons (gNm 5) gsNil))) (t__law_cut_1 fx__law_is_token) (fun _ => True) Po (((l.map fun c => D.str [c]).zipIdx (p + 1)).map fun q : D × Nat => .val (.tup [.int (q.2 : Nat), q.1])) } := fun fd hfd q => by
        refine i_sIf (i_val (i_op2 (i_var rfl (i_d (i_inC rfl rfl (i_isb ?_))))))
        refine i_iteD (fun h1 => ?_) (fun h1 => ?_)
        · rw [if_pos h1] at q
          repeat' array_get_dec
          refine i_app rfl rfl (by rw [sizeLine_eq, List.length_map]; omega) ?_
          have em : fd.map D.str ++ [D.str [c]] = (fd ++ [[c]]).map D.str := by simp
          have := cut_loop l (p + 1) (fd ++ [[c]]) [] beg (some (.val (.int (p : Nat)))) (some (.val (.str [c]))) (by rw [List.length_append]; simp; omega) (fun d hd => by simp at hd) hl1 q
          rw [← em] at this
          exact this
        · rw [if_neg h1] at q
          refine i_sIf (i_val (i_op2 (i_var rfl (i_d (i_ninC rfl rfl (i_isb ?_))))))
          refine i_iteN (fun h2 => ?_) (fun h2 => ?_)
          · rw [if_neg h2] at q
            repeat' array_get_dec
            exact q _
          · rw [if_pos h2] at q
            repeat' array_get_dec
            exact cut_loop l (p + 1) fd [] beg (some (.val (.int (p : Nat)))) (some (.val (.str [c]))) (by simp; omega) (fun d hd => by simp at hd) hl1 q
      refine i_next (i_seq (i_sIf (i_val (i_op2 (i_var rfl (i_d (i_neS rfl rfl (i_isb ?_))))))))
      by_cases hrun : run = []
      · subst hrun
        rw [if_neg (by simp), if_pos rfl] at q
        refine i_if0 (i_next ?_)
        exact tail found (by simp at hl; omega) q
      · rw [if_neg hrun] at q
        rw [decide_eq_false hrun]
        refine i_if1 ?_
        refine i_seq (i_sIf (i_not (i_tTru (i_call (i_cons (i_var rfl (i_nil ?_)))))))
        refine c_v (fz_v fz_nil) rfl ⟨run, rfl, rfl, by omega, hr, ?_⟩
        refine i_tru rfl trivial ?_
        cases ht : isTok run with
        | false =>
          rw [ht, if_pos ⟨hrun, rfl⟩] at q
          refine i_if1 (i_ret (i_var rfl ?_))
          exact q _
        | true =>
          rw [ht, if_neg (by simp)] at q
          refine i_if0 (i_next ?_)
          refine i_seq (i_drop (i_eM (i_var rfl (i_tyL rfl (i_cons (i_var rfl (i_nil ?_)))))))
          refine i_app rfl rfl (by rw [sizeLine_eq, List.length_map]; omega) ?_
          with_reducible refine i_asg ?_
          with_reducible refine i_d ?_
          with_reducible refine i_gNm ?_
          dsimp only [List.set]
          have em : found.map D.str ++ [D.str run] = (found ++ [run]).map D.str := by simp
          have hrl : 1 ≤ run.length := by
            cases run with
            | nil => exact absurd rfl hrun
            | cons a b => simp
          have := tail (found ++ [run]) (by rw [List.length_append]; simp; omega) q
          rw [← em] at this
          exact this
theorem l__law_cut : ∀ rs ob P R, fx__law_cut rs ob P R → t__law_cut fx__law_is_token (startE N__law_cut.length rs ob) (endP ob.length P R) := by
  rintro rs ob P R ⟨s, rfl, rfl, hz, hc, q⟩
  show t__law_cut fx__law_is_token ⟨[some (.val (.str s)), none, none, none, none, none], []⟩ (endP 0 P R)
  unfold t__law_cut
  repeat' array_get_dec
  refine i_enS rfl ?_
  refine cut_loop (s ++ [32]) 0 [] [] 0 none none (by rw [List.length_append]; simp; omega) (fun d hd => by simp at hd) (cps_app hc (cps_small (by decide))) ?_
  rw [cut_tk s.length 0 s [] 0 (Nat.le_refl _)]
  unfold tkF at q
  cases h : tkN s.length 0 s [] with
  | inr ts =>
    rw [h] at q
    intro o2 o3 o4 o5
    repeat' array_get_dec
    exact fin_l rfl q
  | inl k =>
    rw [h] at q
    intro e
    exact fin_d q

end LW
end
section
set_option Elab.async false
set_option linter.all false
set_option autoImplicit false
set_option maxRecDepth 100000
set_option maxHeartbeats 1000000
namespace LW
open PySem PySem.Spec PyProof.Rows DL
open L2 hiding St start
local macro_rules | `(tactic| array_get_dec) => `(tactic| first
  | with_reducible refine i_seq ?_
  | with_reducible refine i_asg ?_
  | (with_reducible refine i_gNm ?_; dsimp only [List.set])
  | with_reducible refine i_var (by with_unfolding_all exact rfl) ?_
  | with_reducible refine i_d ?_
  | with_reducible refine i_op2 ?_
  | with_reducible refine i_ret ?_
  | with_reducible refine i_sIf ?_
  | with_reducible refine i_val ?_
  | with_reducible refine i_isb ?_
  | with_reducible refine i_cons ?_
  | with_reducible refine i_nil ?_
  | with_reducible refine i_eB ?_
  | with_reducible refine i_call ?_
  | with_reducible refine i_tTru ?_
  | with_reducible refine i_tru (by with_unfolding_all exact rfl) (by with_unfolding_all exact trivial) ?_
  | with_reducible refine i_and ?_
  | with_reducible refine i_or ?_
  | with_reducible refine i_not ?_
  | with_reducible refine i_next ?_
  | with_reducible refine i_eand ?_
  | with_reducible refine i_eor ?_
  | with_reducible refine i_eif ?_
  | with_reducible refine i_enot ?_
  | with_reducible refine i_lt (by with_unfolding_all exact rfl) (by with_unfolding_all exact rfl) ?_
  | with_reducible refine i_le (by with_unfolding_all exact rfl) (by with_unfolding_all exact rfl) ?_
  | with_reducible refine i_gt (by with_unfolding_all exact rfl) (by with_unfolding_all exact rfl) ?_
  | with_reducible refine i_ge (by with_unfolding_all exact rfl) (by with_unfolding_all exact rfl) ?_
  | with_reducible refine i_sub (by with_unfolding_all exact rfl) (by with_unfolding_all exact rfl) ?_
  | with_reducible refine i_addI (by with_unfolding_all exact rfl) (by with_unfolding_all exact rfl) ?_
  | with_reducible refine i_isi ?_
  | with_reducible refine i_isi1 (by with_unfolding_all exact rfl) (by with_unfolding_all exact rfl) ?_
  | with_reducible refine i_chain ?_
  | with_reducible refine i_drop ?_
  | with_reducible refine i_brk ?_
  | with_reducible refine i_cont ?_
  | with_reducible refine i_retN ?_
  | with_reducible refine i_isN ?_
  | with_reducible refine i_notN ?_
  | with_reducible refine i_eLst ?_
  | with_reducible refine i_eTup ?_
  | with_reducible refine i_eM ?_
  | with_reducible refine i_neg ?_
  | with_reducible refine i_neg1 (by with_unfolding_all exact rfl) ?_
  | with_reducible refine i_par2 ?_
  | with_reducible refine i_par33 ?_
  | with_reducible refine i_for ?_
  | with_reducible refine i_iSeq ?_
  | with_reducible refine i_seqI (by with_unfolding_all exact rfl) ?_
  | with_reducible refine i_iR1 ?_
  | with_reducible refine i_iEn ?_
  | with_reducible refine i_eSl ?_
  | with_reducible refine i_pNone ?_
  | with_reducible refine i_pSome ?_
  | with_reducible refine i_int1 (by with_unfolding_all exact rfl) ?_
  | with_reducible refine i_d1 (by with_unfolding_all exact rfl) ?_
  | with_reducible refine i_raise ?_
  | with_reducible refine i_aug (by with_unfolding_all exact rfl) ?_
  | (with_reducible refine i_augI (by with_unfolding_all exact rfl) (by with_unfolding_all exact rfl) ?_; dsimp only [List.set])
  | with_reducible refine i_eqS (by with_unfolding_all exact rfl) (by with_unfolding_all exact rfl) ?_
  | with_reducible refine i_neS (by with_unfolding_all exact rfl) (by with_unfolding_all exact rfl) ?_
  | with_reducible refine i_inC (by with_unfolding_all exact rfl) (by with_unfolding_all exact rfl) ?_
  | with_reducible refine i_ninC (by with_unfolding_all exact rfl) (by with_unfolding_all exact rfl) ?_
  | with_reducible refine i_par ?_
  | with_reducible refine i_par3 ?_
  | with_reducible refine i_gsNil ?_
  | with_reducible refine i_gsCons ?_
  | with_reducible refine i_setIx ?_
  | with_reducible refine i_eLc ?_
  | with_reducible refine i_yes ?_
  | with_reducible refine i_tyS (by with_unfolding_all exact rfl) ?_
  | with_reducible refine i_tyL (by with_unfolding_all exact rfl) ?_
  | with_reducible refine i_lenS (by with_unfolding_all exact rfl) (by rw [sizeLine_eq]; (try simp only [List.length_append, List.length_cons, List.length_nil]); omega) ?_
  | with_reducible refine i_addS (by with_unfolding_all exact rfl) (by with_unfolding_all exact rfl) (by rw [sizeLine_eq]; (try simp only [List.length_append, List.length_cons, List.length_nil]); omega) ?_
  | with_reducible refine i_lenL (by with_unfolding_all exact rfl) ?_
  | with_reducible refine i_intI (by with_unfolding_all exact rfl) ?_
  | with_reducible refine i_abs (by with_unfolding_all exact rfl) ?_
  | with_reducible refine i_list (by with_unfolding_all exact rfl) ?_
  | with_reducible refine c_v (by repeat (first | exact fz_nil | apply fz_v | (apply fz_l; with_unfolding_all exact rfl) | (apply fz_f; with_unfolding_all exact rfl) | apply fz_k)) (by with_unfolding_all exact rfl) ?_
  | with_reducible refine i_lsV ?_
  | with_reducible refine i_exD ?_
  | (with_reducible refine ⟨small_line (by simp only [List.length_cons, List.length_nil]; omega), ?_⟩; simp only [allD, dv_val'])
  | with_reducible refine i_ixL (by with_unfolding_all exact rfl) (by with_unfolding_all exact rfl) (by with_unfolding_all exact rfl) ?_
  | with_reducible refine i_setIx1 (by with_unfolding_all exact rfl) (by with_unfolding_all exact rfl) (by with_unfolding_all exact rfl) (by with_unfolding_all exact rfl) ?_
  | with_reducible refine i_mod (by with_unfolding_all exact rfl) (by with_unfolding_all exact rfl) (by omega) ?_
  | with_reducible refine i_fdiv (by with_unfolding_all exact rfl) (by with_unfolding_all exact rfl) (by omega) (by omega) ?_
  | with_reducible refine i_imul (by with_unfolding_all exact rfl) (by with_unfolding_all exact rfl) (by first | exact cmul_l (by omega) (by omega) | exact cmul_r (by omega) (by omega)) ?_
  | with_reducible refine i_pow (by with_unfolding_all exact rfl) (by with_unfolding_all exact rfl) (cpow (by omega) (by omega) (by omega) (by omega)) ?_
  | with_reducible refine i_sum (by with_unfolding_all exact rfl) ?_
  | with_reducible refine i_rng1 (by omega) (by omega) ?_
  | with_reducible refine i_lcD ?_
  | with_reducible refine i_rt0 ?_
  | with_reducible refine i_nx0 ?_
  | with_reducible refine i_xc0 ?_
  | with_reducible refine fin_d ?_
  | with_reducible refine finX_0 ?_
  | with_reducible refine i_ifT (by with_unfolding_all exact rfl) ?_
  | with_reducible refine i_ifF (by with_unfolding_all exact rfl) ?_
  | with_reducible refine i_iteD (fun _ => ?_) (fun _ => ?_)
  | with_reducible refine i_iteN (fun _ => ?_) (fun _ => ?_)
  | with_reducible refine i_iteNB (fun _ => ?_) (fun _ => ?_)
  | with_reducible refine i_iteB (fun _ => ?_) (fun _ => ?_)
  | with_reducible refine i_fz ?_
  | with_reducible refine i_fr ?_
  | (with_reducible refine i_fzL (by with_unfolding_all exact rfl) (by with_unfolding_all exact rfl) (by with_unfolding_all exact rfl) ?_; dsimp only [List.take, List.set, List.length_nil, List.length_cons, Nat.zero_add, Nat.reduceAdd])
  | (with_reducible refine i_fzLT (by with_unfolding_all exact rfl) (by with_unfolding_all exact rfl) ?_; dsimp only [List.take, List.set, List.length_nil, List.length_cons, Nat.zero_add, Nat.reduceAdd])
  | (with_reducible refine i_fzV (by with_unfolding_all exact rfl) (by with_unfolding_all exact rfl) ?_; dsimp only [List.take, List.set, List.length_nil, List.length_cons, Nat.zero_add, Nat.reduceAdd])
  | (with_reducible refine i_fzVT (by with_unfolding_all exact rfl) ?_; dsimp only [List.take, List.set, List.length_nil, List.length_cons, Nat.zero_add, Nat.reduceAdd]))
/-! a whole text -/
theorem i_truB {e : DL.Env} {b : Bool} {Z : Bool → Prop} (q : Z b) : ∃ b', truE e (.val (.bl b)) = some b' ∧ fitE e (.val (.bl b)) ∧ Z b' := ⟨b, rfl, trivial, q⟩
theorem dr_call {te : EX} {sl : List (Option RV)} {n i : Nat} {good : RV → Prop} (hsl : sl[i]? = some (some (.ob 0))) (ht : te = eCall [false] [] (fxDraw n good) (aCons (eVar i) aNil)) : DrawsTo te sl n (fun d => good (.val d)) := by
  intro b ds ob P R g0 hp hb q
  subst ht
  exact i_call (i_cons (i_var hsl (i_nil (draw_ok g0 hp hb fun d ds' hg hp' => q ds' d hp' hg))))
theorem texts_of {G : List Nat → Prop} : ∀ {l : List D}, (∀ d ∈ l, ∃ s : List Nat, RV.val d = .val (.str s) ∧ G s) → ∃ ss : List (List Nat), l = ss.map D.str ∧ (∀ s ∈ ss, G s) ∧ ss.length = l.length
  | [], _ => ⟨[], rfl, fun s h => (List.not_mem_nil h).elim, rfl⟩
  | d :: l, h => by
    obtain ⟨s, e, hs⟩ := h d List.mem_cons_self
    cases e
    obtain ⟨ss, e2, h2, h3⟩ := texts_of (l := l) fun z hz => h z (List.mem_cons_of_mem _ hz)
    exact ⟨s :: ss, by rw [e2]; rfl, fun z hz => (List.mem_cons.mp hz).elim (fun e => e ▸ hs) (h2 z), by rw [List.length_cons, List.length_cons, h3]⟩
def Txt0 (r : RV) : Prop := ∃ s : List Nat, r = .val (.str s) ∧ s.length ≤ 20000 ∧ Cps s
theorem sum_le {k : Nat} : ∀ {ss : List (List Nat)}, (∀ s ∈ ss, s.length ≤ k) → (ss.map List.length).sum ≤ k * ss.length
  | [], _ => Nat.zero_le _
  | s :: ss, h => by
    rw [List.map_cons, List.sum_cons, List.length_cons, Nat.mul_succ]
    have := sum_le (ss := ss) fun z hz => h z (List.mem_cons_of_mem _ hz)
    have := h s List.mem_cons_self
    omega
theorem cps_flat {ss : List (List Nat)} (h : ∀ s ∈ ss, Cps s) : Cps ss.flatten := fun c hc => by
  obtain ⟨s, hs, h2⟩ := List.mem_flatten.mp hc
  exact h s hs c h2
theorem i_alnum {e : DL.Env} {x : RV} {s : List Nat} {Z : RV → DL.Env → Prop} (hx : dv e x = some (.str s)) (hz : s.length ≤ 5592405) (q : Z (.val (.bl (Txt.isalnum (S s)))) e) : alnumX e x [] Z := i_mxS (g := fun s => some (.bl (Txt.isalnum (S s)))) hx hz rfl q
theorem whole_loop {Po : Post} {t1 : RV} {pd : List D} : ∀ (ss : List (List Nat)) (made : List Nat) (o3 o4 o5 : Option RV), (∀ s ∈ ss, s ≠ [] ∧ s.length ≤ 600 ∧ Cps s) → made.length + 601 * ss.length ≤ 20000 → Cps made →
    (∀ s o3 o4 o5, s.length ≤ 20000 → Cps s → Po.nx ⟨[some (.ob 0), some t1, some (.val (.str s)), o3, o4, o5, none], [.lst pd]⟩) →
    forX (gNm 3) (t__law_whole_text_1 fx__law_is_token fx_pick (fxDraw 45 Piece)) (fun _ => True) Po (ss.map fun s => .val (.str s)) ⟨[some (.ob 0), some t1, some (.val (.str made)), o3, o4, o5, none], [.lst pd]⟩
  | [], made, o3, o4, o5, _, hl, hm, q => i_fNil trivial (q _ _ _ _ (by simp at hl; omega) hm)
  | s :: ss, made, o3, o4, o5, hs, hl, hm, q => by
    rw [List.map_cons]
    rw [List.length_cons] at hl
    obtain ⟨s1, s2, s3⟩ := hs s List.mem_cons_self
    refine i_fCons trivial (i_gNm ?_)
    dsimp only [List.set]
    unfold t__law_whole_text_1
    -- behind the two looks
    have rest : ∀ fine : Bool, (sSeq (sAsg (eAnd (op2 (eqX true) (eVar 2) (eD (.str []))) (eAnd (eM tyStr alnumX (op2 ixX (eVar 2) (eNeg (eD (.int 1)))) aNil) (eM tyStr alnumX (op2 ixX (eVar 3) (eD (.int 0))) aNil))) (gNm 5)) (sIf (tTru (eVar 4)) (sAsg (op2 addX (op2 addX (eVar 2) (eIf (tTru (eVar 5)) (eD (.str [32])) (eD (.str [])))) (eVar 3)) (gNm 2)) sNext))
        ⟨[some (.ob 0), some t1, some (.val (.str made)), some (.val (.str s)), some (.val (.bl fine)), o5, none], [.lst pd]⟩ { nx := forX (gNm 3) (t__law_whole_text_1 fx__law_is_token fx_pick (fxDraw 45 Piece)) (fun _ => True) Po (ss.map fun s => .val (.str s)), rt := Po.rt, xc := Po.xc, bk := Po.nx, ct := forX (gNm 3) (t__law_whole_text_1 fx__law_is_token fx_pick (fxDraw 45 Piece)) (fun _ => True) Po (ss.map fun s => .val (.str s)) } := fun fine => by
      have last : ∀ both : Bool, (sIf (tTru (eVar 4)) (sAsg (op2 addX (op2 addX (eVar 2) (eIf (tTru (eVar 5)) (eD (.str [32])) (eD (.str [])))) (eVar 3)) (gNm 2)) sNext)
          ⟨[some (.ob 0), some t1, some (.val (.str made)), some (.val (.str s)), some (.val (.bl fine)), some (.val (.bl both)), none], [.lst pd]⟩ { nx := forX (gNm 3) (t__law_whole_text_1 fx__law_is_token fx_pick (fxDraw 45 Piece)) (fun _ => True) Po (ss.map fun s => .val (.str s)), rt := Po.rt, xc := Po.xc, bk := Po.nx, ct := forX (gNm 3) (t__law_whole_text_1 fx__law_is_token fx_pick (fxDraw 45 Piece)) (fun _ => True) Po (ss.map fun s => .val (.str s)) } := fun both => by
        refine i_sIf (i_tTru (i_var rfl (i_truB ?_)))
        cases fine with
        | false =>
          refine i_if0 (i_next ?_)
          exact whole_loop ss made _ _ _ (fun z hz => hs z (List.mem_cons_of_mem _ hz)) (by omega) hm q
        | true =>
          refine i_if1 ?_
          with_reducible refine i_asg (i_op2 (i_op2 (i_var rfl (i_eif (i_tTru (i_var rfl (i_truB ?_)))))))
          cases both with
          | false =>
            refine i_if0 (i_d (i_addS rfl rfl (by rw [sizeLine_eq]; simp; omega) (i_var rfl (i_addS rfl rfl (by rw [sizeLine_eq]; simp; omega) ?_))))
            with_reducible refine i_gNm ?_
            dsimp only [List.set]
            exact whole_loop ss (made ++ [] ++ s) _ _ _ (fun z hz => hs z (List.mem_cons_of_mem _ hz)) (by simp; omega) (cps_app (cps_app hm (fun c h => (List.not_mem_nil h).elim)) s3) q
          | true =>
            refine i_if1 (i_d (i_addS rfl rfl (by rw [sizeLine_eq]; simp; omega) (i_var rfl (i_addS rfl rfl (by rw [sizeLine_eq]; simp; omega) ?_))))
            with_reducible refine i_gNm ?_
            dsimp only [List.set]
            exact whole_loop ss (made ++ [32] ++ s) _ _ _ (fun z hz => hs z (List.mem_cons_of_mem _ hz)) (by simp; omega) (cps_app (cps_app hm (cps_small (by decide))) s3) q
      have fin : ∀ k : Bool, gNm 5 (.val (.bl k)) ⟨[some (.ob 0), some t1, some (.val (.str made)), some (.val (.str s)), some (.val (.bl fine)), o5, none], [.lst pd]⟩ (fun e1 => (sIf (tTru (eVar 4)) (sAsg (op2 addX (op2 addX (eVar 2) (eIf (tTru (eVar 5)) (eD (.str [32])) (eD (.str [])))) (eVar 3)) (gNm 2)) sNext) e1 { nx := forX (gNm 3) (t__law_whole_text_1 fx__law_is_token fx_pick (fxDraw 45 Piece)) (fun _ => True) Po (ss.map fun s => .val (.str s)), rt := Po.rt, xc := Po.xc, bk := Po.nx, ct := forX (gNm 3) (t__law_whole_text_1 fx__law_is_token fx_pick (fxDraw 45 Piece)) (fun _ => True) Po (ss.map fun s => .val (.str s)) }) := fun k => i_gNm (last k)
      refine i_seq (i_asg (i_eand (i_op2 (i_var rfl (i_d (i_neS rfl rfl (i_isb ?_)))))))
      refine i_iteN (fun h => ?_) (fun h => fin false)
      obtain ⟨L, b, eL⟩ : ∃ L b, made = L ++ [b] := by
        rcases List.eq_nil_or_concat made with h2 | ⟨L, b, h2⟩
        · exact absurd h2 h
        · exact ⟨L, b, by rw [h2, List.concat_eq_append]⟩
      have ha : atI made (-1) = some b := by rw [eL]; exact atI_last
      obtain ⟨c, r, eC⟩ : ∃ c r, s = c :: r := by
        cases s with
        | nil => exact absurd rfl s1
        | cons c r => exact ⟨c, r, rfl⟩
      have hb : atI s 0 = some c := by rw [eC]; exact atI_zero
      refine i_eand (i_eM (i_op2 (i_var rfl (i_neg (i_d (i_neg1 rfl (i_ixS rfl rfl (by rw [sizeLine_eq]; omega) ha (i_tyS rfl (i_nil (i_alnum rfl (by simp) (i_isb ?_)))))))))))
      refine i_iteB (fun h2 => ?_) (fun h2 => ?_)
      · refine i_eM (i_op2 (i_var rfl (i_d (i_ixS rfl rfl (by rw [sizeLine_eq]; omega) hb (i_tyS rfl (i_nil (i_alnum rfl (by simp) ?_)))))))
        exact fin _
      · exact fin false
    have lay1 : Cps [32, 10] := cps_small (by decide)
    have fin : ∀ k : Bool, gNm 4 (.val (.bl k)) ⟨[some (.ob 0), some t1, some (.val (.str made)), some (.val (.str s)), o4, o5, none], [.lst pd]⟩ (fun e1 => (sSeq (sAsg (eAnd (op2 (eqX true) (eVar 2) (eD (.str []))) (eAnd (eM tyStr alnumX (op2 ixX (eVar 2) (eNeg (eD (.int 1)))) aNil) (eM tyStr alnumX (op2 ixX (eVar 3) (eD (.int 0))) aNil))) (gNm 5)) (sIf (tTru (eVar 4)) (sAsg (op2 addX (op2 addX (eVar 2) (eIf (tTru (eVar 5)) (eD (.str [32])) (eD (.str [])))) (eVar 3)) (gNm 2)) sNext)) e1 { nx := forX (gNm 3) (t__law_whole_text_1 fx__law_is_token fx_pick (fxDraw 45 Piece)) (fun _ => True) Po (ss.map fun s => .val (.str s)), rt := Po.rt, xc := Po.xc, bk := Po.nx, ct := forX (gNm 3) (t__law_whole_text_1 fx__law_is_token fx_pick (fxDraw 45 Piece)) (fun _ => True) Po (ss.map fun s => .val (.str s)) }) := fun k => i_gNm (rest k)
    obtain ⟨c, r, eC⟩ : ∃ c r, s = c :: r := by
      cases s with
      | nil => exact absurd rfl s1
      | cons c r => exact ⟨c, r, rfl⟩
    have hb : atI s 0 = some c := by rw [eC]; exact atI_zero
    refine i_seq (i_asg (i_eor (i_op2 (i_eM (i_var rfl (i_tyS rfl (i_cons (i_d (i_nil (i_stripC rfl rfl (by omega) (i_d (i_eqS rfl rfl (i_isb ?_)))))))))))))
    refine i_iteD (fun h => fin true) (fun h => ?_)
    refine i_eor (i_op2 (i_var rfl ?_))
    repeat' array_get_dec
    have sg : ∀ z ∈ signs, Cps z := fun z hz => by
      unfold signs at hz
      simp only [List.mem_cons, List.not_mem_nil, or_false] at hz
      rcases hz with rfl | rfl | rfl | rfl | rfl <;> exact cps_small (by decide)
    refine i_inLs signs (rd_val _ _) (rd_val _ _) s3 sg ?_
    refine i_isb (i_iteD (fun h2 => fin true) (fun h2 => ?_))
    refine i_eand (i_call (i_cons (i_var rfl (i_nil ?_))))
    refine c_v (fz_v fz_nil) rfl ⟨s, rfl, rfl, by omega, s3, ?_⟩
    refine i_isb (i_iteB (fun h3 => ?_) (fun h3 => fin false))
    refine i_eand (i_eM (i_var rfl (i_tyS rfl (i_nil (i_alnum rfl (by omega) (i_isb ?_))))))
    refine i_iteB (fun h4 => ?_) (fun h4 => fin false)
    refine i_op2 (i_op2 (i_var rfl (i_d (i_ixS rfl rfl (by rw [sizeLine_eq]; omega) hb (i_d (i_ninC rfl rfl ?_))))))
    exact fin _
theorem l__law_whole_text : ∀ rs ob P R, fxDraw 1200 Txt0 rs ob P R → t__law_whole_text fx__law_is_token fx_pick (fxDraw 45 Piece) (startE N__law_whole_text.length rs ob) (endP ob.length P R) := by
  rintro rs ob P R ⟨b, ds, rfl, rfl, hp, hb, q⟩
  show t__law_whole_text fx__law_is_token fx_pick (fxDraw 45 Piece) ⟨[some (.ob 0), none, none, none, none, none, none], [.lst ds]⟩ (endP 1 P R)
  unfold t__law_whole_text
  repeat' array_get_dec
  refine pick_ok rfl hp (by omega) (by omega) (by omega) fun n ds1 hr1 hp1 => ?_
  repeat' array_get_dec
  have hlen : ((List.range ((n : Nat) : Int).toNat).map fun i : Nat => (RV.val (.int i) : RV)).length = n := by simp
  refine comp_draw (n := 45) (good := fun d => Piece (.val d)) (fun r => dr_call rfl rfl) (by simp) _ _ _ [] _ rfl rfl hp1 (by rw [hlen]; omega) (by rw [hlen]; simp; omega) fun ds2 acc hp2 hl2 hg2 => ?_
  rw [hlen] at hp2 hl2
  obtain ⟨ss, rfl, hss, hsl⟩ := texts_of (l := acc) fun d hd => (hg2 d hd).resolve_left (by simp)
  rw [hl2, List.length_nil, Nat.zero_add] at hsl
  have hsum : (ss.map List.length).sum ≤ 600 * ss.length := sum_le fun s hs => (hss s hs).2.1
  repeat' array_get_dec
  refine pick_ok rfl hp2 (by omega) (by omega) (by omega) fun n2 ds3 hr3 hp3 => ?_
  repeat' array_get_dec
  simp only [List.cons_append, List.nil_append, List.set_cons_zero, List.set_cons_succ, List.length_cons, List.length_nil, Nat.zero_add, Nat.reduceAdd, List.take_succ_cons, List.take_zero]
  refine i_eq (rd_val _ _) (rd_val _ _) (lay_int _) (lay_int _) ?_
  rw [eqv_ii]
  refine i_isb (i_iteD (fun _ => ?_) (fun _ => ?_))
  · repeat' array_get_dec
    refine i_join rfl rfl (strsD_map _) (by simp; omega) ?_
    rw [joinL_eq, jn_nil]
    exact fin_d1 rfl (q _ _ ⟨ss.flatten, rfl, by rw [List.length_flatten]; omega, cps_flat fun s hs => (hss s hs).2.2⟩ (hp3.mono (by omega)))
  · repeat' array_get_dec
    rw [List.map_map]
    refine whole_loop ss [] none none none hss (by simp; omega) (fun c h => (List.not_mem_nil h).elim) fun s o3 o4 o5 h1 h2 => ?_
    repeat' array_get_dec
    exact fin_d1 rfl (q _ _ ⟨s, rfl, h1, h2⟩ (hp3.mono (by omega)))

end LW
end
section
set_option Elab.async false
set_option linter.all false
set_option autoImplicit false
set_option maxRecDepth 100000
set_option maxHeartbeats 1000000
namespace LW
open PySem PySem.Spec PyProof.Rows DL
open L2 hiding St start
local macro_rules | `(tactic| array_get_dec) => `(tactic| first
  | with_reducible refine i_seq ?_
  | with_reducible refine i_asg ?_
  | (with_reducible refine i_gNm ?_; dsimp only [List.set])
  | with_reducible refine i_var (by with_unfolding_all exact rfl) ?_
  | with_reducible refine i_d ?_
  | with_reducible refine i_op2 ?_
  | with_reducible refine i_ret ?_
  | with_reducible refine i_sIf ?_
  | with_reducible refine i_val ?_
  | with_reducible refine i_isb ?_
  | with_reducible refine i_cons ?_
  | with_reducible refine i_nil ?_
  | with_reducible refine i_eB ?_
  | with_reducible refine i_call ?_
  | with_reducible refine i_tTru ?_
  | with_reducible refine i_tru (by with_unfolding_all exact rfl) (by with_unfolding_all exact trivial) ?_
  | with_reducible refine i_and ?_
  | with_reducible refine i_or ?_
  | with_reducible refine i_not ?_
  | with_reducible refine i_next ?_
  | with_reducible refine i_eand ?_
  | with_reducible refine i_eor ?_
  | with_reducible refine i_eif ?_
  | with_reducible refine i_enot ?_
  | with_reducible refine i_lt (by with_unfolding_all exact rfl) (by with_unfolding_all exact rfl) ?_
  | with_reducible refine i_le (by with_unfolding_all exact rfl) (by with_unfolding_all exact rfl) ?_
  | with_reducible refine i_gt (by with_unfolding_all exact rfl) (by with_unfolding_all exact rfl) ?_
  | with_reducible refine i_ge (by with_unfolding_all exact rfl) (by with_unfolding_all exact rfl) ?_
  | with_reducible refine i_sub (by with_unfolding_all exact rfl) (by with_unfolding_all exact rfl) ?_
  | with_reducible refine i_addI (by with_unfolding_all exact rfl) (by with_unfolding_all exact rfl) ?_
  | with_reducible refine i_isi ?_
  | with_reducible refine i_isi1 (by with_unfolding_all exact rfl) (by with_unfolding_all exact rfl) ?_
  | with_reducible refine i_chain ?_
  | with_reducible refine i_drop ?_
  | with_reducible refine i_brk ?_
  | with_reducible refine i_cont ?_
  | with_reducible refine i_retN ?_
  | with_reducible refine i_isN ?_
  | with_reducible refine i_notN ?_
  | with_reducible refine i_eLst ?_
  | with_reducible refine i_eTup ?_
  | with_reducible refine i_eM ?_
  | with_reducible refine i_neg ?_
  | with_reducible refine i_neg1 (by with_unfolding_all exact rfl) ?_
  | with_reducible refine i_par2 ?_
  | with_reducible refine i_par33 ?_
  | with_reducible refine i_for ?_
  | with_reducible refine i_iSeq ?_
  | with_reducible refine i_seqI (by with_unfolding_all exact rfl) ?_
  | with_reducible refine i_iR1 ?_
  | with_reducible refine i_iEn ?_
  | with_reducible refine i_eSl ?_
  | with_reducible refine i_pNone ?_
  | with_reducible refine i_pSome ?_
  | with_reducible refine i_int1 (by with_unfolding_all exact rfl) ?_
  | with_reducible refine i_d1 (by with_unfolding_all exact rfl) ?_
  | with_reducible refine i_raise ?_
  | with_reducible refine i_aug (by with_unfolding_all exact rfl) ?_
  | (with_reducible refine i_augI (by with_unfolding_all exact rfl) (by with_unfolding_all exact rfl) ?_; dsimp only [List.set])
  | with_reducible refine i_eqS (by with_unfolding_all exact rfl) (by with_unfolding_all exact rfl) ?_
  | with_reducible refine i_neS (by with_unfolding_all exact rfl) (by with_unfolding_all exact rfl) ?_
  | with_reducible refine i_inC (by with_unfolding_all exact rfl) (by with_unfolding_all exact rfl) ?_
  | with_reducible refine i_ninC (by with_unfolding_all exact rfl) (by with_unfolding_all exact rfl) ?_
  | with_reducible refine i_par ?_
  | with_reducible refine i_par3 ?_
  | with_reducible refine i_gsNil ?_
  | with_reducible refine i_gsCons ?_
  | with_reducible refine i_setIx ?_
  | with_reducible refine i_eLc ?_
  | with_reducible refine i_yes ?_
  | with_reducible refine i_tyS (by with_unfolding_all exact rfl) ?_
  | with_reducible refine i_tyL (by with_unfolding_all exact rfl) ?_
  | with_reducible refine i_lenS (by with_unfolding_all exact rfl) (by rw [sizeLine_eq]; (try simp only [List.length_append, List.length_cons, List.length_nil]); omega) ?_
  | with_reducible refine i_addS (by with_unfolding_all exact rfl) (by with_unfolding_all exact rfl) (by rw [sizeLine_eq]; (try simp only [List.length_append, List.length_cons, List.length_nil]); omega) ?_
  | with_reducible refine i_lenL (by with_unfolding_all exact rfl) ?_
  | with_reducible refine i_intI (by with_unfolding_all exact rfl) ?_
  | with_reducible refine i_abs (by with_unfolding_all exact rfl) ?_
  | with_reducible refine i_list (by with_unfolding_all exact rfl) ?_
  | with_reducible refine c_v (by repeat (first | exact fz_nil | apply fz_v | (apply fz_l; with_unfolding_all exact rfl) | (apply fz_f; with_unfolding_all exact rfl) | apply fz_k)) (by with_unfolding_all exact rfl) ?_
  | with_reducible refine i_lsV ?_
  | with_reducible refine i_exD ?_
  | (with_reducible refine ⟨small_line (by simp only [List.length_cons, List.length_nil]; omega), ?_⟩; simp only [allD, dv_val'])
  | with_reducible refine i_ixL (by with_unfolding_all exact rfl) (by with_unfolding_all exact rfl) (by with_unfolding_all exact rfl) ?_
  | with_reducible refine i_setIx1 (by with_unfolding_all exact rfl) (by with_unfolding_all exact rfl) (by with_unfolding_all exact rfl) (by with_unfolding_all exact rfl) ?_
  | with_reducible refine i_mod (by with_unfolding_all exact rfl) (by with_unfolding_all exact rfl) (by omega) ?_
  | with_reducible refine i_fdiv (by with_unfolding_all exact rfl) (by with_unfolding_all exact rfl) (by omega) (by omega) ?_
  | with_reducible refine i_imul (by with_unfolding_all exact rfl) (by with_unfolding_all exact rfl) (by first | exact cmul_l (by omega) (by omega) | exact cmul_r (by omega) (by omega)) ?_
  | with_reducible refine i_pow (by with_unfolding_all exact rfl) (by with_unfolding_all exact rfl) (cpow (by omega) (by omega) (by omega) (by omega)) ?_
  | with_reducible refine i_sum (by with_unfolding_all exact rfl) ?_
  | with_reducible refine i_rng1 (by omega) (by omega) ?_
  | with_reducible refine i_lcD ?_
  | with_reducible refine i_rt0 ?_
  | with_reducible refine i_nx0 ?_
  | with_reducible refine i_xc0 ?_
  | with_reducible refine fin_d ?_
  | with_reducible refine finX_0 ?_
  | with_reducible refine i_ifT (by with_unfolding_all exact rfl) ?_
  | with_reducible refine i_ifF (by with_unfolding_all exact rfl) ?_
  | with_reducible refine i_iteD (fun _ => ?_) (fun _ => ?_)
  | with_reducible refine i_iteN (fun _ => ?_) (fun _ => ?_)
  | with_reducible refine i_iteNB (fun _ => ?_) (fun _ => ?_)
  | with_reducible refine i_iteB (fun _ => ?_) (fun _ => ?_)
  | with_reducible refine i_fz ?_
  | with_reducible refine i_fr ?_
  | (with_reducible refine i_fzL (by with_unfolding_all exact rfl) (by with_unfolding_all exact rfl) (by with_unfolding_all exact rfl) ?_; dsimp only [List.take, List.set, List.length_nil, List.length_cons, Nat.zero_add, Nat.reduceAdd])
  | (with_reducible refine i_fzLT (by with_unfolding_all exact rfl) (by with_unfolding_all exact rfl) ?_; dsimp only [List.take, List.set, List.length_nil, List.length_cons, Nat.zero_add, Nat.reduceAdd])
  | (with_reducible refine i_fzV (by with_unfolding_all exact rfl) (by with_unfolding_all exact rfl) ?_; dsimp only [List.take, List.set, List.length_nil, List.length_cons, Nat.zero_add, Nat.reduceAdd])
  | (with_reducible refine i_fzVT (by with_unfolding_all exact rfl) ?_; dsimp only [List.take, List.set, List.length_nil, List.length_cons, Nat.zero_add, Nat.reduceAdd]))
/-! texts that are cut as they were glued -/
inductive Tk : List Nat → List (List Nat) → Prop
  | nil : Tk [] []
  | gap {c : Nat} {r : List Nat} {ts : List (List Nat)} : [c] ∈ ([[32], [10]] : List (List Nat)) → Tk r ts → Tk (c :: r) ts
  | sign {c : Nat} {r : List Nat} {ts : List (List Nat)} : [c] ∈ signs → Tk r ts → Tk (c :: r) ([c] :: ts)
  | run {w r : List Nat} {ts : List (List Nat)} : w ≠ [] → w.all plain = true → isTok w = true → (∀ c, r.head? = some c → plain c = false) → Tk r ts → Tk (w ++ r) (w :: ts)
theorem gap_plain {c : Nat} (h : [c] ∈ ([[32], [10]] : List (List Nat))) : plain c = false ∧ ¬ [c] ∈ signs := by
  simp only [List.mem_cons, List.not_mem_nil, or_false, List.cons.injEq, and_true] at h
  rcases h with rfl | rfl <;> exact ⟨by decide, by decide⟩
theorem sign_plain {c : Nat} (h : [c] ∈ signs) : plain c = false := by
  unfold signs at h
  simp only [List.mem_cons, List.not_mem_nil, or_false, List.cons.injEq, and_true] at h
  rcases h with rfl | rfl | rfl | rfl | rfl <;> decide
theorem tk_cut {s : List Nat} {ts : List (List Nat)} (h : Tk s ts) : ∀ (k n : Nat) (acc : List (List Nat)), s.length ≤ k → tkN k n s acc = .inr (acc ++ ts) := by
  induction h with
  | nil =>
    intro k n acc _
    cases k <;> rw [tkN, List.append_nil]
  | @gap c r ts hc _ ih =>
    intro k n acc hk
    rw [List.length_cons] at hk
    obtain ⟨k, rfl⟩ : ∃ j, k = j + 1 := ⟨k - 1, by omega⟩
    obtain ⟨h1, h2⟩ := gap_plain hc
    rw [tkN, if_neg (by rw [h1]; simp), if_neg h2, if_pos hc, ih k (n + 1) acc (by omega)]
  | @sign c r ts hc _ ih =>
    intro k n acc hk
    rw [List.length_cons] at hk
    obtain ⟨k, rfl⟩ : ∃ j, k = j + 1 := ⟨k - 1, by omega⟩
    rw [tkN, if_neg (by rw [sign_plain hc]; simp), if_pos hc, ih k (n + 1) _ (by omega), List.append_assoc]
    rfl
  | @run w r ts hw hp ht hr _ ih =>
    intro k n acc hk
    cases w with
    | nil => exact absurd rfl hw
    | cons c w =>
      rw [List.cons_append, List.length_cons, List.length_append] at hk
      obtain ⟨k, rfl⟩ : ∃ j, k = j + 1 := ⟨k - 1, by omega⟩
      have hpl := hp
      rw [List.all_cons, Bool.and_eq_true] at hp
      have hw2 : ∀ a ∈ w, plain a = true := List.all_eq_true.mp hp.2
      have e1 : (w ++ r).takeWhile plain = w := by
        rw [List.takeWhile_append_of_pos hw2]
        cases r with
        | nil => rw [List.takeWhile_nil, List.append_nil]
        | cons d r => rw [List.takeWhile_cons_of_neg (by rw [hr d rfl]; simp), List.append_nil]
      have e2 : (w ++ r).dropWhile plain = r := by
        rw [List.dropWhile_append_of_pos hw2]
        cases r with
        | nil => rfl
        | cons d r => rw [List.dropWhile_cons_of_neg (by rw [hr d rfl]; simp)]
      rw [List.cons_append, tkN, if_pos hp.1, e1, e2, sort_tok hpl (by simp), ht, if_neg (by simp), ih k _ _ (by omega), List.append_assoc]
      rfl
theorem tk_all {s : List Nat} {ts : List (List Nat)} (h : Tk s ts) : tkF s = .inr ts := by
  unfold tkF
  rw [tk_cut h _ _ _ (Nat.le_refl _), List.nil_append]
/-- no run goes on over the joint -/
def Sep (s r : List Nat) : Prop := ∀ a b, s.getLast? = some a → r.head? = some b → plain a = true → plain b = false
theorem sep_tail {c : Nat} {s r : List Nat} (h : Sep (c :: s) r) : Sep s r := fun a b ha hb hp => h a b (by
  cases s with
  | nil => cases ha
  | cons d s => rw [List.getLast?_cons_cons]; exact ha) hb hp
theorem sep_app {w s r : List Nat} (h : Sep (w ++ s) r) : Sep s r := by
  induction w with
  | nil => exact h
  | cons c w ih => exact ih (sep_tail h)
theorem tk_app {s r : List Nat} {ts us : List (List Nat)} (h : Tk s ts) (g : Tk r us) : Sep s r → Tk (s ++ r) (ts ++ us) := by
  induction h with
  | nil => exact fun _ => g
  | gap hc _ ih => exact fun hs => .gap hc (ih (sep_tail hs))
  | sign hc _ ih => exact fun hs => .sign hc (ih (sep_tail hs))
  | @run w q ts hw hp ht hr _ ih =>
    intro hs
    rw [List.append_assoc]
    refine .run hw hp ht (fun c hc => ?_) (ih (sep_app hs))
    cases q with
    | cons d q => exact hr c hc
    | nil =>
      rw [List.append_nil] at hs
      obtain ⟨L, b, e⟩ : ∃ L b, w = L ++ [b] := by
        rcases List.eq_nil_or_concat w with h2 | ⟨L, b, h2⟩
        · exact absurd h2 hw
        · exact ⟨L, b, by rw [h2, List.concat_eq_append]⟩
      refine hs b c (by rw [e]; simp) hc (List.all_eq_true.mp hp b (by rw [e]; simp))
/-- a token -/
def Good (t : List Nat) : Prop := t ∈ signs ∨ (t ≠ [] ∧ t.all plain = true ∧ isTok t = true)
theorem Good.tk {t : List Nat} (h : Good t) : Tk t [t] := by
  rcases h with h | ⟨h1, h2, h3⟩
  · have : ∃ c, t = [c] := by
      unfold signs at h
      simp only [List.mem_cons, List.not_mem_nil, or_false] at h
      rcases h with rfl | rfl | rfl | rfl | rfl <;> exact ⟨_, rfl⟩
    obtain ⟨c, rfl⟩ := this
    exact .sign h .nil
  · have := Tk.run (r := []) h1 h2 h3 (fun c hc => by cases hc) .nil
    rw [List.append_nil] at this
    exact this
theorem Good.ne {t : List Nat} (h : Good t) : t ≠ [] := by
  rcases h with h | ⟨h1, _⟩
  · intro e
    rw [e] at h
    exact absurd h (by decide)
  · exact h1
theorem Good.len {t : List Nat} (h : Good t) : t.length ≤ 12 := by
  rcases h with h | ⟨_, _, h1⟩
  · have : signs.all (fun z => decide (z.length ≤ 12)) = true := by decide
    simpa using List.all_eq_true.mp this t h
  · unfold isTok at h1
    split at h1
    · cases h1
    · omega
theorem sign_cps {z : List Nat} (hz : z ∈ signs) : Cps z := by
  unfold signs at hz
  simp only [List.mem_cons, List.not_mem_nil, or_false] at hz
  rcases hz with rfl | rfl | rfl | rfl | rfl <;> exact cps_small (by decide)
theorem Good.cps {t : List Nat} (h : Good t) : Cps t := h.elim sign_cps fun h => plain_cps h.2.1
theorem tk_jn : ∀ {ts : List (List Nat)}, (∀ t ∈ ts, Good t) → Tk (jn [32] ts) ts
  | [], _ => .nil
  | [x], h => (h x List.mem_cons_self).tk
  | x :: y :: r, h => by
    rw [jn, List.append_assoc]
    have g2 : Tk ([32] ++ jn [32] (y :: r)) (y :: r) := .gap (by simp) (tk_jn (ts := y :: r) fun t ht => h t (List.mem_cons_of_mem _ ht))
    exact tk_app (h x List.mem_cons_self).tk g2 fun a b _ hb _ => by
      cases hb
      decide
theorem jn_len {a : List Nat} : ∀ ts : List (List Nat), (jn a ts).length ≤ (ts.map List.length).sum + a.length * ts.length
  | [] => Nat.zero_le _
  | [x] => by rw [jn]; simp
  | x :: y :: r => by
    have ih := jn_len (a := a) (y :: r)
    rw [jn, List.length_append, List.length_append, List.map_cons, List.sum_cons, List.length_cons, Nat.mul_succ]
    omega
theorem cps_jn : ∀ {ts : List (List Nat)}, (∀ t ∈ ts, Cps t) → Cps (jn [32] ts)
  | [], _ => fun c h => (List.not_mem_nil h).elim
  | [x], h => h x List.mem_cons_self
  | x :: y :: r, h => cps_app (cps_app (h x List.mem_cons_self) (cps_small (by decide))) (cps_jn (ts := y :: r) fun t ht => h t (List.mem_cons_of_mem _ ht))
/-! how long what is cut is -/
theorem tk_size : ∀ (k n : Nat) (s : List Nat) (acc : List (List Nat)), match tkN k n s acc with
    | .inr ts => (ts.map List.length).sum ≤ (acc.map List.length).sum + s.length ∧ ts.length ≤ acc.length + s.length ∧ ∀ t ∈ ts, t ∈ acc ∨ ∀ c ∈ t, c ∈ s
    | .inl p => p ≤ n + s.length
  | 0, n, s, acc => by
    rw [tkN]
    exact ⟨Nat.le_add_right _ _, Nat.le_add_right _ _, fun t ht => .inl ht⟩
  | k + 1, n, [], acc => by
    rw [tkN]
    exact ⟨Nat.le_add_right _ _, Nat.le_add_right _ _, fun t ht => .inl ht⟩
  | k + 1, n, c :: r, acc => by
    rw [tkN]
    by_cases c1 : plain c = true
    · rw [if_pos c1]
      by_cases c2 : (sortD (c :: r.takeWhile plain)).isN = true
      · rw [if_pos c2]
        exact Nat.le_add_right _ _
      · rw [if_neg c2]
        have ih := tk_size k (n + (c :: r.takeWhile plain).length) (r.dropWhile plain) (acc ++ [c :: r.takeWhile plain])
        have hlen : (r.takeWhile plain).length + (r.dropWhile plain).length = r.length := by
          rw [← List.length_append, List.takeWhile_append_dropWhile]
        cases h : tkN k (n + (c :: r.takeWhile plain).length) (r.dropWhile plain) (acc ++ [c :: r.takeWhile plain]) with
        | inl p =>
          rw [h] at ih
          simp only [List.length_cons] at ih ⊢
          omega
        | inr ts =>
          rw [h] at ih
          obtain ⟨i1, i2, i3⟩ := ih
          simp only [List.map_append, List.sum_append, List.length_append, List.map_cons, List.map_nil, List.sum_cons, List.sum_nil, List.length_cons, List.length_nil] at i1 i2 ⊢
          refine ⟨by omega, by omega, fun t ht => ?_⟩
          rcases i3 t ht with h1 | h1
          · rcases List.mem_append.mp h1 with h2 | h2
            · exact .inl h2
            · refine .inr fun z hz => ?_
              have e : t = c :: r.takeWhile plain := by simpa using h2
              rw [e] at hz
              rcases List.mem_cons.mp hz with h3 | h3
              · rw [h3]; exact List.mem_cons_self
              · exact List.mem_cons_of_mem _ ((List.takeWhile_sublist _).subset h3)
          · exact .inr fun z hz => List.mem_cons_of_mem _ ((List.dropWhile_sublist _).subset (h1 z hz))
    · rw [if_neg c1]
      by_cases c3 : [c] ∈ signs
      · rw [if_pos c3]
        have ih := tk_size k (n + 1) r (acc ++ [[c]])
        cases h : tkN k (n + 1) r (acc ++ [[c]]) with
        | inl p =>
          rw [h] at ih
          simp only [List.length_cons] at ih ⊢
          omega
        | inr ts =>
          rw [h] at ih
          obtain ⟨i1, i2, i3⟩ := ih
          simp only [List.map_append, List.sum_append, List.length_append, List.map_cons, List.map_nil, List.sum_cons, List.sum_nil, List.length_cons, List.length_nil] at i1 i2 ⊢
          refine ⟨by omega, by omega, fun t ht => ?_⟩
          rcases i3 t ht with h1 | h1
          · rcases List.mem_append.mp h1 with h2 | h2
            · exact .inl h2
            · refine .inr fun z hz => ?_
              have e : t = [c] := by simpa using h2
              rw [e] at hz
              have : z = c := by simpa using hz
              rw [this]
              exact List.mem_cons_self
          · exact .inr fun z hz => List.mem_cons_of_mem _ (h1 z hz)
      · rw [if_neg c3]
        by_cases c4 : [c] ∈ ([[32], [10]] : List (List Nat))
        · rw [if_pos c4]
          have ih := tk_size k (n + 1) r acc
          cases h : tkN k (n + 1) r acc with
          | inl p =>
            rw [h] at ih
            simp only [List.length_cons] at ih ⊢
            omega
          | inr ts =>
            rw [h] at ih
            obtain ⟨i1, i2, i3⟩ := ih
            simp only [List.length_cons]
            exact ⟨by omega, by omega, fun t ht => (i3 t ht).imp id fun h1 z hz => List.mem_cons_of_mem _ (h1 z hz)⟩
        · rw [if_neg c4]
          exact Nat.le_add_right _ _

end LW
end
section
set_option Elab.async false
set_option linter.all false
set_option autoImplicit false
set_option maxRecDepth 100000
set_option maxHeartbeats 1000000
namespace LW
open PySem PySem.Spec PyProof.Rows DL
open L2 hiding St start
local macro_rules | `(tactic| array_get_dec) => `(tactic| first
  | with_reducible refine i_seq ?_
  | with_reducible refine i_asg ?_
  | (with_reducible refine i_gNm ?_; dsimp only [List.set])
  | with_reducible refine i_var (by with_unfolding_all exact rfl) ?_
  | with_reducible refine i_d ?_
  | with_reducible refine i_op2 ?_
  | with_reducible refine i_ret ?_
  | with_reducible refine i_sIf ?_
  | with_reducible refine i_val ?_
  | with_reducible refine i_isb ?_
  | with_reducible refine i_cons ?_
  | with_reducible refine i_nil ?_
  | with_reducible refine i_eB ?_
  | with_reducible refine i_call ?_
  | with_reducible refine i_tTru ?_
  | with_reducible refine i_tru (by with_unfolding_all exact rfl) (by with_unfolding_all exact trivial) ?_
  | with_reducible refine i_and ?_
  | with_reducible refine i_or ?_
  | with_reducible refine i_not ?_
  | with_reducible refine i_next ?_
  | with_reducible refine i_eand ?_
  | with_reducible refine i_eor ?_
  | with_reducible refine i_eif ?_
  | with_reducible refine i_enot ?_
  | with_reducible refine i_lt (by with_unfolding_all exact rfl) (by with_unfolding_all exact rfl) ?_
  | with_reducible refine i_le (by with_unfolding_all exact rfl) (by with_unfolding_all exact rfl) ?_
  | with_reducible refine i_gt (by with_unfolding_all exact rfl) (by with_unfolding_all exact rfl) ?_
  | with_reducible refine i_ge (by with_unfolding_all exact rfl) (by with_unfolding_all exact rfl) ?_
  | with_reducible refine i_sub (by with_unfolding_all exact rfl) (by with_unfolding_all exact rfl) ?_
  | with_reducible refine i_addI (by with_unfolding_all exact rfl) (by with_unfolding_all exact rfl) ?_
  | with_reducible refine i_isi ?_
  | with_reducible refine i_isi1 (by with_unfolding_all exact rfl) (by with_unfolding_all exact rfl) ?_
  | with_reducible refine i_chain ?_
  | with_reducible refine i_drop ?_
  | with_reducible refine i_brk ?_
  | with_reducible refine i_cont ?_
  | with_reducible refine i_retN ?_
  | with_reducible refine i_isN ?_
  | with_reducible refine i_notN ?_
  | with_reducible refine i_eLst ?_
  | with_reducible refine i_eTup ?_
  | with_reducible refine i_eM ?_
  | with_reducible refine i_neg ?_
  | with_reducible refine i_neg1 (by with_unfolding_all exact rfl) ?_
  | with_reducible refine i_par2 ?_
  | with_reducible refine i_par33 ?_
  | with_reducible refine i_for ?_
  | with_reducible refine i_iSeq ?_
  | with_reducible refine i_seqI (by with_unfolding_all exact rfl) ?_
  | with_reducible refine i_iR1 ?_
  | with_reducible refine i_iEn ?_
  | with_reducible refine i_eSl ?_
  | with_reducible refine i_pNone ?_
  | with_reducible refine i_pSome ?_
  | with_reducible refine i_int1 (by with_unfolding_all exact rfl) ?_
  | with_reducible refine i_d1 (by with_unfolding_all exact rfl) ?_
  | with_reducible refine i_raise ?_
  | with_reducible refine i_aug (by with_unfolding_all exact rfl) ?_
  | (with_reducible refine i_augI (by with_unfolding_all exact rfl) (by with_unfolding_all exact rfl) ?_; dsimp only [List.set])
  | with_reducible refine i_eqS (by with_unfolding_all exact rfl) (by with_unfolding_all exact rfl) ?_
  | with_reducible refine i_neS (by with_unfolding_all exact rfl) (by with_unfolding_all exact rfl) ?_
  | with_reducible refine i_inC (by with_unfolding_all exact rfl) (by with_unfolding_all exact rfl) ?_
  | with_reducible refine i_ninC (by with_unfolding_all exact rfl) (by with_unfolding_all exact rfl) ?_
  | with_reducible refine i_par ?_
  | with_reducible refine i_par3 ?_
  | with_reducible refine i_gsNil ?_
  | with_reducible refine i_gsCons ?_
  | with_reducible refine i_setIx ?_
  | with_reducible refine i_eLc ?_
  | with_reducible refine i_yes ?_
  | with_reducible refine i_tyS (by with_unfolding_all exact rfl) ?_
  | with_reducible refine i_tyL (by with_unfolding_all exact rfl) ?_
  | with_reducible refine i_lenS (by with_unfolding_all exact rfl) (by rw [sizeLine_eq]; (try simp only [List.length_append, List.length_cons, List.length_nil]); omega) ?_
  | with_reducible refine i_addS (by with_unfolding_all exact rfl) (by with_unfolding_all exact rfl) (by rw [sizeLine_eq]; (try simp only [List.length_append, List.length_cons, List.length_nil]); omega) ?_
  | with_reducible refine i_lenL (by with_unfolding_all exact rfl) ?_
  | with_reducible refine i_intI (by with_unfolding_all exact rfl) ?_
  | with_reducible refine i_abs (by with_unfolding_all exact rfl) ?_
  | with_reducible refine i_list (by with_unfolding_all exact rfl) ?_
  | with_reducible refine c_v (by repeat (first | exact fz_nil | apply fz_v | (apply fz_l; with_unfolding_all exact rfl) | (apply fz_f; with_unfolding_all exact rfl) | apply fz_k)) (by with_unfolding_all exact rfl) ?_
  | with_reducible refine i_lsV ?_
  | with_reducible refine i_exD ?_
  | (with_reducible refine ⟨small_line (by simp only [List.length_cons, List.length_nil]; omega), ?_⟩; simp only [allD, dv_val'])
  | with_reducible refine i_ixL (by with_unfolding_all exact rfl) (by with_unfolding_all exact rfl) (by with_unfolding_all exact rfl) ?_
  | with_reducible refine i_setIx1 (by with_unfolding_all exact rfl) (by with_unfolding_all exact rfl) (by with_unfolding_all exact rfl) (by with_unfolding_all exact rfl) ?_
  | with_reducible refine i_mod (by with_unfolding_all exact rfl) (by with_unfolding_all exact rfl) (by omega) ?_
  | with_reducible refine i_fdiv (by with_unfolding_all exact rfl) (by with_unfolding_all exact rfl) (by omega) (by omega) ?_
  | with_reducible refine i_imul (by with_unfolding_all exact rfl) (by with_unfolding_all exact rfl) (by first | exact cmul_l (by omega) (by omega) | exact cmul_r (by omega) (by omega)) ?_
  | with_reducible refine i_pow (by with_unfolding_all exact rfl) (by with_unfolding_all exact rfl) (cpow (by omega) (by omega) (by omega) (by omega)) ?_
  | with_reducible refine i_sum (by with_unfolding_all exact rfl) ?_
  | with_reducible refine i_rng1 (by omega) (by omega) ?_
  | with_reducible refine i_lcD ?_
  | with_reducible refine i_rt0 ?_
  | with_reducible refine i_nx0 ?_
  | with_reducible refine i_xc0 ?_
  | with_reducible refine fin_d ?_
  | with_reducible refine finX_0 ?_
  | with_reducible refine i_ifT (by with_unfolding_all exact rfl) ?_
  | with_reducible refine i_ifF (by with_unfolding_all exact rfl) ?_
  | with_reducible refine i_iteD (fun _ => ?_) (fun _ => ?_)
  | with_reducible refine i_iteN (fun _ => ?_) (fun _ => ?_)
  | with_reducible refine i_iteNB (fun _ => ?_) (fun _ => ?_)
  | with_reducible refine i_iteB (fun _ => ?_) (fun _ => ?_)
  | with_reducible refine i_fz ?_
  | with_reducible refine i_fr ?_
  | (with_reducible refine i_fzL (by with_unfolding_all exact rfl) (by with_unfolding_all exact rfl) (by with_unfolding_all exact rfl) ?_; dsimp only [List.take, List.set, List.length_nil, List.length_cons, Nat.zero_add, Nat.reduceAdd])
  | (with_reducible refine i_fzLT (by with_unfolding_all exact rfl) (by with_unfolding_all exact rfl) ?_; dsimp only [List.take, List.set, List.length_nil, List.length_cons, Nat.zero_add, Nat.reduceAdd])
  | (with_reducible refine i_fzV (by with_unfolding_all exact rfl) (by with_unfolding_all exact rfl) ?_; dsimp only [List.take, List.set, List.length_nil, List.length_cons, Nat.zero_add, Nat.reduceAdd])
  | (with_reducible refine i_fzVT (by with_unfolding_all exact rfl) ?_; dsimp only [List.take, List.set, List.length_nil, List.length_cons, Nat.zero_add, Nat.reduceAdd]))
/-! tokens glued -/
abbrev P36 : List Nat := [97, 98, 99, 100, 101, 102, 103, 104, 105, 106, 107, 108, 109, 110, 111, 112, 113, 114, 115, 116, 117, 118, 119, 120, 121, 122, 48, 49, 50, 51, 52, 53, 54, 55, 56, 57]
def fx__law_glued : FX := fun rs ob P _ => ∃ b ds ts, rs = [.ob 0, .val (.lst (ts.map .str))] ∧ ob = [.lst ds] ∧ Pl b ds ∧ b + 200 < 1000000 ∧ ts.length ≤ 60 ∧ (∀ t ∈ ts, Good t) ∧
  ∀ s ds', Tk s ts → s.length ≤ 1000 → Cps s → Pl (b + 200) ds' → P (.val (.str s)) [.lst ds']
def gaps : List (List Nat) := [[32], [10], [32, 32]]
theorem gap_ok {g : List Nat} (h : g ∈ gaps) : Tk g [] ∧ (∀ b, g.head? = some b → plain b = false) ∧ (∀ (s : List Nat) a, (s ++ g).getLast? = some a → plain a = false) ∧ g.length ≤ 2 ∧ Cps g := by
  unfold gaps at h
  simp only [List.mem_cons, List.not_mem_nil, or_false] at h
  rcases h with rfl | rfl | rfl
  · exact ⟨.gap (by decide) .nil, fun b hb => by cases hb; decide, fun s a ha => by simp at ha; rw [← ha]; decide, by decide, cps_small (by decide)⟩
  · exact ⟨.gap (by decide) .nil, fun b hb => by cases hb; decide, fun s a ha => by simp at ha; rw [← ha]; decide, by decide, cps_small (by decide)⟩
  · exact ⟨.gap (by decide) (.gap (by decide) .nil), fun b hb => by cases hb; decide, fun s a ha => by simp at ha; rw [← ha]; decide, by decide, cps_small (by decide)⟩
theorem gap_app {s g : List Nat} {ts : List (List Nat)} (h : Tk s ts) (hg : g ∈ gaps) : Tk (s ++ g) ts := by
  have := tk_app h (gap_ok hg).1 fun a b _ hb _ => (gap_ok hg).2.1 b hb
  rw [List.append_nil] at this
  exact this
theorem glue_loop {Po : Post} {t1 : RV} {B : Nat} (hB : B < 999999) : ∀ (ts done : List (List Nat)) (made : List Nat) (b : Nat) (ds : List D) (o4 : Option RV), Tk made done → (∀ t ∈ ts, Good t) → Pl b ds → b + 2 * ts.length ≤ B → made.length + 14 * ts.length ≤ 900 → Cps made →
    (∀ s ds' o4, Tk s (done ++ ts) → s.length ≤ 900 → Cps s → Pl B ds' → Po.nx ⟨[some (.ob 0), some t1, some (.val (.str s)), some (.val (.str P36)), o4], [.lst ds']⟩) →
    forX (gNm 4) (t__law_glued_1 fx_pick) (fun _ => True) Po (ts.map fun s => .val (.str s)) ⟨[some (.ob 0), some t1, some (.val (.str made)), some (.val (.str P36)), o4], [.lst ds]⟩
  | [], done, made, b, ds, o4, ht, _, hp, hb, hl, hc, q => i_fNil trivial (q _ _ _ (by rw [List.append_nil]; exact ht) (by simp at hl; omega) hc (hp.mono (by simp at hb; omega)))
  | t :: ts, done, made, b, ds, o4, ht, hg, hp, hb, hl, hc, q => by
    rw [List.map_cons]
    rw [List.length_cons] at hl hb
    have gt := hg t List.mem_cons_self
    refine i_fCons trivial (i_gNm ?_)
    dsimp only [List.set]
    unfold t__law_glued_1
    have add : ∀ (md : List Nat) (ds' : List D), Tk md done → Sep md t → Pl (b + 2) ds' → md.length ≤ made.length + 2 → Cps md → (sAsg (op2 addX (eVar 2) (eVar 4)) (gNm 2)) ⟨[some (.ob 0), some t1, some (.val (.str md)), some (.val (.str P36)), some (.val (.str t))], [.lst ds']⟩
        { nx := forX (gNm 4) (t__law_glued_1 fx_pick) (fun _ => True) Po (ts.map fun s => .val (.str s)), rt := Po.rt, xc := Po.xc, bk := Po.nx, ct := forX (gNm 4) (t__law_glued_1 fx_pick) (fun _ => True) Po (ts.map fun s => .val (.str s)) } := fun md ds' h1 h2 h3 h4 h5 => by
      have hlt := gt.len
      with_reducible refine i_asg (i_op2 (i_var rfl (i_var rfl (i_addS rfl rfl (by rw [sizeLine_eq]; omega) (i_gNm ?_)))))
      dsimp only [List.set]
      refine glue_loop hB ts (done ++ [t]) (md ++ t) (b + 2) ds' _ (tk_app h1 gt.tk h2) (fun z hz => hg z (List.mem_cons_of_mem _ hz)) h3 (by omega) (by rw [List.length_append]; omega) (cps_app h5 gt.cps) fun s ds2 o h6 => ?_
      rw [List.append_assoc] at h6
      exact q s ds2 o h6
    have gapped : ∀ (g : List Nat) (ds' : List D), g ∈ gaps → Pl (b + 2) ds' → (sAsg (op2 addX (eVar 2) (eVar 4)) (gNm 2)) ⟨[some (.ob 0), some t1, some (.val (.str (made ++ g))), some (.val (.str P36)), some (.val (.str t))], [.lst ds']⟩
        { nx := forX (gNm 4) (t__law_glued_1 fx_pick) (fun _ => True) Po (ts.map fun s => .val (.str s)), rt := Po.rt, xc := Po.xc, bk := Po.nx, ct := forX (gNm 4) (t__law_glued_1 fx_pick) (fun _ => True) Po (ts.map fun s => .val (.str s)) } := fun g ds' h1 h2 => by
      obtain ⟨_, _, g1, g2, g3⟩ := gap_ok h1
      exact add _ _ (gap_app ht h1) (fun a b ha _ hpa => by rw [g1 _ _ ha] at hpa; cases hpa) h2 (by rw [List.length_append]; omega) (cps_app hc g3)
    -- a gap that need not be
    have free : Sep made t → (sIf (tVal (op2 (eqX false) (eCall [false, true] [] fx_pick (aCons (eVar 0) (aCons (eD (.int 2)) aNil))) (eD (.int 0)))) (sAsg (op2 addX (eVar 2) (op2 ixX (eD (.lst [.str [32], .str [10]])) (eCall [false, true] [] fx_pick (aCons (eVar 0) (aCons (eD (.int 2)) aNil))))) (gNm 2)) sNext)
        ⟨[some (.ob 0), some t1, some (.val (.str made)), some (.val (.str P36)), some (.val (.str t))], [.lst ds]⟩ { nx := fun e1 => (sAsg (op2 addX (eVar 2) (eVar 4)) (gNm 2)) e1 { nx := forX (gNm 4) (t__law_glued_1 fx_pick) (fun _ => True) Po (ts.map fun s => .val (.str s)), rt := Po.rt, xc := Po.xc, bk := Po.nx, ct := forX (gNm 4) (t__law_glued_1 fx_pick) (fun _ => True) Po (ts.map fun s => .val (.str s)) }, rt := Po.rt, xc := Po.xc, bk := Po.nx, ct := forX (gNm 4) (t__law_glued_1 fx_pick) (fun _ => True) Po (ts.map fun s => .val (.str s)) } := fun hsep => by
      refine i_sIf (i_val (i_op2 (i_call (i_cons (i_var rfl (i_cons (i_d (i_nil (pick_ok rfl hp (by omega) (by omega) (by omega) fun n1 ds1 hr1 hp1 => i_d ?_)))))))))
      refine i_eq (rd_val _ _) (rd_val _ _) (lay_int _) (lay_int _) ?_
      rw [eqv_ii]
      refine i_isb (i_iteD (fun _ => ?_) (fun _ => ?_))
      · repeat' array_get_dec
        refine pick_ok rfl hp1 (by omega) (by omega) (by omega) fun n2 ds2 hr2 hp2 => ?_
        obtain ⟨g, hgm, hga⟩ := at_strs (l := [[32], [10]]) rfl hr2
        have gm : g ∈ gaps := by
          unfold gaps
          simp only [List.mem_cons, List.not_mem_nil, or_false] at hgm ⊢
          rcases hgm with h | h
          · exact .inl h
          · exact .inr (.inl h)
        have hgl := (gap_ok gm).2.2.2.1
        refine i_ixL rfl rfl hga ?_
        refine i_addS rfl rfl (by rw [sizeLine_eq]; omega) (i_gNm ?_)
        exact gapped g _ gm hp2
      · refine i_next ?_
        exact add made _ ht hsep (hp1.mono (by omega)) (by omega) hc
    refine i_seq (i_sIf (i_and (i_val (i_op2 (i_var rfl (i_d (i_neS rfl rfl (i_isb ?_))))))))
    refine i_iteN (fun h => ?_) (fun h => ?_)
    · obtain ⟨L, x, eL⟩ : ∃ L x, made = L ++ [x] := by
        rcases List.eq_nil_or_concat made with h2 | ⟨L, x, h2⟩
        · exact absurd h2 h
        · exact ⟨L, x, by rw [h2, List.concat_eq_append]⟩
      have ha : atI made (-1) = some x := by rw [eL]; exact atI_last
      have hlast : made.getLast? = some x := by rw [eL]; simp
      obtain ⟨c, r, eC⟩ : ∃ c r, t = c :: r := by
        cases t with
        | nil => exact absurd rfl gt.ne
        | cons c r => exact ⟨c, r, rfl⟩
      have hb2 : atI t 0 = some c := by rw [eC]; exact atI_zero
      have hhd : t.head? = some c := by rw [eC]; rfl
      have htl := gt.len
      refine i_and (i_val (i_op2 (i_op2 (i_var rfl (i_neg (i_d (i_neg1 rfl (i_ixS rfl rfl (by rw [sizeLine_eq]; omega) ha (i_var rfl (i_inC rfl rfl ?_))))))))))
      rw [in36]
      refine i_isb (i_iteB (fun h2 => ?_) (fun h2 => ?_))
      · refine i_val (i_op2 (i_op2 (i_var rfl (i_d (i_ixS rfl rfl (by rw [sizeLine_eq]; omega) hb2 (i_var rfl (i_inC rfl rfl ?_)))))))
        rw [in36]
        refine i_isb (i_iteB (fun h3 => ?_) (fun h3 => ?_))
        · repeat' array_get_dec
          refine pick_ok rfl hp (by omega) (by omega) (by omega) fun n2 ds2 hr2 hp2 => ?_
          obtain ⟨g, gm, hga⟩ := at_strs (l := gaps) rfl hr2
          have hgl := (gap_ok gm).2.2.2.1
          refine i_ixL rfl rfl hga ?_
          refine i_addS rfl rfl (by rw [sizeLine_eq]; omega) (i_gNm ?_)
          exact gapped g _ gm (hp2.mono (by omega))
        · exact free fun a z h4 h5 _ => by
            rw [hhd] at h5
            cases h5
            exact h3
      · refine i_if0 ?_
        exact free fun a z h4 h5 h6 => by
          rw [hlast] at h4
          cases h4
          rw [h2] at h6
          cases h6
    · refine i_if0 ?_
      subst h
      exact free fun a z h4 h5 h6 => by cases h4
theorem l__law_glued : ∀ rs ob P R, fx__law_glued rs ob P R → t__law_glued fx_pick (startE N__law_glued.length rs ob) (endP ob.length P R) := by
  rintro rs ob P R ⟨b, ds, ts, rfl, rfl, hp, hb, hn, hg, q⟩
  show t__law_glued fx_pick ⟨[some (.ob 0), some (.val (.lst (ts.map .str))), none, none, none], [.lst ds]⟩ (endP 1 P R)
  unfold t__law_glued
  repeat' array_get_dec
  rw [List.map_map]
  refine glue_loop (B := b + 120) (by omega) ts [] [] b ds none .nil hg hp (by omega) (by simp; omega) (fun c h => (List.not_mem_nil h).elim) fun s ds2 o4 h1 h2 h3 h4 => ?_
  rw [List.nil_append] at h1
  repeat' array_get_dec
  refine pick_ok rfl h4 (by omega) (by omega) (by omega) fun n2 ds3 hr3 hp3 => ?_
  obtain ⟨g, gm, hga⟩ := at_strs (l := [[], [32], [10]]) rfl hr3
  have gk : Tk (s ++ g) ts ∧ g.length ≤ 2 ∧ Cps g := by
    simp only [List.mem_cons, List.not_mem_nil, or_false] at gm
    rcases gm with rfl | rfl | rfl
    · exact ⟨by rw [List.append_nil]; exact h1, by decide, fun c h => (List.not_mem_nil h).elim⟩
    · exact ⟨gap_app h1 (by decide), by decide, cps_small (by decide)⟩
    · exact ⟨gap_app h1 (by decide), by decide, cps_small (by decide)⟩
  refine i_ixL rfl rfl hga ?_
  have hgl := gk.2.1
  refine i_addS rfl rfl (by rw [sizeLine_eq]; omega) ?_
  repeat' array_get_dec
  exact fin_d1 rfl (q _ _ gk.1 (by rw [List.length_append]; omega) (cps_app h3 gk.2.2) (hp3.mono (by omega)))

end LW
end
section
set_option Elab.async false
set_option linter.all false
set_option autoImplicit false
set_option maxRecDepth 100000
set_option maxHeartbeats 1000000
namespace LW
open PySem PySem.Spec PyProof.Rows DL
open L2 hiding St start
local macro_rules | `(tactic| array_get_dec) => `(tactic| first
  | with_reducible refine i_seq ?_
  | with_reducible refine i_asg ?_
  | (with_reducible refine i_gNm ?_; dsimp only [List.set])
  | with_reducible refine i_var (by with_unfolding_all exact rfl) ?_
  | with_reducible refine i_d ?_
  | with_reducible refine i_op2 ?_
  | with_reducible refine i_ret ?_
  | with_reducible refine i_sIf ?_
  | with_reducible refine i_val ?_
  | with_reducible refine i_isb ?_
  | with_reducible refine i_cons ?_
  | with_reducible refine i_nil ?_
  | with_reducible refine i_eB ?_
  | with_reducible refine i_call ?_
  | with_reducible refine i_tTru ?_
  | with_reducible refine i_tru (by with_unfolding_all exact rfl) (by with_unfolding_all exact trivial) ?_
  | with_reducible refine i_and ?_
  | with_reducible refine i_or ?_
  | with_reducible refine i_not ?_
  | with_reducible refine i_next ?_
  | with_reducible refine i_eand ?_
  | with_reducible refine i_eor ?_
  | with_reducible refine i_eif ?_
  | with_reducible refine i_enot ?_
  | with_reducible refine i_lt (by with_unfolding_all exact rfl) (by with_unfolding_all exact rfl) ?_
  | with_reducible refine i_le (by with_unfolding_all exact rfl) (by with_unfolding_all exact rfl) ?_
  | with_reducible refine i_gt (by with_unfolding_all exact rfl) (by with_unfolding_all exact rfl) ?_
  | with_reducible refine i_ge (by with_unfolding_all exact rfl) (by with_unfolding_all exact rfl) ?_
  | with_reducible refine i_sub (by with_unfolding_all exact rfl) (by with_unfolding_all exact rfl) ?_
  | with_reducible refine i_addI (by with_unfolding_all exact rfl) (by with_unfolding_all exact rfl) ?_
  | with_reducible refine i_isi ?_
  | with_reducible refine i_isi1 (by with_unfolding_all exact rfl) (by with_unfolding_all exact rfl) ?_
  | with_reducible refine i_chain ?_
  | with_reducible refine i_drop ?_
  | with_reducible refine i_brk ?_
  | with_reducible refine i_cont ?_
  | with_reducible refine i_retN ?_
  | with_reducible refine i_isN ?_
  | with_reducible refine i_notN ?_
  | with_reducible refine i_eLst ?_
  | with_reducible refine i_eTup ?_
  | with_reducible refine i_eM ?_
  | with_reducible refine i_neg ?_
  | with_reducible refine i_neg1 (by with_unfolding_all exact rfl) ?_
  | with_reducible refine i_par2 ?_
  | with_reducible refine i_par33 ?_
  | with_reducible refine i_for ?_
  | with_reducible refine i_iSeq ?_
  | with_reducible refine i_seqI (by with_unfolding_all exact rfl) ?_
  | with_reducible refine i_iR1 ?_
  | with_reducible refine i_iEn ?_
  | with_reducible refine i_eSl ?_
  | with_reducible refine i_pNone ?_
  | with_reducible refine i_pSome ?_
  | with_reducible refine i_int1 (by with_unfolding_all exact rfl) ?_
  | with_reducible refine i_d1 (by with_unfolding_all exact rfl) ?_
  | with_reducible refine i_raise ?_
  | with_reducible refine i_aug (by with_unfolding_all exact rfl) ?_
  | (with_reducible refine i_augI (by with_unfolding_all exact rfl) (by with_unfolding_all exact rfl) ?_; dsimp only [List.set])
  | with_reducible refine i_eqS (by with_unfolding_all exact rfl) (by with_unfolding_all exact rfl) ?_
  | with_reducible refine i_neS (by with_unfolding_all exact rfl) (by with_unfolding_all exact rfl) ?_
  | with_reducible refine i_inC (by with_unfolding_all exact rfl) (by with_unfolding_all exact rfl) ?_
  | with_reducible refine i_ninC (by with_unfolding_all exact rfl) (by with_unfolding_all exact rfl) ?_
  | with_reducible refine i_par ?_
  | with_reducible refine i_par3 ?_
  | with_reducible refine i_gsNil ?_
  | with_reducible refine i_gsCons ?_
  | with_reducible refine i_setIx ?_
  | with_reducible refine i_eLc ?_
  | with_reducible refine i_yes ?_
  | with_reducible refine i_tyS (by with_unfolding_all exact rfl) ?_
  | with_reducible refine i_tyL (by with_unfolding_all exact rfl) ?_
  | with_reducible refine i_lenS (by with_unfolding_all exact rfl) (by rw [sizeLine_eq]; (try simp only [List.length_append, List.length_cons, List.length_nil]); omega) ?_
  | with_reducible refine i_addS (by with_unfolding_all exact rfl) (by with_unfolding_all exact rfl) (by rw [sizeLine_eq]; (try simp only [List.length_append, List.length_cons, List.length_nil]); omega) ?_
  | with_reducible refine i_lenL (by with_unfolding_all exact rfl) ?_
  | with_reducible refine i_intI (by with_unfolding_all exact rfl) ?_
  | with_reducible refine i_abs (by with_unfolding_all exact rfl) ?_
  | with_reducible refine i_list (by with_unfolding_all exact rfl) ?_
  | with_reducible refine c_v (by repeat (first | exact fz_nil | apply fz_v | (apply fz_l; with_unfolding_all exact rfl) | (apply fz_f; with_unfolding_all exact rfl) | apply fz_k)) (by with_unfolding_all exact rfl) ?_
  | with_reducible refine i_lsV ?_
  | with_reducible refine i_exD ?_
  | (with_reducible refine ⟨small_line (by simp only [List.length_cons, List.length_nil]; omega), ?_⟩; simp only [allD, dv_val'])
  | with_reducible refine i_ixL (by with_unfolding_all exact rfl) (by with_unfolding_all exact rfl) (by with_unfolding_all exact rfl) ?_
  | with_reducible refine i_setIx1 (by with_unfolding_all exact rfl) (by with_unfolding_all exact rfl) (by with_unfolding_all exact rfl) (by with_unfolding_all exact rfl) ?_
  | with_reducible refine i_mod (by with_unfolding_all exact rfl) (by with_unfolding_all exact rfl) (by omega) ?_
  | with_reducible refine i_fdiv (by with_unfolding_all exact rfl) (by with_unfolding_all exact rfl) (by omega) (by omega) ?_
  | with_reducible refine i_imul (by with_unfolding_all exact rfl) (by with_unfolding_all exact rfl) (by first | exact cmul_l (by omega) (by omega) | exact cmul_r (by omega) (by omega)) ?_
  | with_reducible refine i_pow (by with_unfolding_all exact rfl) (by with_unfolding_all exact rfl) (cpow (by omega) (by omega) (by omega) (by omega)) ?_
  | with_reducible refine i_sum (by with_unfolding_all exact rfl) ?_
  | with_reducible refine i_rng1 (by omega) (by omega) ?_
  | with_reducible refine i_lcD ?_
  | with_reducible refine i_rt0 ?_
  | with_reducible refine i_nx0 ?_
  | with_reducible refine i_xc0 ?_
  | with_reducible refine fin_d ?_
  | with_reducible refine finX_0 ?_
  | with_reducible refine i_ifT (by with_unfolding_all exact rfl) ?_
  | with_reducible refine i_ifF (by with_unfolding_all exact rfl) ?_
  | with_reducible refine i_iteD (fun _ => ?_) (fun _ => ?_)
  | with_reducible refine i_iteN (fun _ => ?_) (fun _ => ?_)
  | with_reducible refine i_iteNB (fun _ => ?_) (fun _ => ?_)
  | with_reducible refine i_iteB (fun _ => ?_) (fun _ => ?_)
  | with_reducible refine i_fz ?_
  | with_reducible refine i_fr ?_
  | (with_reducible refine i_fzL (by with_unfolding_all exact rfl) (by with_unfolding_all exact rfl) (by with_unfolding_all exact rfl) ?_; dsimp only [List.take, List.set, List.length_nil, List.length_cons, Nat.zero_add, Nat.reduceAdd])
  | (with_reducible refine i_fzLT (by with_unfolding_all exact rfl) (by with_unfolding_all exact rfl) ?_; dsimp only [List.take, List.set, List.length_nil, List.length_cons, Nat.zero_add, Nat.reduceAdd])
  | (with_reducible refine i_fzV (by with_unfolding_all exact rfl) (by with_unfolding_all exact rfl) ?_; dsimp only [List.take, List.set, List.length_nil, List.length_cons, Nat.zero_add, Nat.reduceAdd])
  | (with_reducible refine i_fzVT (by with_unfolding_all exact rfl) ?_; dsimp only [List.take, List.set, List.length_nil, List.length_cons, Nat.zero_add, Nat.reduceAdd]))
/-! the law -/
theorem same_v {e : DL.Env} {d : D} {P : RV → DL.Env → Prop} {R : Xc → DL.Env → Prop} (hl : Lay 60 d) (hs : shows d = true) (hz : (PyData.shown d.py).length ≤ 1000000) (q : P (.val (.bl true)) e) : cal [true, true] [] fx__law_same [.val d, .val d] e P R :=
  c_v (fz_v (fz_v fz_nil)) rfl ⟨d, hl, hs, hz, .inl ⟨rfl, rfl, by simpa using q⟩⟩
theorem told_v {e : DL.Env} {s : List Nat} {P : RV → DL.Env → Prop} {R : Xc → DL.Env → Prop} (hz : s.length ≤ 100000) (hc : Cps s)
    (q : match tkF s with
      | .inr ts => P (.ob e.ob.length) ⟨e.sl, e.ob ++ [.lst (ts.map .str)]⟩
      | .inl n => P (.val (.int (n : Nat))) e) : cal [true] [] fx__law_told [.val (.str s)] e P R := by
  refine c_v (fz_v fz_nil) rfl ⟨s, rfl, rfl, hz, hc, ?_⟩
  cases h : tkF s with
  | inr ts =>
    rw [h] at q
    simpa [RV.ren, OD.ren, out] using q
  | inl n =>
    rw [h] at q
    simpa using q
def toldD (s : List Nat) : D := match tkF s with
  | .inr ts => .lst (ts.map .str)
  | .inl n => .int (n : Nat)
theorem told_fz {sl : List (Option RV)} {t : EX} {ds : List D} {s : List Nat} {P : RV → DL.Env → Prop} {R : Xc → DL.Env → Prop} (ht : ∀ P : RV → DL.Env → Prop, P (.val (.str s)) ⟨sl, [.lst ds]⟩ → t ⟨sl, [.lst ds]⟩ P R) (hz : s.length ≤ 100000) (hc : Cps s)
    (q : P (.val (toldD s)) ⟨sl, [.lst ds]⟩) : eFz (eCall [true] [] fx__law_told (aCons t aNil)) ⟨sl, [.lst ds]⟩ P R := by
  refine i_fz (i_call (i_cons ?_))
  have he : ∀ (Q : Xc → DL.Env → Prop), True := fun _ => trivial
  refine ht _ (i_nil (told_v hz hc ?_))
  unfold toldD at q
  cases h : tkF s with
  | inr ts =>
    rw [h] at q
    exact i_fzL rfl rfl rfl q
  | inl n =>
    rw [h] at q
    exact i_fzV rfl rfl q
theorem told_sized {s : List Nat} (hz : s.length ≤ 20000) (hc : Cps s) : Lay 60 (toldD s) ∧ shows (toldD s) = true ∧ (PyData.shown (toldD s).py).length ≤ 1000000 := by
  have sz := tk_size s.length 0 s []
  unfold toldD tkF
  cases h : tkN s.length 0 s [] with
  | inr ts =>
    rw [h] at sz
    obtain ⟨z1, z2, z3⟩ := sz
    simp only [List.map_nil, List.sum_nil, List.length_nil, Nat.zero_add] at z1 z2
    have ct : ∀ t ∈ ts, Cps t := fun t ht c hx => hc c (((z3 t ht).resolve_left (List.not_mem_nil)) c hx)
    have := shown_strs ct
    exact ⟨lay_strs ct, shows_strs ts, by dsimp only; omega⟩
  | inl n =>
    rw [h] at sz
    have hn : n ≤ s.length := by omega
    have := PyData.shown_int_le (i := ((n : Nat) : Int)) (by omega)
    exact ⟨lay_int _, shows_nat (by omega), by dsimp only; rw [D.py]; omega⟩
theorem str_sized {s : List Nat} (hz : s.length ≤ 20000) (hc : Cps s) : Lay 60 (.str s) ∧ shows (.str s) = true ∧ (PyData.shown (D.str s).py).length ≤ 1000000 := by
  have hs := StrLaws.reprText_len (S s) fun c hx => Nat.lt_trans (hc c hx) (by decide)
  rw [S_len] at hs
  refine ⟨lay_str hc, ?_, ?_⟩
  · unfold shows
    rw [D.py, PyData.showable]
  · rw [D.py, PyData.shown]
    omega
theorem filt_loop {sl : List (Option RV)} {ds : List D} {Z : List OD → Prop} {te : EX} (h8 : 8 < sl.length) (hte : te = eVar 8) : ∀ (l acc : List (List Nat)), acc.length + l.length ≤ 100000 → (∀ s ∈ l, s.length ≤ 600 ∧ Cps s) → Z [.lst ds, .lst ((acc ++ l.filter isTok).map D.str)] →
    compX [8] (gNm 8) (tTru (eCall [true] [] fx__law_is_token (aCons (eVar 8) aNil))) te (fun _ => True) sl 1 Z (l.map fun s => .val (.str s)) [.lst ds, .lst (acc.map D.str)]
  | [], acc, hl, _, q => i_cNil trivial (by simpa using q)
  | s :: l, acc, hl, hs, q => by
    subst hte
    rw [List.map_cons]
    refine i_cCons trivial ?_
    rw [List.length_cons] at hl
    obtain ⟨s1, s2⟩ := hs s List.mem_cons_self
    refine i_gNm ?_
    have hv : ((wipeE sl [8]).set 8 (some (.val (.str s))))[8]? = some (some (.val (.str s))) := by
      rw [List.getElem?_set_self]
      rw [wipeE_length]
      exact h8
    refine i_tTru (i_call (i_cons (i_var hv (i_nil ?_))))
    refine c_v (fz_v fz_nil) rfl ⟨s, rfl, rfl, by omega, s2, ?_⟩
    refine i_truB ?_
    refine i_iteB (fun ht => ?_) (fun ht => ?_)
    · refine i_var hv ?_
      refine i_putD rfl rfl (by rw [sizeLine_eq, List.length_map]; omega) ?_
      have em : (acc.map D.str ++ [D.str s]) = (acc ++ [s]).map D.str := by simp
      show compX _ _ _ _ _ _ _ _ _ [.lst ds, .lst (acc.map D.str ++ [D.str s])]
      rw [em]
      refine filt_loop h8 rfl l (acc ++ [s]) (by rw [List.length_append]; simp; omega) (fun z hz => hs z (List.mem_cons_of_mem _ hz)) ?_
      rw [List.filter_cons_of_pos ht] at q
      simpa using q
    · refine filt_loop h8 rfl l acc (by omega) (fun z hz => hs z (List.mem_cons_of_mem _ hz)) ?_
      rw [List.filter_cons_of_neg (by rw [ht]; simp)] at q
      exact q
theorem six {r : Nat} (h : (r : Int) < 6) : ∃ x : List (List Nat), (∀ t ∈ x, Good t) ∧ x.length ≤ 1 ∧ atI [D.lst [], .lst [.str [61]], .lst [.str [59]], .lst [.str [91]], .lst [.str [93]], .lst [.str [44]]] (r : Int) = some (.lst (x.map .str)) := by
  have hr : r = 0 ∨ r = 1 ∨ r = 2 ∨ r = 3 ∨ r = 4 ∨ r = 5 := by omega
  have g : ∀ z, z ∈ signs → ∀ t ∈ [z], Good t := fun z hz t ht => by
    rw [List.mem_singleton.mp ht]
    exact .inl hz
  rcases hr with rfl | rfl | rfl | rfl | rfl | rfl
  · exact ⟨[], fun t ht => (List.not_mem_nil ht).elim, by decide, rfl⟩
  · exact ⟨[[61]], g _ (by decide), by decide, rfl⟩
  · exact ⟨[[59]], g _ (by decide), by decide, rfl⟩
  · exact ⟨[[91]], g _ (by decide), by decide, rfl⟩
  · exact ⟨[[93]], g _ (by decide), by decide, rfl⟩
  · exact ⟨[[44]], g _ (by decide), by decide, rfl⟩
theorem file_loop {T : Cn} {Po : Post} {B : Nat} (hB : B < 1000000) {a0 a1 a2 a4 a5 a6 a9 a10 a11 : Option RV} : ∀ (runs file : List (List Nat)) (b : Nat) (ds : List D) (o8 : Option RV), (∀ t ∈ runs, Good t) → (∀ t ∈ file, Good t) → Pl b ds → b + runs.length ≤ B → file.length + 2 * runs.length ≤ 60 →
    (∀ (fl : List (List Nat)) ds' o8, (∀ t ∈ fl, Good t) → fl.length ≤ 60 → Pl B ds' → Po.nx ⟨[a0, a1, a2, some (.ob 0), a4, a5, a6, some (.val (.lst (fl.map .str))), o8, a9, a10, a11], [.lst ds']⟩) →
    forX (gNm 8) (t_law_1 T fx_tokens fx__law_same fx__law_told fx_text_of fx__law_glued fx_pick (fxDraw 40 Run) fx__law_is_token fx__law_cut (fxDraw 1200 Txt0) fx__law_pool) (fun _ => True) Po (runs.map fun s => .val (.str s)) ⟨[a0, a1, a2, some (.ob 0), a4, a5, a6, some (.val (.lst (file.map .str))), o8, a9, a10, a11], [.lst ds]⟩
  | [], file, b, ds, o8, _, hf, hp, hb, hl, q => i_fNil trivial (q _ _ _ hf (by simp at hl; omega) (hp.mono (by simpa using hb)))
  | t :: runs, file, b, ds, o8, hr, hf, hp, hb, hl, q => by
    rw [List.map_cons]
    rw [List.length_cons] at hl hb
    refine i_fCons trivial (i_gNm ?_)
    dsimp only [List.set]
    unfold t_law_1
    repeat' array_get_dec
    refine i_addL (m := file.map D.str) (n := [.str t]) rfl rfl (by rw [sizeLine_eq]; simp only [List.length_map, List.length_cons, List.length_nil]; omega) ?_
    refine i_fzL rfl rfl rfl ?_
    dsimp only [List.take, List.set, List.length_nil, List.length_cons, Nat.zero_add, Nat.reduceAdd]
    repeat' array_get_dec
    refine pick_ok rfl hp (by omega) (by omega) (by omega) fun n ds1 hr1 hp1 => ?_
    obtain ⟨x, hx, hxl, ha⟩ := six hr1
    refine i_ixL rfl rfl ha ?_
    refine i_addL (m := file.map D.str ++ [.str t]) (n := x.map D.str) rfl rfl (by rw [sizeLine_eq]; simp only [List.length_append, List.length_map, List.length_cons, List.length_nil]; omega) ?_
    refine i_fzL rfl rfl rfl ?_
    dsimp only [List.take, List.set, List.length_nil, List.length_cons, Nat.zero_add, Nat.reduceAdd]
    have em : file.map D.str ++ [D.str t] ++ x.map D.str = (file ++ [t] ++ x).map D.str := by simp
    rw [em]
    refine i_gNm ?_
    dsimp only [List.set]
    have eob : ∀ (A : List D), List.take 1 (((List.take 1 (([OD.lst ds] ++ [OD.lst (List.map D.str file ++ [D.str t])]).set 1 (OD.fz (D.lst (List.map D.str file ++ [D.str t]))))).set 0 (OD.lst ds1) ++ [OD.lst A]).set (List.take 1 (([OD.lst ds] ++ [OD.lst (List.map D.str file ++ [D.str t])]).set 1 (OD.fz (D.lst (List.map D.str file ++ [D.str t])))) |>.set 0 (OD.lst ds1)).length (OD.fz (D.lst A))) = [OD.lst ds1] := fun A => rfl
    rw [eob]
    refine file_loop (T := T) hB runs (file ++ [t] ++ x) (b + 1) ds1 _ (fun z hz => hr z (List.mem_cons_of_mem _ hz)) (fun z hz => ?_) hp1 (by omega) (by simp only [List.length_append, List.length_cons, List.length_nil]; omega) q
    rcases List.mem_append.mp hz with h | h
    · rcases List.mem_append.mp h with h | h
      · exact hf z h
      · rw [List.mem_singleton.mp h]
        exact hr t List.mem_cons_self
    · exact hx z h

end LW
end
section
set_option Elab.async false
set_option linter.all false
set_option autoImplicit false
set_option maxRecDepth 100000
set_option maxHeartbeats 1000000
namespace LW
open PySem PySem.Spec PyProof.Rows DL
open L2 hiding St start
local macro_rules | `(tactic| array_get_dec) => `(tactic| first
  | with_reducible refine i_seq ?_
  | with_reducible refine i_asg ?_
  | (with_reducible refine i_gNm ?_; dsimp only [List.set])
  | with_reducible refine i_var (by with_unfolding_all exact rfl) ?_
  | with_reducible refine i_d ?_
  | with_reducible refine i_op2 ?_
  | with_reducible refine i_ret ?_
  | with_reducible refine i_sIf ?_
  | with_reducible refine i_val ?_
  | with_reducible refine i_isb ?_
  | with_reducible refine i_cons ?_
  | with_reducible refine i_nil ?_
  | with_reducible refine i_eB ?_
  | with_reducible refine i_call ?_
  | with_reducible refine i_tTru ?_
  | with_reducible refine i_tru (by with_unfolding_all exact rfl) (by with_unfolding_all exact trivial) ?_
  | with_reducible refine i_and ?_
  | with_reducible refine i_or ?_
  | with_reducible refine i_not ?_
  | with_reducible refine i_next ?_
  | with_reducible refine i_eand ?_
  | with_reducible refine i_eor ?_
  | with_reducible refine i_eif ?_
  | with_reducible refine i_enot ?_
  | with_reducible refine i_lt (by with_unfolding_all exact rfl) (by with_unfolding_all exact rfl) ?_
  | with_reducible refine i_le (by with_unfolding_all exact rfl) (by with_unfolding_all exact rfl) ?_
  | with_reducible refine i_gt (by with_unfolding_all exact rfl) (by with_unfolding_all exact rfl) ?_
  | with_reducible refine i_ge (by with_unfolding_all exact rfl) (by with_unfolding_all exact rfl) ?_
  | with_reducible refine i_sub (by with_unfolding_all exact rfl) (by with_unfolding_all exact rfl) ?_
  | with_reducible refine i_addI (by with_unfolding_all exact rfl) (by with_unfolding_all exact rfl) ?_
  | with_reducible refine i_isi ?_
  | with_reducible refine i_isi1 (by with_unfolding_all exact rfl) (by with_unfolding_all exact rfl) ?_
  | with_reducible refine i_chain ?_
  | with_reducible refine i_drop ?_
  | with_reducible refine i_brk ?_
  | with_reducible refine i_cont ?_
  | with_reducible refine i_retN ?_
  | with_reducible refine i_isN ?_
  | with_reducible refine i_notN ?_
  | with_reducible refine i_eLst ?_
  | with_reducible refine i_eTup ?_
  | with_reducible refine i_eM ?_
  | with_reducible refine i_neg ?_
  | with_reducible refine i_neg1 (by with_unfolding_all exact rfl) ?_
  | with_reducible refine i_par2 ?_
  | with_reducible refine i_par33 ?_
  | with_reducible refine i_for ?_
  | with_reducible refine i_iSeq ?_
  | with_reducible refine i_seqI (by with_unfolding_all exact rfl) ?_
  | with_reducible refine i_iR1 ?_
  | with_reducible refine i_iEn ?_
  | with_reducible refine i_eSl ?_
  | with_reducible refine i_pNone ?_
  | with_reducible refine i_pSome ?_
  | with_reducible refine i_int1 (by with_unfolding_all exact rfl) ?_
  | with_reducible refine i_d1 (by with_unfolding_all exact rfl) ?_
  | with_reducible refine i_raise ?_
  | with_reducible refine i_aug (by with_unfolding_all exact rfl) ?_
  | (with_reducible refine i_augI (by with_unfolding_all exact rfl) (by with_unfolding_all exact rfl) ?_; dsimp only [List.set])
  | with_reducible refine i_eqS (by with_unfolding_all exact rfl) (by with_unfolding_all exact rfl) ?_
  | with_reducible refine i_neS (by with_unfolding_all exact rfl) (by with_unfolding_all exact rfl) ?_
  | with_reducible refine i_inC (by with_unfolding_all exact rfl) (by with_unfolding_all exact rfl) ?_
  | with_reducible refine i_ninC (by with_unfolding_all exact rfl) (by with_unfolding_all exact rfl) ?_
  | with_reducible refine i_par ?_
  | with_reducible refine i_par3 ?_
  | with_reducible refine i_gsNil ?_
  | with_reducible refine i_gsCons ?_
  | with_reducible refine i_setIx ?_
  | with_reducible refine i_eLc ?_
  | with_reducible refine i_yes ?_
  | with_reducible refine i_tyS (by with_unfolding_all exact rfl) ?_
  | with_reducible refine i_tyL (by with_unfolding_all exact rfl) ?_
  | with_reducible refine i_lenS (by with_unfolding_all exact rfl) (by rw [sizeLine_eq]; (try simp only [List.length_append, List.length_cons, List.length_nil]); omega) ?_
  | with_reducible refine i_addS (by with_unfolding_all exact rfl) (by with_unfolding_all exact rfl) (by rw [sizeLine_eq]; (try simp only [List.length_append, List.length_cons, List.length_nil]); omega) ?_
  | with_reducible refine i_lenL (by with_unfolding_all exact rfl) ?_
  | with_reducible refine i_intI (by with_unfolding_all exact rfl) ?_
  | with_reducible refine i_abs (by with_unfolding_all exact rfl) ?_
  | with_reducible refine i_list (by with_unfolding_all exact rfl) ?_
  | with_reducible refine c_v (by repeat (first | exact fz_nil | apply fz_v | (apply fz_l; with_unfolding_all exact rfl) | (apply fz_f; with_unfolding_all exact rfl) | apply fz_k)) (by with_unfolding_all exact rfl) ?_
  | with_reducible refine i_lsV ?_
  | with_reducible refine i_exD ?_
  | (with_reducible refine ⟨small_line (by simp only [List.length_cons, List.length_nil]; omega), ?_⟩; simp only [allD, dv_val'])
  | with_reducible refine i_ixL (by with_unfolding_all exact rfl) (by with_unfolding_all exact rfl) (by with_unfolding_all exact rfl) ?_
  | with_reducible refine i_setIx1 (by with_unfolding_all exact rfl) (by with_unfolding_all exact rfl) (by with_unfolding_all exact rfl) (by with_unfolding_all exact rfl) ?_
  | with_reducible refine i_mod (by with_unfolding_all exact rfl) (by with_unfolding_all exact rfl) (by omega) ?_
  | with_reducible refine i_fdiv (by with_unfolding_all exact rfl) (by with_unfolding_all exact rfl) (by omega) (by omega) ?_
  | with_reducible refine i_imul (by with_unfolding_all exact rfl) (by with_unfolding_all exact rfl) (by first | exact cmul_l (by omega) (by omega) | exact cmul_r (by omega) (by omega)) ?_
  | with_reducible refine i_pow (by with_unfolding_all exact rfl) (by with_unfolding_all exact rfl) (cpow (by omega) (by omega) (by omega) (by omega)) ?_
  | with_reducible refine i_sum (by with_unfolding_all exact rfl) ?_
  | with_reducible refine i_rng1 (by omega) (by omega) ?_
  | with_reducible refine i_lcD ?_
  | with_reducible refine i_rt0 ?_
  | with_reducible refine i_nx0 ?_
  | with_reducible refine i_xc0 ?_
  | with_reducible refine fin_d ?_
  | with_reducible refine finX_0 ?_
  | with_reducible refine i_ifT (by with_unfolding_all exact rfl) ?_
  | with_reducible refine i_ifF (by with_unfolding_all exact rfl) ?_
  | with_reducible refine i_iteD (fun _ => ?_) (fun _ => ?_)
  | with_reducible refine i_iteN (fun _ => ?_) (fun _ => ?_)
  | with_reducible refine i_iteNB (fun _ => ?_) (fun _ => ?_)
  | with_reducible refine i_iteB (fun _ => ?_) (fun _ => ?_)
  | with_reducible refine i_fz ?_
  | with_reducible refine i_fr ?_
  | (with_reducible refine i_fzL (by with_unfolding_all exact rfl) (by with_unfolding_all exact rfl) (by with_unfolding_all exact rfl) ?_; dsimp only [List.take, List.set, List.length_nil, List.length_cons, Nat.zero_add, Nat.reduceAdd])
  | (with_reducible refine i_fzLT (by with_unfolding_all exact rfl) (by with_unfolding_all exact rfl) ?_; dsimp only [List.take, List.set, List.length_nil, List.length_cons, Nat.zero_add, Nat.reduceAdd])
  | (with_reducible refine i_fzV (by with_unfolding_all exact rfl) (by with_unfolding_all exact rfl) ?_; dsimp only [List.take, List.set, List.length_nil, List.length_cons, Nat.zero_add, Nat.reduceAdd])
  | (with_reducible refine i_fzVT (by with_unfolding_all exact rfl) ?_; dsimp only [List.take, List.set, List.length_nil, List.length_cons, Nat.zero_add, Nat.reduceAdd]))
/-! one pass of the law -/
section
variable {T : Cn} {Po : Post} {R : Xc → DL.Env → Prop}
theorem cut_v {s : List Nat} {P : RV → List OD → Prop} {R : Xc → List OD → Prop} (hz : s.length ≤ 90000) (hc : Cps s) (q : P (.val (toldD s)) []) : fx__law_cut [.val (.str s)] [] P R := by
  refine ⟨s, rfl, rfl, hz, hc, ?_⟩
  unfold toldD at q
  cases h : tkF s with
  | inr ts => rw [h] at q; exact q
  | inl n => rw [h] at q; exact q
theorem nsame {t u : EX} {e : DL.Env} {d : D} {P : Bool → DL.Env → Prop} (ht : ∀ P : RV → DL.Env → Prop, P (.val d) e → t e P R) (hu : ∀ P : RV → DL.Env → Prop, P (.val d) e → u e P R) (hd : Lay 60 d ∧ shows d = true ∧ (PyData.shown d.py).length ≤ 1000000) (q : P false e) :
    tNotX (tTru (eCall [true, true] [] fx__law_same (aCons t (aCons u aNil)))) e P R := by
  refine i_not (i_tTru (i_call (i_cons (ht _ (i_cons (hu _ (i_nil (same_v hd.1 hd.2.1 hd.2.2 ?_))))))))
  exact i_tru rfl trivial q
theorem if_or2 {c1 c2 : TX} {t u : SX} {e : DL.Env} (h1 : ∀ P, P false e → c1 e P Po.xc) (h2 : ∀ P, P false e → c2 e P Po.xc) (q : u e Po) : sIf (tOrX c1 c2) t u e Po := by
  refine i_sIf (i_or (h1 _ ?_))
  rw [if_neg Bool.false_ne_true]
  refine h2 _ ?_
  rw [if_neg Bool.false_ne_true]
  exact q
theorem if_f {c1 : TX} {t u : SX} {e : DL.Env} (h1 : ∀ P, P false e → c1 e P Po.xc) (q : u e Po) : sIf c1 t u e Po := by
  refine i_sIf (h1 _ ?_)
  rw [if_neg Bool.false_ne_true]
  exact q
theorem v_var {sl : List (Option RV)} {ob : List OD} {i : Nat} {r : RV} (h : sl[i]? = some (some r)) {P : RV → DL.Env → Prop} (q : P r ⟨sl, ob⟩) : eVar i ⟨sl, ob⟩ P R := i_var h q
/-- the text drawn, cut and told -/
theorem st_A {sl : List (Option RV)} {ds : List D} {s : List Nat} (h4 : sl[4]? = some (some (.val (.str s)))) (h5 : sl[5]? = some (some (.val (toldD s)))) (hz : s.length ≤ 20000) (hc : Cps s) (q : Po.nx ⟨sl, [.lst ds]⟩) :
    sIf (tOrX (tNotX (tTru (eCall [true, true] [] fx__law_same (aCons (eFz (eCall [true] [] fx__law_told (aCons (eVar 4) aNil))) (aCons (eVar 5) aNil))))) (tNotX (tTru (eCall [true, true] [] fx__law_same (aCons (eFz (eCall [true] [] fx__law_told (aCons (eVar 4) aNil))) (aCons (eVar 5) aNil)))))) (sRet (eD (.bl false))) sNext ⟨sl, [.lst ds]⟩ Po :=
  if_or2 (fun P p => nsame (fun P p => told_fz (fun P p => v_var h4 p) (by omega) hc p) (fun P p => v_var h5 p) (told_sized hz hc) p)
    (fun P p => nsame (fun P p => told_fz (fun P p => v_var h4 p) (by omega) hc p) (fun P p => v_var h5 p) (told_sized hz hc) p) (i_next q)
/-- the runs -/
theorem st_runs {sl : List (Option RV)} {ds : List D} {b : Nat} {te2 te3 : EX} (h2 : te2 = eCall [false] [] (fxDraw 40 Run) (aCons (eVar 3) aNil)) (h3 : te3 = eVar 8) (h8 : sl.length = 12) (hp3 : sl[3]? = some (some (.ob 0))) (hp : Pl b ds) (hb : b + 2000 < 1000000)
    (q : ∀ (runs : List (List Nat)) (ds' : List D), (∀ t ∈ runs, Good t) → runs.length ≤ 24 → Pl (b + 1000) ds' → Po.nx ⟨sl.set 6 (some (.val (.lst (runs.map .str)))), [.lst ds']⟩) :
    sAsg (eFz (eLc (iSeq (eFz (eLc (iR1 (aCons (eCall [false, true] [] fx_pick (aCons (eVar 3) (aCons (eD (.int 25)) aNil))) aNil)) (gNm 11) tYesX te2 [11]))) (gNm 8) (tTru (eCall [true] [] fx__law_is_token (aCons (eVar 8) aNil))) te3 [8])) (gNm 6) ⟨sl, [.lst ds]⟩ Po := by
  refine i_asg (i_fz (i_eLc (i_iSeq (i_fz (i_eLc (i_iR1 (i_cons (i_call (i_cons (v_var hp3 (i_cons (i_d (i_nil ?_))))))))))))) 
  refine pick_ok rfl hp (by omega) (by omega) (by omega) fun n ds1 hn hp1 => ?_
  refine i_nil (i_rng1 (by omega) (by omega) (i_lcD ?_))
  have hlen : ((List.range ((n : Nat) : Int).toNat).map fun i : Nat => (RV.val (.int i) : RV)).length = n := by simp
  refine comp_draw (n := 40) (good := fun d => Run (.val d)) (fun r => dr_call (n := 40) (good := Run) (by simp [wipeE, hp3]) h2) (show (1 : Nat) ≠ 0 by decide) _ (b + 1) ds1 [] _ rfl rfl hp1 (by rw [hlen]; omega) (by rw [hlen]; simp; omega) fun ds2 acc hp2 hl hg => ?_
  rw [hlen] at hp2 hl
  obtain ⟨ss, rfl, hss, hsl⟩ := texts_of (l := acc) fun d hd => (hg d hd).resolve_left (by simp)
  rw [hl, List.length_nil, Nat.zero_add] at hsl
  refine i_fzL rfl rfl rfl ?_
  refine i_seqI (all := ss.map fun s => .val (.str s)) (G := fun _ => True) (by show some (_, _) = some (_, _); rw [List.map_map]; rfl) (i_lcD ?_)
  show compX [8] (gNm 8) (tTru (eCall [true] [] fx__law_is_token (aCons (eVar 8) aNil))) te3 (fun _ => True) sl 1 _ (ss.map fun s => .val (.str s)) [.lst ds2, .lst (([] : List (List Nat)).map D.str)]
  refine filt_loop (by omega) h3 ss [] (by simp; omega) (fun s hs => ⟨(hss s hs).2.1, plain_cps (hss s hs).2.2⟩) ?_
  refine i_fzL rfl rfl rfl ?_
  refine i_gNm ?_
  rw [List.nil_append]
  refine q _ ds2 (fun t ht => ?_) ?_ (hp2.mono (by omega))
  · obtain ⟨h1, h2⟩ := List.mem_filter.mp ht
    exact .inr ⟨(hss t h1).1, (hss t h1).2.2, h2⟩
  · exact Nat.le_trans (List.length_filter_le _ _) (by omega)
/-- the file's text -/
theorem v_text {t : EX} {e : DL.Env} {ts : List (List Nat)} {P : RV → DL.Env → Prop} (ht : ∀ P : RV → DL.Env → Prop, P (.val (.lst (ts.map .str))) e → t e P R) (hz : ts.length ≤ 60) (hg : ∀ t ∈ ts, Good t) (q : P (.val (.str (jn [32] ts))) e) : eCall [true] [] fx_text_of (aCons t aNil) e P R := by
  refine i_call (i_cons (ht _ (i_nil (c_v (fz_v fz_nil) rfl ⟨ts, rfl, rfl, ?_, ?_⟩))))
  · have := sum_le (k := 12) fun t ht => (hg t ht).len
    omega
  · rw [joinL_eq]
    simpa using q
theorem jn_sized {ts : List (List Nat)} (hz : ts.length ≤ 60) (hg : ∀ t ∈ ts, Good t) : (jn [32] ts).length ≤ 1000 ∧ Cps (jn [32] ts) ∧ toldD (jn [32] ts) = .lst (ts.map .str) := by
  have h1 := sum_le (k := 12) fun t ht => (hg t ht).len
  have h2 := jn_len (a := [32]) ts
  refine ⟨?_, cps_jn fun t ht => (hg t ht).cps, ?_⟩
  · simp only [List.length_cons, List.length_nil] at h2
    omega
  · unfold toldD
    rw [tk_all (tk_jn hg)]
theorem lst_sized {ts : List (List Nat)} (hz : ts.length ≤ 60) (hg : ∀ t ∈ ts, Good t) : Lay 60 (.lst (ts.map .str)) ∧ shows (.lst (ts.map .str)) = true ∧ (PyData.shown (D.lst (ts.map .str)).py).length ≤ 1000000 := by
  have h := told_sized (s := jn [32] ts) (by have := (jn_sized hz hg).1; omega) (jn_sized hz hg).2.1
  rw [(jn_sized hz hg).2.2] at h
  exact h
/-- its text is told as the file -/
theorem v_back {sl : List (Option RV)} {ds : List D} {ts : List (List Nat)} (h7 : sl[7]? = some (some (.val (.lst (ts.map .str))))) (h9 : sl[9]? = some (some (.val (.lst (ts.map .str))))) (hz : ts.length ≤ 60) (hg : ∀ t ∈ ts, Good t) {P : Bool → DL.Env → Prop} (q : P false ⟨sl, [.lst ds]⟩) :
    tNotX (tTru (eCall [true, true] [] fx__law_same (aCons (eFz (eCall [true] [] fx__law_told (aCons (eCall [true] [] fx_text_of (aCons (eVar 7) aNil)) aNil))) (aCons (eVar 9) aNil)))) ⟨sl, [.lst ds]⟩ P R :=
  nsame (d := .lst (ts.map .str)) (fun P p => told_fz (s := jn [32] ts) (fun P p => v_text (fun P p => v_var h7 p) hz hg p) (by have := (jn_sized hz hg).1; omega) (jn_sized hz hg).2.1 (by rw [(jn_sized hz hg).2.2]; exact p)) (fun P p => v_var h9 p) (lst_sized hz hg) q
theorem st_B {sl : List (Option RV)} {ds : List D} {ts : List (List Nat)} (h7 : sl[7]? = some (some (.val (.lst (ts.map .str))))) (h9 : sl[9]? = some (some (.val (.lst (ts.map .str))))) (hz : ts.length ≤ 60) (hg : ∀ t ∈ ts, Good t) (q : Po.nx ⟨sl, [.lst ds]⟩) :
    sIf (tOrX (tNotX (tTru (eCall [true, true] [] fx__law_same (aCons (eCall [true] [] fx_text_of (aCons (eVar 7) aNil)) (aCons (eM tyStr joinX (eD (.str [32])) (aCons (eVar 9) aNil)) aNil))))) (tNotX (tTru (eCall [true, true] [] fx__law_same (aCons (eFz (eCall [true] [] fx__law_told (aCons (eCall [true] [] fx_text_of (aCons (eVar 7) aNil)) aNil))) (aCons (eVar 9) aNil)))))) (sRet (eD (.bl false))) sNext ⟨sl, [.lst ds]⟩ Po :=
  if_or2 (fun P p => nsame (d := .str (jn [32] ts)) (fun P p => v_text (fun P p => v_var h7 p) hz hg p) (fun P p => by
      refine i_eM (i_d ⟨⟨_, rfl⟩, i_cons (v_var h9 (i_nil (i_join rfl rfl (strsD_map _) ?_ ?_)))⟩)
      · have := sum_le (k := 12) fun t ht => (hg t ht).len
        simp only [List.length_cons, List.length_nil]
        omega
      · rw [joinL_eq]
        exact p) (str_sized (by have := (jn_sized hz hg).1; omega) (jn_sized hz hg).2.1) p)
    (fun P p => v_back h7 h9 hz hg p) (i_next q)
theorem st_D {sl : List (Option RV)} {ds es : List D} {ts : List (List Nat)} (h7 : sl[7]? = some (some (.val (.lst (ts.map .str))))) (h9 : sl[9]? = some (some (.val (.lst (ts.map .str))))) (hz : ts.length ≤ 60) (hg : ∀ t ∈ ts, Good t) (q : Po.nx ⟨sl, [.lst ds, .lst es]⟩) :
    sIf (tNotX (tTru (eCall [true, true] [] fx__law_same (aCons (eFz (eCall [true] [] fx__law_told (aCons (eCall [true] [] fx_text_of (aCons (eVar 7) aNil)) aNil))) (aCons (eVar 9) aNil))))) (sRet (eD (.bl false))) sNext ⟨sl, [.lst ds, .lst es]⟩ Po := by
  refine if_f (fun P p => nsame (d := .lst (ts.map .str)) (fun P p => ?_) (fun P p => v_var h9 p) (lst_sized hz hg) p) (i_next q)
  refine i_fz (i_call (i_cons (v_text (fun P p => v_var h7 p) hz hg (i_nil (told_v (by have := (jn_sized hz hg).1; omega) (jn_sized hz hg).2.1 ?_)))))
  rw [tk_all (tk_jn hg)]
  exact i_fzL rfl rfl rfl p
theorem st_C {sl : List (Option RV)} {ds : List D} {ts : List (List Nat)} (h7 : sl[7]? = some (some (.val (.lst (ts.map .str))))) (h9 : sl[9]? = some (some (.val (.lst (ts.map .str))))) (h10 : sl[10]? = some (some (.ob 1))) (hz : ts.length ≤ 60) (hg : ∀ t ∈ ts, Good t) (q : Po.nx ⟨sl, [.lst ds, .lst (ts.map .str)]⟩) :
    sIf (tOrX (tNotX (tTru (eCall [false, true] [] fx__law_same (aCons (eVar 10) (aCons (eVar 9) aNil))))) (tOrX (tVal (op2 (eqX true) (eVar 7) (eVar 9))) (tVal (op2 (eqX true) (eCall [true] [] fx_text_of (aCons (eD (.lst [])) aNil)) (eD (.str [])))))) (sRet (eD (.bl false))) sNext ⟨sl, [.lst ds, .lst (ts.map .str)]⟩ Po := by
  refine if_or2 (fun P p => ?_) (fun P p => ?_) (i_next q)
  · refine i_not (i_tTru (i_call (i_cons (v_var h10 (i_cons (v_var h9 (i_nil ?_)))))))
    refine c_o (o := .lst (ts.map .str)) (fz_k (fz_v fz_nil)) rfl rfl (fun _ => rfl) rfl ?_
    obtain ⟨s1, s2, s3⟩ := lst_sized hz hg
    exact ⟨_, s1, s2, s3, .inr ⟨_, rfl, rfl, rfl, i_tru rfl trivial p⟩⟩
  · refine i_or (i_val (i_op2 (v_var h7 (v_var h9 ?_))))
    refine i_ne (rd_val _ _) (rd_val _ _) (lst_sized hz hg).1 (lst_sized hz hg).1 ?_
    rw [eqv_strs, decide_eq_true rfl]
    refine i_isb ?_
    refine i_ifF rfl (i_val (i_op2 ?_))
    refine v_text (ts := []) (fun P p => p) (by simp) (fun t ht => (List.not_mem_nil ht).elim) (i_d (i_neS rfl rfl (i_isb p)))
theorem pass {ns : List Int} {k : Nat} (hk : k ≤ 100) {o2 : Option RV} (hn : ∀ a1 a3 a4 a5 a6 a7 a8 a9 a10 a11 ob, Po.nx ⟨[some (.val (.lst (ns.map .int))), a1, o2, a3, a4, a5, a6, a7, a8, a9, a10, a11], ob⟩) :
    t_law_4 T fx_tokens fx__law_same fx__law_told fx_text_of fx__law_glued fx_pick (fxDraw 40 Run) fx__law_is_token fx__law_cut (fxDraw 1200 Txt0) fx__law_pool ⟨[some (.val (.lst (ns.map .int))), some (.val (.int (k : Nat))), o2, none, none, none, none, none, none, none, none, none], []⟩ Po := by
  unfold t_law_4
  refine i_seq (i_asg (i_call (i_cons (v_var rfl (i_cons (v_var rfl (i_nil (c_v (fz_v (fz_v fz_nil)) rfl ⟨ns, k, rfl, rfl, hk, fun ds hp => ?_⟩)))))))) 
  refine i_gNm ?_
  simp only [back_nil, RV.ren, OD.ren, out, List.length_nil, List.length_cons, List.getElem?_nil, Nat.zero_add, Nat.sub_zero, Nat.reduceAdd, List.map_cons, List.map_nil, List.nil_append, List.set_cons_zero, List.set_cons_succ, List.cons_append, List.take_succ_cons, List.take_zero]
  refine i_seq (i_asg (i_call (i_cons (v_var rfl (i_nil ?_)))))
  refine draw_ok (b := 0) (n := 1200) rfl hp (by omega) (fun d ds1 hd hp1 => ?_)
  obtain ⟨s, hs, hz, hc⟩ := hd
  cases hs
  refine i_gNm ?_
  simp only [back_nil, RV.ren, OD.ren, out, List.length_nil, List.length_cons, List.getElem?_nil, Nat.zero_add, Nat.sub_zero, Nat.reduceAdd, List.map_cons, List.map_nil, List.nil_append, List.set_cons_zero, List.set_cons_succ, List.cons_append, List.take_succ_cons, List.take_zero]
  refine i_seq (i_asg (i_call (i_cons (v_var rfl (i_nil (c_v (fz_v fz_nil) rfl (cut_v (by omega) hc ?_)))))))
  refine i_gNm ?_
  simp only [back_nil, RV.ren, OD.ren, out, List.length_nil, List.length_cons, List.getElem?_nil, Nat.zero_add, Nat.sub_zero, Nat.reduceAdd, List.map_cons, List.map_nil, List.nil_append, List.set_cons_zero, List.set_cons_succ, List.cons_append, List.take_succ_cons, List.take_zero]
  refine i_seq (st_A (s := s) rfl rfl hz hc ?_)
  refine i_seq (st_runs (b := 0 + 1200) rfl rfl rfl rfl hp1 (by omega) fun runs ds2 hr hrl hp2 => ?_)
  simp only [back_nil, RV.ren, OD.ren, out, List.length_nil, List.length_cons, List.getElem?_nil, Nat.zero_add, Nat.sub_zero, Nat.reduceAdd, List.map_cons, List.map_nil, List.nil_append, List.set_cons_zero, List.set_cons_succ, List.cons_append, List.take_succ_cons, List.take_zero]
  refine i_seq (i_asg (i_d (i_gNm ?_)))
  simp only [back_nil, RV.ren, OD.ren, out, List.length_nil, List.length_cons, List.getElem?_nil, Nat.zero_add, Nat.sub_zero, Nat.reduceAdd, List.map_cons, List.map_nil, List.nil_append, List.set_cons_zero, List.set_cons_succ, List.cons_append, List.take_succ_cons, List.take_zero]
  refine i_seq (i_for (i_iSeq (v_var rfl (i_seqI (all := runs.map fun s => .val (.str s)) (G := fun _ => True) (by show some (_, _) = some (_, _); rw [List.map_map]; rfl) ?_))))
  refine file_loop (T := T) (B := 0 + 1200 + 1000 + 100) (by omega) runs [] _ ds2 none hr (fun t ht => (List.not_mem_nil ht).elim) hp2 (by omega) (by simp; omega) fun fl ds3 o8 hf hfl hp3 => ?_
  refine i_seq (i_asg (i_fz (i_eB (i_cons (v_var rfl (i_nil (i_list rfl (i_fzL rfl rfl rfl (i_gNm ?_)))))))))
  simp only [back_nil, RV.ren, OD.ren, out, List.length_nil, List.length_cons, List.getElem?_nil, Nat.zero_add, Nat.sub_zero, Nat.reduceAdd, List.map_cons, List.map_nil, List.nil_append, List.set_cons_zero, List.set_cons_succ, List.cons_append, List.take_succ_cons, List.take_zero]
  refine i_seq (st_B (ts := fl) rfl rfl hfl hf ?_)
  refine i_seq (i_asg (i_call (i_cons (i_call (i_cons (v_var rfl (i_cons (v_var rfl (i_nil ?_)))))))))
  refine c_o (o := .lst ds3) (fz_k (fz_v fz_nil)) rfl rfl (fun _ => rfl) rfl ?_
  refine ⟨_, ds3, fl, rfl, rfl, hp3, by omega, hfl, hf, fun s2 ds4 ht hs2 hc2 hp4 => ?_⟩
  refine i_nil (told_v (by omega) hc2 ?_)
  rw [tk_all ht]
  refine i_gNm ?_
  simp only [back_nil, RV.ren, OD.ren, out, List.length_nil, List.length_cons, List.getElem?_nil, Nat.zero_add, Nat.sub_zero, Nat.reduceAdd, List.map_cons, List.map_nil, List.nil_append, List.set_cons_zero, List.set_cons_succ, List.cons_append, List.take_succ_cons, List.take_zero]
  refine i_seq (st_C (ts := fl) rfl rfl rfl hfl hf ?_)
  refine i_seq (i_drop (i_eM (v_var rfl (i_tyL rfl (i_cons (i_d (i_nil (i_app rfl rfl (by rw [sizeLine_eq, List.length_map]; omega) ?_))))))))
  exact st_D (ts := fl) rfl rfl hfl hf (hn _ _ _ _ _ _ _ _ _ _ _)
end

end LW
end
section
set_option Elab.async false
set_option linter.all false
set_option autoImplicit false
set_option maxRecDepth 100000
set_option maxHeartbeats 1000000
namespace LW
open PySem PySem.Spec PyProof.Rows DL
open L2 hiding St start
local macro_rules | `(tactic| array_get_dec) => `(tactic| first
  | with_reducible refine i_seq ?_
  | with_reducible refine i_asg ?_
  | (with_reducible refine i_gNm ?_; dsimp only [List.set])
  | with_reducible refine i_var (by with_unfolding_all exact rfl) ?_
  | with_reducible refine i_d ?_
  | with_reducible refine i_op2 ?_
  | with_reducible refine i_ret ?_
  | with_reducible refine i_sIf ?_
  | with_reducible refine i_val ?_
  | with_reducible refine i_isb ?_
  | with_reducible refine i_cons ?_
  | with_reducible refine i_nil ?_
  | with_reducible refine i_eB ?_
  | with_reducible refine i_call ?_
  | with_reducible refine i_tTru ?_
  | with_reducible refine i_tru (by with_unfolding_all exact rfl) (by with_unfolding_all exact trivial) ?_
  | with_reducible refine i_and ?_
  | with_reducible refine i_or ?_
  | with_reducible refine i_not ?_
  | with_reducible refine i_next ?_
  | with_reducible refine i_eand ?_
  | with_reducible refine i_eor ?_
  | with_reducible refine i_eif ?_
  | with_reducible refine i_enot ?_
  | with_reducible refine i_lt (by with_unfolding_all exact rfl) (by with_unfolding_all exact rfl) ?_
  | with_reducible refine i_le (by with_unfolding_all exact rfl) (by with_unfolding_all exact rfl) ?_
  | with_reducible refine i_gt (by with_unfolding_all exact rfl) (by with_unfolding_all exact rfl) ?_
  | with_reducible refine i_ge (by with_unfolding_all exact rfl) (by with_unfolding_all exact rfl) ?_
  | with_reducible refine i_sub (by with_unfolding_all exact rfl) (by with_unfolding_all exact rfl) ?_
  | with_reducible refine i_addI (by with_unfolding_all exact rfl) (by with_unfolding_all exact rfl) ?_
  | with_reducible refine i_isi ?_
  | with_reducible refine i_isi1 (by with_unfolding_all exact rfl) (by with_unfolding_all exact rfl) ?_
  | with_reducible refine i_chain ?_
  | with_reducible refine i_drop ?_
  | with_reducible refine i_brk ?_
  | with_reducible refine i_cont ?_
  | with_reducible refine i_retN ?_
  | with_reducible refine i_isN ?_
  | with_reducible refine i_notN ?_
  | with_reducible refine i_eLst ?_
  | with_reducible refine i_eTup ?_
  | with_reducible refine i_eM ?_
  | with_reducible refine i_neg ?_
  | with_reducible refine i_neg1 (by with_unfolding_all exact rfl) ?_
  | with_reducible refine i_par2 ?_
  | with_reducible refine i_par33 ?_
  | with_reducible refine i_for ?_
  | with_reducible refine i_iSeq ?_
  | with_reducible refine i_seqI (by with_unfolding_all exact rfl) ?_
  | with_reducible refine i_iR1 ?_
  | with_reducible refine i_iEn ?_
  | with_reducible refine i_eSl ?_
  | with_reducible refine i_pNone ?_
  | with_reducible refine i_pSome ?_
  | with_reducible refine i_int1 (by with_unfolding_all exact rfl) ?_
  | with_reducible refine i_d1 (by with_unfolding_all exact rfl) ?_
  | with_reducible refine i_raise ?_
  | with_reducible refine i_aug (by with_unfolding_all exact rfl) ?_
  | (with_reducible refine i_augI (by with_unfolding_all exact rfl) (by with_unfolding_all exact rfl) ?_; dsimp only [List.set])
  | with_reducible refine i_eqS (by with_unfolding_all exact rfl) (by with_unfolding_all exact rfl) ?_
  | with_reducible refine i_neS (by with_unfolding_all exact rfl) (by with_unfolding_all exact rfl) ?_
  | with_reducible refine i_inC (by with_unfolding_all exact rfl) (by with_unfolding_all exact rfl) ?_
  | with_reducible refine i_ninC (by with_unfolding_all exact rfl) (by with_unfolding_all exact rfl) ?_
  | with_reducible refine i_par ?_
  | with_reducible refine i_par3 ?_
  | with_reducible refine i_gsNil ?_
  | with_reducible refine i_gsCons ?_
  | with_reducible refine i_setIx ?_
  | with_reducible refine i_eLc ?_
  | with_reducible refine i_yes ?_
  | with_reducible refine i_tyS (by with_unfolding_all exact rfl) ?_
  | with_reducible refine i_tyL (by with_unfolding_all exact rfl) ?_
  | with_reducible refine i_lenS (by with_unfolding_all exact rfl) (by rw [sizeLine_eq]; (try simp only [List.length_append, List.length_cons, List.length_nil]); omega) ?_
  | with_reducible refine i_addS (by with_unfolding_all exact rfl) (by with_unfolding_all exact rfl) (by rw [sizeLine_eq]; (try simp only [List.length_append, List.length_cons, List.length_nil]); omega) ?_
  | with_reducible refine i_lenL (by with_unfolding_all exact rfl) ?_
  | with_reducible refine i_intI (by with_unfolding_all exact rfl) ?_
  | with_reducible refine i_abs (by with_unfolding_all exact rfl) ?_
  | with_reducible refine i_list (by with_unfolding_all exact rfl) ?_
  | with_reducible refine c_v (by repeat (first | exact fz_nil | apply fz_v | (apply fz_l; with_unfolding_all exact rfl) | (apply fz_f; with_unfolding_all exact rfl) | apply fz_k)) (by with_unfolding_all exact rfl) ?_
  | with_reducible refine i_lsV ?_
  | with_reducible refine i_exD ?_
  | (with_reducible refine ⟨small_line (by simp only [List.length_cons, List.length_nil]; omega), ?_⟩; simp only [allD, dv_val'])
  | with_reducible refine i_ixL (by with_unfolding_all exact rfl) (by with_unfolding_all exact rfl) (by with_unfolding_all exact rfl) ?_
  | with_reducible refine i_setIx1 (by with_unfolding_all exact rfl) (by with_unfolding_all exact rfl) (by with_unfolding_all exact rfl) (by with_unfolding_all exact rfl) ?_
  | with_reducible refine i_mod (by with_unfolding_all exact rfl) (by with_unfolding_all exact rfl) (by omega) ?_
  | with_reducible refine i_fdiv (by with_unfolding_all exact rfl) (by with_unfolding_all exact rfl) (by omega) (by omega) ?_
  | with_reducible refine i_imul (by with_unfolding_all exact rfl) (by with_unfolding_all exact rfl) (by first | exact cmul_l (by omega) (by omega) | exact cmul_r (by omega) (by omega)) ?_
  | with_reducible refine i_pow (by with_unfolding_all exact rfl) (by with_unfolding_all exact rfl) (cpow (by omega) (by omega) (by omega) (by omega)) ?_
  | with_reducible refine i_sum (by with_unfolding_all exact rfl) ?_
  | with_reducible refine i_rng1 (by omega) (by omega) ?_
  | with_reducible refine i_lcD ?_
  | with_reducible refine i_rt0 ?_
  | with_reducible refine i_nx0 ?_
  | with_reducible refine i_xc0 ?_
  | with_reducible refine fin_d ?_
  | with_reducible refine finX_0 ?_
  | with_reducible refine i_ifT (by with_unfolding_all exact rfl) ?_
  | with_reducible refine i_ifF (by with_unfolding_all exact rfl) ?_
  | with_reducible refine i_iteD (fun _ => ?_) (fun _ => ?_)
  | with_reducible refine i_iteN (fun _ => ?_) (fun _ => ?_)
  | with_reducible refine i_iteNB (fun _ => ?_) (fun _ => ?_)
  | with_reducible refine i_iteB (fun _ => ?_) (fun _ => ?_)
  | with_reducible refine i_fz ?_
  | with_reducible refine i_fr ?_
  | (with_reducible refine i_fzL (by with_unfolding_all exact rfl) (by with_unfolding_all exact rfl) (by with_unfolding_all exact rfl) ?_; dsimp only [List.take, List.set, List.length_nil, List.length_cons, Nat.zero_add, Nat.reduceAdd])
  | (with_reducible refine i_fzLT (by with_unfolding_all exact rfl) (by with_unfolding_all exact rfl) ?_; dsimp only [List.take, List.set, List.length_nil, List.length_cons, Nat.zero_add, Nat.reduceAdd])
  | (with_reducible refine i_fzV (by with_unfolding_all exact rfl) (by with_unfolding_all exact rfl) ?_; dsimp only [List.take, List.set, List.length_nil, List.length_cons, Nat.zero_add, Nat.reduceAdd])
  | (with_reducible refine i_fzVT (by with_unfolding_all exact rfl) ?_; dsimp only [List.take, List.set, List.length_nil, List.length_cons, Nat.zero_add, Nat.reduceAdd]))
/-! the law -/
section
variable {T : Cn} {Po : Post}
theorem law_loop {ns : List Int} : ∀ l : List Nat, (∀ k ∈ l, k ≤ 100) → Po.nx ⟨[some (.val (.lst (ns.map .int))), none, none, none, none, none, none, none, none, none, none, none], []⟩ →
    forX (gNm 1) (sFr [1, 3, 4, 5, 6, 7, 8, 9, 10, 11] (t_law_4 T fx_tokens fx__law_same fx__law_told fx_text_of fx__law_glued fx_pick (fxDraw 40 Run) fx__law_is_token fx__law_cut (fxDraw 1200 Txt0) fx__law_pool)) (fun _ => True) Po (l.map fun k => .val (.int (k : Nat))) ⟨[some (.val (.lst (ns.map .int))), none, none, none, none, none, none, none, none, none, none, none], []⟩
  | [], _, q => i_fNil trivial q
  | k :: l, h, q => by
    rw [List.map_cons]
    refine i_fCons trivial (i_gNm (i_fr ?_))
    refine pass (h k List.mem_cons_self) fun a1 a3 a4 a5 a6 a7 a8 a9 a10 a11 ob => ?_
    exact ⟨rfl, law_loop l (fun z hz => h z (List.mem_cons_of_mem _ hz)) q⟩
theorem l_law (T : Cn) : ∀ rs ob P R, fxLaw 63 rs ob P R → t_law T fx_tokens fx__law_same fx__law_told fx_text_of fx__law_glued fx_pick (fxDraw 40 Run) fx__law_is_token fx__law_cut (fxDraw 1200 Txt0) fx__law_pool (startE N_law.length rs ob) (endP ob.length P R) := by
  rintro rs ob P R ⟨ns, hn, rfl, rfl, q⟩
  show t_law T fx_tokens fx__law_same fx__law_told fx_text_of fx__law_glued fx_pick (fxDraw 40 Run) fx__law_is_token fx__law_cut (fxDraw 1200 Txt0) fx__law_pool ⟨[some (.val (.lst (ns.map .int))), none, none, none, none, none, none, none, none, none, none, none], []⟩ (endP 0 P R)
  unfold t_law
  refine i_seq (i_for (i_iR1 (i_cons (i_d (i_nil (i_rng1 (by decide) (by decide) ?_))))))
  refine law_loop [0, 1, 2, 3] (by decide) ?_
  dsimp only
  refine i_seq ?_
  unfold sTryAs
  refine i_drop (i_call (i_cons (i_d (i_nil (c_v (fz_v fz_nil) rfl ⟨[97, 32, 61, 32, 48, 49], rfl, rfl, by decide, cps_small (by decide), ?_⟩)))))
  have e : tkF [97, 32, 61, 32, 48, 49] = .inl 4 := by decide +kernel
  rw [e]
  refine ⟨true, rfl, ?_⟩
  rw [if_pos rfl]
  intro a cls d dd hcl hdd
  refine i_ret (i_eand ?_)
  refine v_var rfl ⟨dd, 101, _, true, rfl, hcl, by simp, hdd (by simp), rfl, ?_⟩
  refine ⟨true, rfl, ?_⟩
  rw [if_pos rfl]
  refine i_op2 (v_var rfl ⟨dd, 101, _, _, rfl, hcl, hdd (by simp), by simp, rfl, ?_⟩)
  refine i_d (i_eq (rd_val _ _) (rd_val _ _) (lay_int _) (lay_int _) ?_)
  rw [eqv_ii]
  exact fin_d q
end

end LW
end
section
set_option Elab.async false
set_option linter.all false
set_option autoImplicit false
set_option maxRecDepth 100000
set_option maxHeartbeats 1000000
namespace LW
open PySem PySem.Spec PyProof.Rows DL
open L2 hiding St start
local macro_rules | `(tactic| array_get_dec) => `(tactic| first
  | with_reducible refine i_seq ?_
  | with_reducible refine i_asg ?_
  | (with_reducible refine i_gNm ?_; dsimp only [List.set])
  | with_reducible refine i_var (by with_unfolding_all exact rfl) ?_
  | with_reducible refine i_d ?_
  | with_reducible refine i_op2 ?_
  | with_reducible refine i_ret ?_
  | with_reducible refine i_sIf ?_
  | with_reducible refine i_val ?_
  | with_reducible refine i_isb ?_
  | with_reducible refine i_cons ?_
  | with_reducible refine i_nil ?_
  | with_reducible refine i_eB ?_
  | with_reducible refine i_call ?_
  | with_reducible refine i_tTru ?_
  | with_reducible refine i_tru (by with_unfolding_all exact rfl) (by with_unfolding_all exact trivial) ?_
  | with_reducible refine i_and ?_
  | with_reducible refine i_or ?_
  | with_reducible refine i_not ?_
  | with_reducible refine i_next ?_
  | with_reducible refine i_eand ?_
  | with_reducible refine i_eor ?_
  | with_reducible refine i_eif ?_
  | with_reducible refine i_enot ?_
  | with_reducible refine i_lt (by with_unfolding_all exact rfl) (by with_unfolding_all exact rfl) ?_
  | with_reducible refine i_le (by with_unfolding_all exact rfl) (by with_unfolding_all exact rfl) ?_
  | with_reducible refine i_gt (by with_unfolding_all exact rfl) (by with_unfolding_all exact rfl) ?_
  | with_reducible refine i_ge (by with_unfolding_all exact rfl) (by with_unfolding_all exact rfl) ?_
  | with_reducible refine i_sub (by with_unfolding_all exact rfl) (by with_unfolding_all exact rfl) ?_
  | with_reducible refine i_addI (by with_unfolding_all exact rfl) (by with_unfolding_all exact rfl) ?_
  | with_reducible refine i_isi ?_
  | with_reducible refine i_isi1 (by with_unfolding_all exact rfl) (by with_unfolding_all exact rfl) ?_
  | with_reducible refine i_chain ?_
  | with_reducible refine i_drop ?_
  | with_reducible refine i_brk ?_
  | with_reducible refine i_cont ?_
  | with_reducible refine i_retN ?_
  | with_reducible refine i_isN ?_
  | with_reducible refine i_notN ?_
  | with_reducible refine i_eLst ?_
  | with_reducible refine i_eTup ?_
  | with_reducible refine i_eM ?_
  | with_reducible refine i_neg ?_
  | with_reducible refine i_neg1 (by with_unfolding_all exact rfl) ?_
  | with_reducible refine i_par2 ?_
  | with_reducible refine i_par33 ?_
  | with_reducible refine i_for ?_
  | with_reducible refine i_iSeq ?_
  | with_reducible refine i_seqI (by with_unfolding_all exact rfl) ?_
  | with_reducible refine i_iR1 ?_
  | with_reducible refine i_iEn ?_
  | with_reducible refine i_eSl ?_
  | with_reducible refine i_pNone ?_
  | with_reducible refine i_pSome ?_
  | with_reducible refine i_int1 (by with_unfolding_all exact rfl) ?_
  | with_reducible refine i_d1 (by with_unfolding_all exact rfl) ?_
  | with_reducible refine i_raise ?_
  | with_reducible refine i_aug (by with_unfolding_all exact rfl) ?_
  | (with_reducible refine i_augI (by with_unfolding_all exact rfl) (by with_unfolding_all exact rfl) ?_; dsimp only [List.set])
  | with_reducible refine i_eqS (by with_unfolding_all exact rfl) (by with_unfolding_all exact rfl) ?_
  | with_reducible refine i_neS (by with_unfolding_all exact rfl) (by with_unfolding_all exact rfl) ?_
  | with_reducible refine i_inC (by with_unfolding_all exact rfl) (by with_unfolding_all exact rfl) ?_
  | with_reducible refine i_ninC (by with_unfolding_all exact rfl) (by with_unfolding_all exact rfl) ?_
  | with_reducible refine i_par ?_
  | with_reducible refine i_par3 ?_
  | with_reducible refine i_gsNil ?_
  | with_reducible refine i_gsCons ?_
  | with_reducible refine i_setIx ?_
  | with_reducible refine i_eLc ?_
  | with_reducible refine i_yes ?_
  | with_reducible refine i_tyS (by with_unfolding_all exact rfl) ?_
  | with_reducible refine i_tyL (by with_unfolding_all exact rfl) ?_
  | with_reducible refine i_lenS (by with_unfolding_all exact rfl) (by rw [sizeLine_eq]; (try simp only [List.length_append, List.length_cons, List.length_nil]); omega) ?_
  | with_reducible refine i_addS (by with_unfolding_all exact rfl) (by with_unfolding_all exact rfl) (by rw [sizeLine_eq]; (try simp only [List.length_append, List.length_cons, List.length_nil]); omega) ?_
  | with_reducible refine i_lenL (by with_unfolding_all exact rfl) ?_
  | with_reducible refine i_intI (by with_unfolding_all exact rfl) ?_
  | with_reducible refine i_abs (by with_unfolding_all exact rfl) ?_
  | with_reducible refine i_list (by with_unfolding_all exact rfl) ?_
  | with_reducible refine c_v (by repeat (first | exact fz_nil | apply fz_v | (apply fz_l; with_unfolding_all exact rfl) | (apply fz_f; with_unfolding_all exact rfl) | apply fz_k)) (by with_unfolding_all exact rfl) ?_
  | with_reducible refine i_lsV ?_
  | with_reducible refine i_exD ?_
  | (with_reducible refine ⟨small_line (by simp only [List.length_cons, List.length_nil]; omega), ?_⟩; simp only [allD, dv_val'])
  | with_reducible refine i_ixL (by with_unfolding_all exact rfl) (by with_unfolding_all exact rfl) (by with_unfolding_all exact rfl) ?_
  | with_reducible refine i_setIx1 (by with_unfolding_all exact rfl) (by with_unfolding_all exact rfl) (by with_unfolding_all exact rfl) (by with_unfolding_all exact rfl) ?_
  | with_reducible refine i_mod (by with_unfolding_all exact rfl) (by with_unfolding_all exact rfl) (by omega) ?_
  | with_reducible refine i_fdiv (by with_unfolding_all exact rfl) (by with_unfolding_all exact rfl) (by omega) (by omega) ?_
  | with_reducible refine i_imul (by with_unfolding_all exact rfl) (by with_unfolding_all exact rfl) (by first | exact cmul_l (by omega) (by omega) | exact cmul_r (by omega) (by omega)) ?_
  | with_reducible refine i_pow (by with_unfolding_all exact rfl) (by with_unfolding_all exact rfl) (cpow (by omega) (by omega) (by omega) (by omega)) ?_
  | with_reducible refine i_sum (by with_unfolding_all exact rfl) ?_
  | with_reducible refine i_rng1 (by omega) (by omega) ?_
  | with_reducible refine i_lcD ?_
  | with_reducible refine i_rt0 ?_
  | with_reducible refine i_nx0 ?_
  | with_reducible refine i_xc0 ?_
  | with_reducible refine fin_d ?_
  | with_reducible refine finX_0 ?_
  | with_reducible refine i_ifT (by with_unfolding_all exact rfl) ?_
  | with_reducible refine i_ifF (by with_unfolding_all exact rfl) ?_
  | with_reducible refine i_iteD (fun _ => ?_) (fun _ => ?_)
  | with_reducible refine i_iteN (fun _ => ?_) (fun _ => ?_)
  | with_reducible refine i_iteNB (fun _ => ?_) (fun _ => ?_)
  | with_reducible refine i_iteB (fun _ => ?_) (fun _ => ?_)
  | with_reducible refine i_fz ?_
  | with_reducible refine i_fr ?_
  | (with_reducible refine i_fzL (by with_unfolding_all exact rfl) (by with_unfolding_all exact rfl) (by with_unfolding_all exact rfl) ?_; dsimp only [List.take, List.set, List.length_nil, List.length_cons, Nat.zero_add, Nat.reduceAdd])
  | (with_reducible refine i_fzLT (by with_unfolding_all exact rfl) (by with_unfolding_all exact rfl) ?_; dsimp only [List.take, List.set, List.length_nil, List.length_cons, Nat.zero_add, Nat.reduceAdd])
  | (with_reducible refine i_fzV (by with_unfolding_all exact rfl) (by with_unfolding_all exact rfl) ?_; dsimp only [List.take, List.set, List.length_nil, List.length_cons, Nat.zero_add, Nat.reduceAdd])
  | (with_reducible refine i_fzVT (by with_unfolding_all exact rfl) ?_; dsimp only [List.take, List.set, List.length_nil, List.length_cons, Nat.zero_add, Nat.reduceAdd]))
/-! every def keeps its contract -/
theorem facts {Pg : Program} {w : World} {K : PySem.W.Frag} {h : Heap} {mg : Str → Option Value} {f : Addr} (X : K.In h) (G : h.Ns mainGlobals mg) (hfa : mg ("law" : Str) = some (.ref f)) (c : SaysF fa fn K) :
    ∃ fd : FuncData, (∀ (s : Shared) (v : Value), BindsTo s fd ⟨[v], []⟩ [("script", v)]) ∧ ∀ base : Heap, K.In base → base.Ns mainGlobals mg → FnG ⟨K, mg, nm⟩ Pg w base 6 f fd ["script"] (fxLaw 63) := by
  have fs := fs_of X G c
  obtain ⟨fd_made_of, F_made_of⟩ := c.def_ 0 (d := d_made_of) rfl
  obtain ⟨fd_is_word, F_is_word⟩ := c.def_ 1 (d := d_is_word) rfl
  obtain ⟨fd_is_numeral, F_is_numeral⟩ := c.def_ 2 (d := d_is_numeral) rfl
  obtain ⟨fd_sort_of, F_sort_of⟩ := c.def_ 3 (d := d_sort_of) rfl
  obtain ⟨fd_run_behind, F_run_behind⟩ := c.def_ 4 (d := d_run_behind) rfl
  obtain ⟨fd_tokens, F_tokens⟩ := c.def_ 5 (d := d_tokens) rfl
  obtain ⟨fd_text_of, F_text_of⟩ := c.def_ 6 (d := d_text_of) rfl
  obtain ⟨fd__law_pool, F__law_pool⟩ := c.def_ 7 (d := d__law_pool) rfl
  obtain ⟨fd__law_pick, F__law_pick⟩ := c.def_ 8 (d := d__law_pick) rfl
  obtain ⟨fd__law_run, F__law_run⟩ := c.def_ 10 (d := d__law_run) rfl
  obtain ⟨fd__law_piece, F__law_piece⟩ := c.def_ 11 (d := d__law_piece) rfl
  obtain ⟨fd__law_whole_text, F__law_whole_text⟩ := c.def_ 12 (d := d__law_whole_text) rfl
  obtain ⟨fd__law_is_token, F__law_is_token⟩ := c.def_ 13 (d := d__law_is_token) rfl
  obtain ⟨fd__law_cut, F__law_cut⟩ := c.def_ 14 (d := d__law_cut) rfl
  obtain ⟨fd__law_told, F__law_told⟩ := c.def_ 15 (d := d__law_told) rfl
  obtain ⟨fd__law_glued, F__law_glued⟩ := c.def_ 16 (d := d__law_glued) rfl
  obtain ⟨fd__law_same, F__law_same⟩ := c.def_ 17 (d := d__law_same) rfl
  obtain ⟨fd_law, F_law⟩ := c.def_ 18 (d := d_law) rfl
  have e := hfa.symm.trans (He.glo_ok X G (c.fact 46))
  cases e
  have bnd := FunD.bindsA (ps := ["script"]) F_law fun _ _ _ _ _ _ us hl => match us, hl with | [_], _ => rfl
  refine ⟨fd_law, fun s v => bnd s [v] rfl, fun base _ _ => ?_⟩
  have X_BadText := mk_BadText Pg w base X G c
  have G_made_of : FnG ⟨K, mg, nm⟩ Pg w base 1 _ fd_made_of ["thing", "signs"] fx_made_of := okG F_made_of sc_made_of (by rintro _ _ _ _ ⟨s, g, rfl, _⟩ <;> rfl) (b_made_of fs ) l_made_of
  have H_made_of := GFn.of F_made_of (He.glo_ok X G (c.fact 28)) G_made_of (fun _ _ _ _ _ _ us hl => match us, hl with | [_, _], _ => rfl)
  have G_run_behind : FnG ⟨K, mg, nm⟩ Pg w base 1 _ fd_run_behind ["text", "at"] fx_run_behind := okG F_run_behind sc_run_behind (by rintro _ _ _ _ ⟨s, n, rfl, _⟩ <;> rfl) (b_run_behind fs ) l_run_behind
  have H_run_behind := GFn.of F_run_behind (He.glo_ok X G (c.fact 32)) G_run_behind (fun _ _ _ _ _ _ us hl => match us, hl with | [_, _], _ => rfl)
  have G_text_of : FnG ⟨K, mg, nm⟩ Pg w base 1 _ fd_text_of ["file"] fx_text_of := okG F_text_of sc_text_of (by rintro _ _ _ _ ⟨s, rfl, _⟩ <;> rfl) (b_text_of fs ) l_text_of
  have H_text_of := GFn.of F_text_of (He.glo_ok X G (c.fact 34)) G_text_of (fun _ _ _ _ _ _ us hl => match us, hl with | [_], _ => rfl)
  have G__law_pool : FnG ⟨K, mg, nm⟩ Pg w base 1 _ fd__law_pool ["script", "place"] fx__law_pool := okG F__law_pool sc__law_pool (by rintro _ _ _ _ ⟨s, n, rfl, _⟩ <;> rfl) (b__law_pool fs ) l__law_pool
  have H__law_pool := GFn.of F__law_pool (He.glo_ok X G (c.fact 35)) G__law_pool (fun _ _ _ _ _ _ us hl => match us, hl with | [_, _], _ => rfl)
  have G__law_pick : FnG ⟨K, mg, nm⟩ Pg w base 1 _ fd__law_pick ["pool", "many"] fx_pick := okG F__law_pick sc__law_pick (by rintro _ _ _ _ ⟨b, ds, m, rfl, _⟩ <;> rfl) (b__law_pick fs ) l__law_pick
  have H__law_pick := GFn.of F__law_pick (He.glo_ok X G (c.fact 36)) G__law_pick (fun _ _ _ _ _ _ us hl => match us, hl with | [_, _], _ => rfl)
  have G__law_is_token : FnG ⟨K, mg, nm⟩ Pg w base 1 _ fd__law_is_token ["run"] fx__law_is_token := okG F__law_is_token sc__law_is_token (by rintro _ _ _ _ ⟨s, rfl, _⟩ <;> rfl) (b__law_is_token fs ) l__law_is_token
  have H__law_is_token := GFn.of F__law_is_token (He.glo_ok X G (c.fact 41)) G__law_is_token (fun _ _ _ _ _ _ us hl => match us, hl with | [_], _ => rfl)
  have G__law_same : FnG ⟨K, mg, nm⟩ Pg w base 1 _ fd__law_same ["told", "due"] fx__law_same := okG F__law_same sc__law_same (by rintro _ _ _ _ ⟨d, _, _, _, ⟨rfl, _⟩ | ⟨_, _, rfl, _⟩⟩ <;> rfl) (b__law_same fs ) l__law_same
  have H__law_same := GFn.of F__law_same (He.glo_ok X G (c.fact 45)) G__law_same (fun _ _ _ _ _ _ us hl => match us, hl with | [_, _], _ => rfl)
  have G_is_word : FnG ⟨K, mg, nm⟩ Pg w base 2 _ fd_is_word ["thing"] fx_is_word := okG F_is_word sc_is_word (by rintro _ _ _ _ ⟨s, rfl, _⟩ <;> rfl) (b_is_word fs H_made_of) l_is_word
  have H_is_word := GFn.of F_is_word (He.glo_ok X G (c.fact 29)) G_is_word (fun _ _ _ _ _ _ us hl => match us, hl with | [_], _ => rfl)
  have G_is_numeral : FnG ⟨K, mg, nm⟩ Pg w base 2 _ fd_is_numeral ["thing"] fx_is_numeral := okG F_is_numeral sc_is_numeral (by rintro _ _ _ _ ⟨s, rfl, _⟩ <;> rfl) (b_is_numeral fs H_made_of) l_is_numeral
  have H_is_numeral := GFn.of F_is_numeral (He.glo_ok X G (c.fact 30)) G_is_numeral (fun _ _ _ _ _ _ us hl => match us, hl with | [_], _ => rfl)
  have G__law_run : FnG ⟨K, mg, nm⟩ Pg w base 2 _ fd__law_run ["pool"] (fxDraw 40 Run) := okG F__law_run sc__law_run (by rintro _ _ _ _ ⟨b, ds, rfl, _⟩ <;> rfl) (b__law_run fs H__law_pick) l__law_run
  have H__law_run := GFn.of F__law_run (He.glo_ok X G (c.fact 38)) G__law_run (fun _ _ _ _ _ _ us hl => match us, hl with | [_], _ => rfl)
  have G__law_cut : FnG ⟨K, mg, nm⟩ Pg w base 2 _ fd__law_cut ["text"] fx__law_cut := okG F__law_cut sc__law_cut (by rintro _ _ _ _ ⟨s, rfl, _⟩ <;> rfl) (b__law_cut fs H__law_is_token) l__law_cut
  have H__law_cut := GFn.of F__law_cut (He.glo_ok X G (c.fact 42)) G__law_cut (fun _ _ _ _ _ _ us hl => match us, hl with | [_], _ => rfl)
  have G__law_glued : FnG ⟨K, mg, nm⟩ Pg w base 2 _ fd__law_glued ["pool", "file"] fx__law_glued := okG F__law_glued sc__law_glued (by rintro _ _ _ _ ⟨b, ds, ts, rfl, _⟩ <;> rfl) (b__law_glued fs H__law_pick) l__law_glued
  have H__law_glued := GFn.of F__law_glued (He.glo_ok X G (c.fact 44)) G__law_glued (fun _ _ _ _ _ _ us hl => match us, hl with | [_, _], _ => rfl)
  have G_sort_of : FnG ⟨K, mg, nm⟩ Pg w base 3 _ fd_sort_of ["thing"] fx_sort_of := okG F_sort_of sc_sort_of (by rintro _ _ _ _ ⟨s, rfl, _⟩ <;> rfl) (b_sort_of fs H_is_numeral H_is_word) l_sort_of
  have H_sort_of := GFn.of F_sort_of (He.glo_ok X G (c.fact 31)) G_sort_of (fun _ _ _ _ _ _ us hl => match us, hl with | [_], _ => rfl)
  have G__law_piece : FnG ⟨K, mg, nm⟩ Pg w base 3 _ fd__law_piece ["pool"] (fxDraw 45 Piece) := okG F__law_piece sc__law_piece (by rintro _ _ _ _ ⟨b, ds, rfl, _⟩ <;> rfl) (b__law_piece fs H__law_pick H__law_run) l__law_piece
  have H__law_piece := GFn.of F__law_piece (He.glo_ok X G (c.fact 39)) G__law_piece (fun _ _ _ _ _ _ us hl => match us, hl with | [_], _ => rfl)
  have G_tokens : FnG ⟨K, mg, nm⟩ Pg w base 4 _ fd_tokens ["text"] fx_tokens := okG F_tokens sc_tokens (by rintro _ _ _ _ ⟨s, rfl, _⟩ <;> rfl) (b_tokens fs H_sort_of H_run_behind X_BadText) l_tokens
  have H_tokens := GFn.of F_tokens (He.glo_ok X G (c.fact 33)) G_tokens (fun _ _ _ _ _ _ us hl => match us, hl with | [_], _ => rfl)
  have G__law_whole_text : FnG ⟨K, mg, nm⟩ Pg w base 4 _ fd__law_whole_text ["pool"] (fxDraw 1200 Txt0) := okG F__law_whole_text sc__law_whole_text (by rintro _ _ _ _ ⟨b, ds, rfl, _⟩ <;> rfl) (b__law_whole_text fs H__law_is_token H__law_pick H__law_piece) l__law_whole_text
  have H__law_whole_text := GFn.of F__law_whole_text (He.glo_ok X G (c.fact 40)) G__law_whole_text (fun _ _ _ _ _ _ us hl => match us, hl with | [_], _ => rfl)
  have G__law_told : FnG ⟨K, mg, nm⟩ Pg w base 5 _ fd__law_told ["text"] fx__law_told := okG F__law_told sc__law_told (by rintro _ _ _ _ ⟨s, rfl, _⟩ <;> rfl) (b__law_told fs H_tokens) (l__law_told ⟨K, mg, nm⟩)
  have H__law_told := GFn.of F__law_told (He.glo_ok X G (c.fact 43)) G__law_told (fun _ _ _ _ _ _ us hl => match us, hl with | [_], _ => rfl)
  have G_law : FnG ⟨K, mg, nm⟩ Pg w base 6 _ fd_law ["script"] (fxLaw 63) := okG F_law sc_law (by rintro _ _ _ _ ⟨ns, _, rfl, _⟩ <;> rfl) (b_law fs H_tokens H__law_same H__law_told H_text_of H__law_glued H__law_pick H__law_run H__law_is_token H__law_cut H__law_whole_text H__law_pool) (l_law ⟨K, mg, nm⟩)
  exact G_law

end LW
end
open PySem PySem.W PySem.Calls PyProof.Rows
set_option maxRecDepth 100000 in
set_option maxHeartbeats 8000000 in
theorem PySem.Challenge.cw_slipreach_k00_texts_cut_into_tokens_holds : PySem.Challenge.rw_slipreach_k00_texts_cut_into_tokens.Holds := by
  w_on; o_law
  refine HandSHeadRun.head_any (r := OpenLaw.row PySem.Challenge.rw_slipreach_k00_texts_cut_into_tokens) (q := view (OpenLaw.row PySem.Challenge.rw_slipreach_k00_texts_cut_into_tokens).prog [27]) (H := LW.hk) (ob := LW.ob) (M := 4000) (loose := LW.loose) (d := HandSHeadRun.topDef (OpenLaw.row PySem.Challenge.rw_slipreach_k00_texts_cut_into_tokens).prog 27) (kwd := []) LW.ob_eq
    (by kernel_rfl) (fun s => by kernel_rfl) LW.run (by kernel_rfl) (by kernel_rfl) (by kernel_rfl) (by rfl) (by first | assumption | decide +kernel) (by decide +kernel) ⟨rfl, rfl, rfl, rfl, rfl, by decide +kernel⟩ ?hw ?hc
  case hw => w_witness2
  case hc =>
    refine DL.walkG (l := PySem.Challenge.rw_slipreach_k00_texts_cut_into_tokens) (n := 63) (k := 6) (x := "script") rfl (by decide) (by kernel_rfl) ⟨rfl, by decide, by decide⟩ ?F
    intro w mg fa h Y G hmg0
    obtain ⟨K, KX, nl, c⟩ := Y
    have hmg : mg ("law" : PySem.Str) = some (.ref fa) := by
      have e : (HandSHeadRun.topDef (OpenLaw.row PySem.Challenge.rw_slipreach_k00_texts_cut_into_tokens).prog 27).name = ("law" : PySem.Str) := by kernel_rfl
      rw [← e]
      exact hmg0
    obtain ⟨fd, hb, hF⟩ := LW.facts (Pg := (PySem.Challenge.rw_slipreach_k00_texts_cut_into_tokens).prog) (w := w) KX G hmg c
    exact ⟨K, fd, LW.nm, KX, nl, hb, hF⟩
