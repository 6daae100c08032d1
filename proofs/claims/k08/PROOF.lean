import PyProof.Rows.All
import Wide.All
import OpenK.AllK
import Wide.FinOn
import KE.KStateDown
import HandS.ForMost
import HandS.ForExc
import HandS.Flow
import HandS.ExcInit
import HandS.TupAny
import HandS.Wide
import HandS.StrMore
import HandS.IsInst
import HandS.Deep
import HandS.Defaults
import HandS.Iter
import HandS.Style
import PyProof.Draws
import PyProof.EnumMake
import HandS.RaiseMore
import HandS.Text
import PyProof.ReprReads
import PyProof.ReprRoads
import HandS.Comp
import HandS.ExcField
import HandS.ExcIs
import HandS.Head0
import HandS.Head1
import HandS.Head2
import HandS.HeadEnd
import HandS.HeadHook1
import HandS.HeadHook2
import KE.IntTextLaws
import KE.IntTextText
import KE.KIntText
import PyProof.StrLaws
import PyProof.StrLawsRepr
import PyProof.ReprLen
import HandS.Star
import HandS.Codes
import HandS.More
import PySem.Challenge.RW_slipreach_k08_slips_done_and_lists_trimm
set_option Elab.async false
set_option linter.all false
section
set_option Elab.async false
set_option linter.all false
set_option autoImplicit false
set_option maxRecDepth 100000
set_option maxHeartbeats 2000000
/-! DLA: values as data (D), what stands in the heap for them (Rep), a def's state by data (Env, Rel). -/
namespace DL
open PySem PySem.Spec L2

/-- data that never changes any more -/
inductive D where
  | non | bl (b : Bool) | int (i : Int) | str (s : List Nat)
  | lst (xs : List D) | tup (xs : List D) | dic (kvs : List (D × D))
  | ins (c : Nat) (fs : List (Nat × D)) | glo (x : Nat)
  | exn (a dd c : Nat) (fs : List (Nat × D))
  deriving Inhabited
/-- what an expression gives: data, or the k-th object of the def's state -/
inductive RV where
  | val (d : D) | ob (k : Nat)
  deriving Inhabited
/-- an object of the state; fz: it changes no more -/
inductive OD where
  | fz (d : D) | lst (ds : List D) | lsr (xs : List RV) | tpr (xs : List RV) | dic (kvs : List (D × D)) | ins (c : Nat) (fs : List (Nat × RV))
  deriving Inhabited
structure Env where
  sl : List (Option RV)
  ob : List OD
/-- an exception: its class, its fields -/
structure Xc where
  c : Nat
  fs : List (Nat × D)
/-- what the text is read by: the written part, the module's names, the names by number -/
structure Cn where
  K : PySem.W.Frag
  mg : Str → Option Value
  nm : Nat → Str

def S (l : List Nat) : Str := ⟨l.toArray⟩
theorem S_list (l : List Nat) : (S l).cps.toList = l := rfl
theorem S_of (z : Str) : S z.cps.toList = z := by cases z; rfl
theorem S_inj {a b : List Nat} (h : S a = S b) : a = b := by
  have e := congrArg (fun z : Str => z.cps.toList) h
  exact e
theorem S_len (l : List Nat) : (S l).length = l.length := by
  show l.toArray.size = l.length
  simp

/-- keys of dicts: an int, a text -/
def dKey : Key → D
  | .inl i => .int i
  | .inr x => .str x.cps.toList

mutual
def Rep (T : Cn) (F : Hp) : D → V → Prop
  | .non, v => v = .non
  | .bl b, v => v = .bl b
  | .int i, v => v = .int i
  | .str s, v => v = .str (S s)
  | .lst xs, v => ∃ a vs, v = .ref a ∧ Rd F a (.lst vs) ∧ RepL T F xs vs
  | .tup xs, v => ∃ a vs, v = .ref a ∧ SqT T.K F a vs ∧ RepL T F xs vs
  | .dic kvs, v => ∃ a, v = .ref a ∧ ((∃ gs, F a = some (.dK gs) ∧ RepK T F kvs gs) ∨ (∃ gs, F a = some (.dT gs) ∧ RepT T F kvs gs))
  | .ins c fs, v => ∃ a C dx gs, v = .ref a ∧ T.mg (T.nm c) = some (.ref C) ∧ F a = some (.ins C dx gs) ∧ RepF T F fs gs
  | .glo x, v => ∃ a, v = .ref a ∧ T.mg (T.nm x) = some (.ref a)
  | .exn a dd _ fs, v => v = .ref a ∧ (fs = [] ∨ ∃ gs, F dd = some (.xd gs) ∧ RepX T F fs gs)
def RepL (T : Cn) (F : Hp) : List D → List V → Prop
  | [], vs => vs = []
  | d :: ds, vs => ∃ v r, vs = v :: r ∧ Rep T F d v ∧ RepL T F ds r
def RepF (T : Cn) (F : Hp) : List (Nat × D) → List (Str × V) → Prop
  | [], gs => gs = []
  | (f, d) :: fs, gs => ∃ v r, gs = (T.nm f, v) :: r ∧ Rep T F d v ∧ RepF T F fs r
def RepK (T : Cn) (F : Hp) : List (D × D) → List (Key × V) → Prop
  | [], gs => gs = []
  | (k, d) :: ks, gs => ∃ q v r, gs = (q, v) :: r ∧ k = dKey q ∧ Rep T F d v ∧ RepK T F ks r
def RepT (T : Cn) (F : Hp) : List (D × D) → List (List Key × V) → Prop
  | [], gs => gs = []
  | (k, d) :: ks, gs => ∃ q v r, gs = (q, v) :: r ∧ k = .tup (q.map dKey) ∧ Rep T F d v ∧ RepT T F ks r
def RepX (T : Cn) (F : Hp) : List (Nat × D) → List (Str × V) → Prop
  | [], _ => True
  | (f, d) :: fs, gs => (∃ v, gs.lookup (T.nm f) = some v ∧ Rep T F d v) ∧ RepX T F fs gs
end

/-- all that is tracked stays -/
def Ex (H H' : Hp) : Prop := ∀ a o, H a = some o → H' a = some o
theorem Ex.refl (H : Hp) : Ex H H := fun _ _ h => h
theorem Ex.trans {H H1 H2 : Hp} (a : Ex H H1) (b : Ex H1 H2) : Ex H H2 := fun x o h => b x o (a x o h)
theorem Ex.new {H : Hp} {p : Addr} {o : HO} (h : H p = none) : Ex H (upd H p o) := fun a u e => by
  rw [upd_ne (ne_of_none e h)]
  exact e
theorem Ex.free {H H' : Hp} {p : Addr} (e : Ex H H') (h : H' p = none) : H p = none := by
  cases h1 : H p with
  | none => rfl
  | some o =>
    rw [e p o h1] at h
    cases h
theorem Ex.rd {H H' : Hp} {a : Addr} {u : HO} (e : Ex H H') (h : Rd H a u) : Rd H' a u := by
  rcases h with h | ⟨o, h⟩
  · exact .inl (e _ _ h)
  · exact .inr ⟨o, e _ _ h⟩
theorem Ex.sql {K : PySem.W.Frag} {H H' : Hp} {a : Addr} {xs : List V} (e : Ex H H') (h : SqL K H a xs) : SqL K H' a xs := by
  rcases h with (h | ⟨o, h⟩) | h
  · exact .inl (.inl (e _ _ h))
  · exact .inl (.inr ⟨o, e _ _ h⟩)
  · exact .inr h
theorem Ex.sqt {K : PySem.W.Frag} {H H' : Hp} {a : Addr} {xs : List V} (e : Ex H H') (h : SqT K H a xs) : SqT K H' a xs := by
  rcases h with (h | ⟨o, h⟩) | h
  · exact .inl (.inl (e _ _ h))
  · exact .inl (.inr ⟨o, e _ _ h⟩)
  · exact .inr h

section
variable {T : Cn} {F F' : Hp}
mutual
theorem Rep.mono (e : Ex F F') : ∀ {d : D} {v : V}, Rep T F d v → Rep T F' d v
  | .non, _, h => h
  | .bl _, _, h => h
  | .int _, _, h => h
  | .str _, _, h => h
  | .lst xs, v, h => by
    unfold Rep at h ⊢
    obtain ⟨a, vs, rfl, h1, h2⟩ := h
    exact ⟨a, vs, rfl, e.rd h1, RepL.mono e h2⟩
  | .tup xs, v, h => by
    unfold Rep at h ⊢
    obtain ⟨a, vs, rfl, h1, h2⟩ := h
    exact ⟨a, vs, rfl, e.sqt h1, RepL.mono e h2⟩
  | .dic kvs, v, h => by
    unfold Rep at h ⊢
    obtain ⟨a, rfl, h | h⟩ := h
    · obtain ⟨gs, h1, h2⟩ := h
      exact ⟨a, rfl, .inl ⟨gs, e _ _ h1, RepK.mono e h2⟩⟩
    · obtain ⟨gs, h1, h2⟩ := h
      exact ⟨a, rfl, .inr ⟨gs, e _ _ h1, RepT.mono e h2⟩⟩
  | .ins c fs, v, h => by
    unfold Rep at h ⊢
    obtain ⟨a, C, dx, gs, rfl, h1, h2, h3⟩ := h
    exact ⟨a, C, dx, gs, rfl, h1, e _ _ h2, RepF.mono e h3⟩
  | .glo _, _, h => h
  | .exn a dd c fs, v, h => by
    unfold Rep at h ⊢
    obtain ⟨h0, h | ⟨gs, h1, h2⟩⟩ := h
    · exact ⟨h0, .inl h⟩
    · exact ⟨h0, .inr ⟨gs, e _ _ h1, RepX.mono e h2⟩⟩
theorem RepL.mono (e : Ex F F') : ∀ {ds : List D} {vs : List V}, RepL T F ds vs → RepL T F' ds vs
  | [], _, h => h
  | d :: ds, vs, h => by
    unfold RepL at h ⊢
    obtain ⟨v, r, rfl, h1, h2⟩ := h
    exact ⟨v, r, rfl, Rep.mono e h1, RepL.mono e h2⟩
theorem RepF.mono (e : Ex F F') : ∀ {ds : List (Nat × D)} {vs : List (Str × V)}, RepF T F ds vs → RepF T F' ds vs
  | [], _, h => h
  | (f, d) :: ds, vs, h => by
    unfold RepF at h ⊢
    obtain ⟨v, r, rfl, h1, h2⟩ := h
    exact ⟨v, r, rfl, Rep.mono e h1, RepF.mono e h2⟩
theorem RepK.mono (e : Ex F F') : ∀ {ds : List (D × D)} {vs : List (Key × V)}, RepK T F ds vs → RepK T F' ds vs
  | [], _, h => h
  | (k, d) :: ds, vs, h => by
    unfold RepK at h ⊢
    obtain ⟨q, v, r, rfl, h0, h1, h2⟩ := h
    exact ⟨q, v, r, rfl, h0, Rep.mono e h1, RepK.mono e h2⟩
theorem RepT.mono (e : Ex F F') : ∀ {ds : List (D × D)} {vs : List (List Key × V)}, RepT T F ds vs → RepT T F' ds vs
  | [], _, h => h
  | (k, d) :: ds, vs, h => by
    unfold RepT at h ⊢
    obtain ⟨q, v, r, rfl, h0, h1, h2⟩ := h
    exact ⟨q, v, r, rfl, h0, Rep.mono e h1, RepT.mono e h2⟩
theorem RepX.mono (e : Ex F F') : ∀ {ds : List (Nat × D)} {vs : List (Str × V)}, RepX T F ds vs → RepX T F' ds vs
  | [], _, h => by
    unfold RepX
    trivial
  | (f, d) :: ds, vs, h => by
    unfold RepX at h ⊢
    obtain ⟨⟨v, h1, h2⟩, h3⟩ := h
    exact ⟨⟨v, h1, Rep.mono e h2⟩, RepX.mono e h3⟩
end

theorem rep_non {v : V} : Rep T F .non v ↔ v = .non := by unfold Rep; exact Iff.rfl
theorem rep_bl {b : Bool} {v : V} : Rep T F (.bl b) v ↔ v = .bl b := by unfold Rep; exact Iff.rfl
theorem rep_int {i : Int} {v : V} : Rep T F (.int i) v ↔ v = .int i := by unfold Rep; exact Iff.rfl
theorem rep_str {s : List Nat} {v : V} : Rep T F (.str s) v ↔ v = .str (S s) := by unfold Rep; exact Iff.rfl
theorem rep_lst {xs : List D} {v : V} : Rep T F (.lst xs) v ↔ ∃ a vs, v = .ref a ∧ Rd F a (.lst vs) ∧ RepL T F xs vs := by rw [Rep]
theorem rep_tup {xs : List D} {v : V} : Rep T F (.tup xs) v ↔ ∃ a vs, v = .ref a ∧ SqT T.K F a vs ∧ RepL T F xs vs := by rw [Rep]
theorem rep_ins {c : Nat} {fs : List (Nat × D)} {v : V} : Rep T F (.ins c fs) v ↔ ∃ a C dx gs, v = .ref a ∧ T.mg (T.nm c) = some (.ref C) ∧ F a = some (.ins C dx gs) ∧ RepF T F fs gs := by rw [Rep]
theorem rep_dic {kvs : List (D × D)} {v : V} : Rep T F (.dic kvs) v ↔ ∃ a, v = .ref a ∧ ((∃ gs, F a = some (.dK gs) ∧ RepK T F kvs gs) ∨ (∃ gs, F a = some (.dT gs) ∧ RepT T F kvs gs)) := by rw [Rep]
theorem rep_exn {a dd c : Nat} {fs : List (Nat × D)} {v : V} : Rep T F (.exn a dd c fs) v ↔ v = .ref a ∧ (fs = [] ∨ ∃ gs, F dd = some (.xd gs) ∧ RepX T F fs gs) := by rw [Rep]
theorem repX_cons {f : Nat} {d : D} {fs : List (Nat × D)} {gs : List (Str × V)} : RepX T F ((f, d) :: fs) gs ↔ (∃ v, gs.lookup (T.nm f) = some v ∧ Rep T F d v) ∧ RepX T F fs gs := by rw [RepX]
theorem repX_nil {gs : List (Str × V)} : RepX T F [] gs := by
  unfold RepX
  trivial
theorem RepX.get {gs : List (Str × V)} {f : Nat} {d : D} : ∀ {fs : List (Nat × D)}, RepX T F fs gs → fs.lookup f = some d → ∃ v, gs.lookup (T.nm f) = some v ∧ Rep T F d v
  | [], _, h => by simp at h
  | (g, d') :: fs, hx, h => by
    obtain ⟨h1, h2⟩ := repX_cons.mp hx
    rw [List.lookup_cons] at h
    split at h
    · rename_i e
      have e' : f = g := by simpa using e
      cases h
      exact e' ▸ h1
    · exact RepX.get h2 h
theorem rep_glo {x : Nat} {v : V} : Rep T F (.glo x) v ↔ ∃ a, v = .ref a ∧ T.mg (T.nm x) = some (.ref a) := by rw [Rep]
theorem repL_nil {vs : List V} : RepL T F [] vs ↔ vs = [] := by rw [RepL]
theorem repL_cons {d : D} {ds : List D} {vs : List V} : RepL T F (d :: ds) vs ↔ ∃ v r, vs = v :: r ∧ Rep T F d v ∧ RepL T F ds r := by rw [RepL]
theorem RepL.nil : RepL T F [] [] := repL_nil.mpr rfl
theorem RepL.cons {d : D} {ds : List D} {v : V} {vs : List V} (h : Rep T F d v) (r : RepL T F ds vs) : RepL T F (d :: ds) (v :: vs) := repL_cons.mpr ⟨v, vs, rfl, h, r⟩
theorem RepL.len : ∀ {ds : List D} {vs : List V}, RepL T F ds vs → vs.length = ds.length
  | [], _, h => by rw [repL_nil.mp h]; rfl
  | d :: ds, _, h => by
    obtain ⟨v, r, rfl, _, h2⟩ := repL_cons.mp h
    show r.length + 1 = ds.length + 1
    rw [RepL.len h2]
theorem RepL.get : ∀ {ds : List D} {vs : List V} {i : Nat} {d : D}, RepL T F ds vs → ds[i]? = some d → ∃ v, vs[i]? = some v ∧ Rep T F d v
  | [], _, _, _, _, e => by simp at e
  | x :: ds, _, i, d, h, e => by
    obtain ⟨v, r, rfl, h1, h2⟩ := repL_cons.mp h
    cases i with
    | zero =>
      have e' : x = d := by simpa using e
      exact ⟨v, rfl, e' ▸ h1⟩
    | succ i => exact RepL.get (i := i) h2 (by simpa using e)
theorem RepL.get' : ∀ {ds : List D} {vs : List V} {i : Nat} {v : V}, RepL T F ds vs → vs[i]? = some v → ∃ d, ds[i]? = some d ∧ Rep T F d v := fun {ds vs i v} h e => by
  have hl := h.len
  have hi : i < ds.length := by
    have := (List.getElem?_eq_some_iff.mp e).1
    omega
  obtain ⟨v', e', r⟩ := h.get (List.getElem?_eq_getElem hi)
  rw [e] at e'
  cases e'
  exact ⟨_, List.getElem?_eq_getElem hi, r⟩
theorem RepL.append : ∀ {ds es : List D} {vs ws : List V}, RepL T F ds vs → RepL T F es ws → RepL T F (ds ++ es) (vs ++ ws)
  | [], _, _, _, h, h2 => by
    rw [repL_nil.mp h]
    exact h2
  | d :: ds, es, _, ws, h, h2 => by
    obtain ⟨v, r, rfl, h1, h3⟩ := repL_cons.mp h
    exact RepL.cons h1 (RepL.append h3 h2)
theorem RepL.take : ∀ {ds : List D} {vs : List V} (n : Nat), RepL T F ds vs → RepL T F (ds.take n) (vs.take n)
  | _, _, 0, _ => by simpa using RepL.nil
  | [], _, n + 1, h => by
    rw [repL_nil.mp h]
    exact RepL.nil
  | d :: ds, _, n + 1, h => by
    obtain ⟨v, r, rfl, h1, h3⟩ := repL_cons.mp h
    exact RepL.cons h1 (RepL.take n h3)
theorem RepL.drop : ∀ {ds : List D} {vs : List V} (n : Nat), RepL T F ds vs → RepL T F (ds.drop n) (vs.drop n)
  | _, _, 0, h => h
  | [], _, n + 1, h => by
    rw [repL_nil.mp h]
    exact RepL.nil
  | d :: ds, _, n + 1, h => by
    obtain ⟨v, r, rfl, h1, h3⟩ := repL_cons.mp h
    exact RepL.drop n h3
theorem RepL.set : ∀ {ds : List D} {vs : List V} {d : D} {v : V} (n : Nat), RepL T F ds vs → Rep T F d v → RepL T F (ds.set n d) (vs.set n v)
  | [], _, _, _, _, h, _ => by
    rw [repL_nil.mp h]
    exact RepL.nil
  | x :: ds, _, d, v, 0, h, hd => by
    obtain ⟨w, r, rfl, h1, h3⟩ := repL_cons.mp h
    exact RepL.cons hd h3
  | x :: ds, _, d, v, n + 1, h, hd => by
    obtain ⟨w, r, rfl, h1, h3⟩ := repL_cons.mp h
    exact RepL.cons h1 (RepL.set n h3 hd)
theorem RepL.ints : ∀ {ns : List Int}, RepL T F (ns.map D.int) (ns.map V.int)
  | [] => RepL.nil
  | n :: ns => RepL.cons (rep_int.mpr rfl) RepL.ints
theorem RepL.strs : ∀ {ss : List (List Nat)}, RepL T F (ss.map D.str) (ss.map fun s => V.str (S s))
  | [] => RepL.nil
  | n :: ns => RepL.cons (rep_str.mpr rfl) RepL.strs
theorem repL_strs : ∀ {ss : List (List Nat)} {vs : List V}, RepL T F (ss.map D.str) vs → vs = ss.map fun s => V.str (S s)
  | [], _, h => repL_nil.mp h
  | s :: ss, _, h => by
    obtain ⟨v, r, rfl, h1, h2⟩ := repL_cons.mp h
    rw [rep_str.mp h1, repL_strs h2]
    rfl
theorem repL_ints : ∀ {ss : List Int} {vs : List V}, RepL T F (ss.map D.int) vs → vs = ss.map V.int
  | [], _, h => repL_nil.mp h
  | s :: ss, _, h => by
    obtain ⟨v, r, rfl, h1, h2⟩ := repL_cons.mp h
    rw [rep_int.mp h1, repL_ints h2]
    rfl
theorem repF_nil {gs : List (Str × V)} : RepF T F [] gs ↔ gs = [] := by rw [RepF]
theorem repF_cons {f : Nat} {d : D} {fs : List (Nat × D)} {gs : List (Str × V)} : RepF T F ((f, d) :: fs) gs ↔ ∃ v r, gs = (T.nm f, v) :: r ∧ Rep T F d v ∧ RepF T F fs r := by rw [RepF]
theorem repK_nil {gs : List (Key × V)} : RepK T F [] gs ↔ gs = [] := by rw [RepK]
theorem repK_cons {k d : D} {fs : List (D × D)} {gs : List (Key × V)} : RepK T F ((k, d) :: fs) gs ↔ ∃ q v r, gs = (q, v) :: r ∧ k = dKey q ∧ Rep T F d v ∧ RepK T F fs r := by rw [RepK]
theorem repT_nil {gs : List (List Key × V)} : RepT T F [] gs ↔ gs = [] := by rw [RepT]
theorem repT_cons {k d : D} {fs : List (D × D)} {gs : List (List Key × V)} : RepT T F ((k, d) :: fs) gs ↔ ∃ q v r, gs = (q, v) :: r ∧ k = .tup (q.map dKey) ∧ Rep T F d v ∧ RepT T F fs r := by rw [RepT]
end

/-! ### the state -/
/-- a longer list of addresses -/
def Px (ad ad' : List Addr) : Prop := ∀ (k : Nat) (p : Addr), ad[k]? = some p → ad'[k]? = some p
theorem Px.refl (ad : List Addr) : Px ad ad := fun _ _ h => h
theorem Px.trans {a b c : List Addr} (h : Px a b) (g : Px b c) : Px a c := fun k p e => g k p (h k p e)
theorem Px.push (ad : List Addr) (p : Addr) : Px ad (ad ++ [p]) := fun k q e => by
  rw [List.getElem?_append_left (List.getElem?_eq_some_iff.mp e).1]
  exact e
theorem Px.app (ad bd : List Addr) : Px ad (ad ++ bd) := fun k q e => by
  rw [List.getElem?_append_left (List.getElem?_eq_some_iff.mp e).1]
  exact e

def RvR (T : Cn) (F : Hp) (ad : List Addr) : RV → V → Prop
  | .val d, v => Rep T F d v
  | .ob k, v => ∃ p, ad[k]? = some p ∧ v = .ref p
def RvL (T : Cn) (F : Hp) (ad : List Addr) : List RV → List V → Prop
  | [], vs => vs = []
  | r :: rs, vs => ∃ v q, vs = v :: q ∧ RvR T F ad r v ∧ RvL T F ad rs q
def RvF (T : Cn) (F : Hp) (ad : List Addr) : List (Nat × RV) → List (Str × V) → Prop
  | [], vs => vs = []
  | (f, r) :: rs, vs => ∃ v q, vs = (T.nm f, v) :: q ∧ RvR T F ad r v ∧ RvF T F ad rs q
theorem RvR.mono {T : Cn} {F F' : Hp} {ad ad' : List Addr} (e : Ex F F') (p : Px ad ad') : ∀ {r : RV} {v : V}, RvR T F ad r v → RvR T F' ad' r v
  | .val d, v, h => Rep.mono (T := T) e h
  | .ob k, v, ⟨q, h1, h2⟩ => ⟨q, p k q h1, h2⟩
theorem RvL.mono {T : Cn} {F F' : Hp} {ad ad' : List Addr} (e : Ex F F') (p : Px ad ad') : ∀ {rs : List RV} {vs : List V}, RvL T F ad rs vs → RvL T F' ad' rs vs
  | [], _, h => h
  | r :: rs, _, ⟨v, q, h0, h1, h2⟩ => ⟨v, q, h0, h1.mono e p, RvL.mono e p h2⟩
theorem RvF.mono {T : Cn} {F F' : Hp} {ad ad' : List Addr} (e : Ex F F') (p : Px ad ad') : ∀ {rs : List (Nat × RV)} {vs : List (Str × V)}, RvF T F ad rs vs → RvF T F' ad' rs vs
  | [], _, h => h
  | (f, r) :: rs, _, ⟨v, q, h0, h1, h2⟩ => ⟨v, q, h0, h1.mono e p, RvF.mono e p h2⟩
theorem RvL.len {T : Cn} {F : Hp} {ad : List Addr} : ∀ {rs : List RV} {vs : List V}, RvL T F ad rs vs → vs.length = rs.length
  | [], _, h => by rw [show _ = _ from h]; rfl
  | r :: rs, _, ⟨v, q, h0, _, h2⟩ => by rw [h0]; show q.length + 1 = rs.length + 1; rw [RvL.len h2]
theorem RvL.get {T : Cn} {F : Hp} {ad : List Addr} : ∀ {rs : List RV} {vs : List V} {i : Nat} {r : RV}, RvL T F ad rs vs → rs[i]? = some r → ∃ v, vs[i]? = some v ∧ RvR T F ad r v
  | [], _, _, _, _, e => by simp at e
  | x :: rs, _, i, r, ⟨v, q, h0, h1, h2⟩, e => by
    subst h0
    cases i with
    | zero =>
      have e' : x = r := by simpa using e
      exact ⟨v, rfl, e' ▸ h1⟩
    | succ i => exact RvL.get (i := i) h2 (by simpa using e)
theorem RvL.append {T : Cn} {F : Hp} {ad : List Addr} : ∀ {rs qs : List RV} {vs ws : List V}, RvL T F ad rs vs → RvL T F ad qs ws → RvL T F ad (rs ++ qs) (vs ++ ws)
  | [], _, _, _, h, g => by rw [show _ = _ from h]; exact g
  | r :: rs, _, _, _, ⟨v, q, h0, h1, h2⟩, g => by subst h0; exact ⟨v, _, rfl, h1, RvL.append h2 g⟩
theorem RvL.of {T : Cn} {F : Hp} {ad : List Addr} : ∀ {ds : List D} {vs : List V}, RepL T F ds vs → RvL T F ad (ds.map .val) vs
  | [], _, h => repL_nil.mp h
  | d :: ds, _, h => by
    obtain ⟨v, r, h0, h1, h2⟩ := repL_cons.mp h
    exact ⟨v, r, h0, h1, RvL.of h2⟩

/-- what the caller keeps: F0 the data that stood, B all that must stay, ad0 the caller's own objects -/
structure BF where
  F0 : Hp
  B : Hp
  ad0 : List Addr

def OAt (T : Cn) (c : BF) (F H : Hp) (ad : List Addr) (p : Addr) : OD → Prop
  | .fz d => (∃ o, F p = some o) ∧ Rep T F d (.ref p)
  | .lst ds => F p = none ∧ c.B p = none ∧ ∃ vs, H p = some (.lst vs) ∧ RepL T F ds vs
  | .lsr xs => F p = none ∧ c.B p = none ∧ ∃ vs, H p = some (.lst vs) ∧ RvL T F ad xs vs
  | .tpr xs => F p = none ∧ c.B p = none ∧ ∃ vs, H p = some (.tup vs) ∧ RvL T F ad xs vs
  | .dic kvs => F p = none ∧ c.B p = none ∧ ((∃ gs, H p = some (.dK gs) ∧ RepK T F kvs gs) ∨ (∃ gs, H p = some (.dT gs) ∧ RepT T F kvs gs))
  | .ins k fs => F p = none ∧ c.B p = none ∧ ∃ C dx gs, T.mg (T.nm k) = some (.ref C) ∧ H p = some (.ins C dx gs) ∧ RvF T F ad fs gs

theorem OAt.there {T : Cn} {c : BF} {F H : Hp} {ad : List Addr} {p : Addr} {o : OD} (fh : Ex F H) (h : OAt T c F H ad p o) : ∃ u, H p = some u := by
  cases o with
  | fz d => obtain ⟨⟨u, h⟩, _⟩ := h; exact ⟨u, fh _ _ h⟩
  | lst ds => obtain ⟨_, _, vs, h, _⟩ := h; exact ⟨_, h⟩
  | lsr ds => obtain ⟨_, _, vs, h, _⟩ := h; exact ⟨_, h⟩
  | tpr ds => obtain ⟨_, _, vs, h, _⟩ := h; exact ⟨_, h⟩
  | dic kvs => obtain ⟨_, _, ⟨gs, h, _⟩ | ⟨gs, h, _⟩⟩ := h <;> exact ⟨_, h⟩
  | ins k fs => obtain ⟨_, _, C, dx, gs, _, h, _⟩ := h; exact ⟨_, h⟩
/-- F grows elsewhere, H changes elsewhere -/
theorem OAt.mono {T : Cn} {c : BF} {F F' H H' : Hp} {ad ad' : List Addr} {p : Addr} {o : OD} (e : Ex F F') (hn : F p = none → F' p = none) (hp : ∀ u, H p = some u → H' p = some u) (px : Px ad ad') (h : OAt T c F H ad p o) : OAt T c F' H' ad' p o := by
  cases o with
  | fz d => obtain ⟨⟨u, h1⟩, h2⟩ := h; exact ⟨⟨u, e _ _ h1⟩, h2.mono e⟩
  | lst ds => obtain ⟨n, b, vs, h1, h2⟩ := h; exact ⟨hn n, b, vs, hp _ h1, h2.mono e⟩
  | lsr ds => obtain ⟨n, b, vs, h1, h2⟩ := h; exact ⟨hn n, b, vs, hp _ h1, h2.mono e px⟩
  | tpr ds => obtain ⟨n, b, vs, h1, h2⟩ := h; exact ⟨hn n, b, vs, hp _ h1, h2.mono e px⟩
  | dic kvs =>
    obtain ⟨n, b, ⟨gs, h1, h2⟩ | ⟨gs, h1, h2⟩⟩ := h
    · exact ⟨hn n, b, .inl ⟨gs, hp _ h1, h2.mono e⟩⟩
    · exact ⟨hn n, b, .inr ⟨gs, hp _ h1, h2.mono e⟩⟩
  | ins k fs => obtain ⟨n, b, C, dx, gs, h0, h1, h2⟩ := h; exact ⟨hn n, b, C, dx, gs, h0, hp _ h1, h2.mono e px⟩

structure Rel (T : Cn) (c : BF) (e : Env) (σ : St) (F H : Hp) (ad : List Addr) : Prop where
  len : e.sl.length = σ.length
  fh : Ex F H
  f0 : Ex c.F0 F
  bh : Ex c.B H
  fr : ∀ a o, F a = some o → c.F0 a = some o ∨ c.B a = none
  adl : ad.length = e.ob.length
  adn : ad.Nodup
  pre : Px c.ad0 ad
  ob : ∀ (k : Nat) (o : OD) (p : Addr), e.ob[k]? = some o → ad[k]? = some p → OAt T c F H ad p o
  sl : ∀ (i : Nat) (r : RV), e.sl[i]? = some (some r) → ∃ v, σ[i]? = some (some v) ∧ RvR T F ad r v

section
variable {T : Cn} {c : BF} {e : Env} {σ : St} {F H : Hp} {ad : List Addr}
theorem Rel.at (R : Rel T c e σ F H ad) {k : Nat} {o : OD} (h : e.ob[k]? = some o) : ∃ p, ad[k]? = some p ∧ OAt T c F H ad p o := by
  have hk : k < ad.length := by
    rw [R.adl]
    exact (List.getElem?_eq_some_iff.mp h).1
  exact ⟨ad[k], List.getElem?_eq_getElem hk, R.ob k o _ h (List.getElem?_eq_getElem hk)⟩
theorem Rel.obs (R : Rel T c e σ F H ad) {k : Nat} {p : Addr} (h : ad[k]? = some p) : ∃ o, e.ob[k]? = some o ∧ OAt T c F H ad p o := by
  have hk : k < e.ob.length := by
    rw [← R.adl]
    exact (List.getElem?_eq_some_iff.mp h).1
  exact ⟨e.ob[k], List.getElem?_eq_getElem hk, R.ob k _ p (List.getElem?_eq_getElem hk) h⟩
theorem Rel.tracked (R : Rel T c e σ F H ad) {k : Nat} {p : Addr} (h : ad[k]? = some p) : ∃ u, H p = some u := by
  obtain ⟨o, _, ho⟩ := R.obs h
  exact ho.there R.fh
/-- a new object of the state -/
theorem Rel.push (R : Rel T c e σ F H ad) {p : Addr} {u : HO} {o : OD} (hp : H p = none) (ho : OAt T c F (upd H p u) (ad ++ [p]) p o) : Rel T c { e with ob := e.ob ++ [o] } σ F (upd H p u) (ad ++ [p]) where
  len := R.len
  fh := fun a x h => Ex.new hp a x (R.fh a x h)
  f0 := R.f0
  bh := fun a x h => Ex.new hp a x (R.bh a x h)
  fr := R.fr
  adl := by
    show (ad ++ [p]).length = (e.ob ++ [o]).length
    rw [List.length_append, List.length_append, R.adl]
    rfl
  adn := by
    refine List.nodup_append.mpr ⟨R.adn, by simp, fun a ha b hb => ?_⟩
    have eb : b = p := by simpa using hb
    subst eb
    rintro rfl
    obtain ⟨k, hk⟩ := List.getElem?_of_mem ha
    obtain ⟨u, hu⟩ := R.tracked hk
    rw [hp] at hu
    cases hu
  pre := R.pre.trans (Px.push ad p)
  ob := fun k o' q h1 h2 => by
    by_cases hk : k < ad.length
    · rw [List.getElem?_append_left hk] at h2
      have h1' : e.ob[k]? = some o' := by
        have h1'' : (e.ob ++ [o])[k]? = some o' := h1
        rw [List.getElem?_append_left (by rw [← R.adl]; exact hk)] at h1''
        exact h1''
      exact OAt.mono (Ex.refl F) (fun n => n) (fun u hu => Ex.new hp _ _ hu) (Px.push ad p) (R.ob k o' q h1' h2)
    · have h1'' : (e.ob ++ [o])[k]? = some o' := h1
      have hk' : k = ad.length := by
        have := (List.getElem?_eq_some_iff.mp h2).1
        rw [List.length_append] at this
        have e1 : [p].length = 1 := rfl
        omega
      subst hk'
      have hl := R.adl
      rw [List.getElem?_append_right (Nat.le_refl _)] at h2
      rw [hl, List.getElem?_append_right (Nat.le_refl _)] at h1''
      simp at h1'' h2
      subst h1''
      subst h2
      exact ho
  sl := fun i r h => by
    obtain ⟨v, hv, hr⟩ := R.sl i r h
    exact ⟨v, hv, hr.mono (Ex.refl F) (Px.push ad p)⟩
/-- new data -/
theorem Rel.laid (R : Rel T c e σ F H ad) {p : Addr} {u : HO} (hp : H p = none) : Rel T c e σ (upd F p u) (upd H p u) ad where
  len := R.len
  fh := fun a x h => by
    by_cases ha : a = p
    · rw [ha, upd_same] at h ⊢
      exact h
    · rw [upd_ne ha] at h ⊢
      exact R.fh a x h
  f0 := R.f0.trans (Ex.new (R.fh.free hp))
  bh := fun a x h => Ex.new hp a x (R.bh a x h)
  fr := fun a x h => by
    by_cases ha : a = p
    · subst ha
      exact .inr (R.bh.free hp)
    · rw [upd_ne ha] at h
      exact R.fr a x h
  adl := R.adl
  adn := R.adn
  pre := R.pre
  ob := fun k o q h1 h2 => by
    have hq : q ≠ p := by
      rintro rfl
      obtain ⟨u, hu⟩ := R.tracked h2
      rw [hp] at hu
      cases hu
    exact OAt.mono (Ex.new (R.fh.free hp)) (fun n => by rw [upd_ne hq]; exact n) (fun u hu => Ex.new hp _ _ hu) (Px.refl ad) (R.ob k o q h1 h2)
  sl := fun i r h => by
    obtain ⟨v, hv, hr⟩ := R.sl i r h
    exact ⟨v, hv, hr.mono (Ex.new (R.fh.free hp)) (Px.refl ad)⟩
/-- something else is tracked anew -/
theorem Rel.other (R : Rel T c e σ F H ad) {H' : Hp} (h : Ex H H') : Rel T c e σ F H' ad where
  len := R.len
  fh := R.fh.trans h
  f0 := R.f0
  bh := R.bh.trans h
  fr := R.fr
  adl := R.adl
  adn := R.adn
  pre := R.pre
  ob := fun k o q h1 h2 => OAt.mono (Ex.refl F) (fun n => n) (fun u hu => h _ _ hu) (Px.refl ad) (R.ob k o q h1 h2)
  sl := R.sl
/-- an object that may change is not among the data -/
def OD.mut : OD → Bool
  | .fz _ => false
  | _ => true
theorem OAt.free {p : Addr} {o : OD} (m : o.mut = true) (h : OAt T c F H ad p o) : F p = none ∧ c.B p = none := by
  cases o with
  | fz d => cases m
  | lst ds => exact ⟨h.1, h.2.1⟩
  | lsr ds => exact ⟨h.1, h.2.1⟩
  | tpr ds => exact ⟨h.1, h.2.1⟩
  | dic kvs => exact ⟨h.1, h.2.1⟩
  | ins k fs => exact ⟨h.1, h.2.1⟩
theorem nodup_at {l : List Addr} (hn : l.Nodup) {i j : Nat} {x : Addr} (a : l[i]? = some x) (b : l[j]? = some x) : i = j := by
  obtain ⟨h1, e1⟩ := List.getElem?_eq_some_iff.mp a
  obtain ⟨h2, e2⟩ := List.getElem?_eq_some_iff.mp b
  exact (List.getElem_inj hn).mp (e1.trans e2.symm)
/-- an object of the state changes -/
theorem Rel.set (R : Rel T c e σ F H ad) {k : Nat} {p : Addr} {u : HO} {o o' : OD} (h : e.ob[k]? = some o) (m : o.mut = true) (hp : ad[k]? = some p) (ho : OAt T c F (upd H p u) ad p o') : Rel T c { e with ob := e.ob.set k o' } σ F (upd H p u) ad := by
  obtain ⟨fp, bp⟩ := (R.ob k o p h hp).free m
  exact {
    len := R.len
    fh := fun a x q => by
      rw [upd_ne (ne_of_none q fp)]
      exact R.fh a x q
    f0 := R.f0
    bh := fun a x q => by
      rw [upd_ne (ne_of_none q bp)]
      exact R.bh a x q
    fr := R.fr
    adl := by
      show ad.length = (e.ob.set k o').length
      rw [List.length_set]
      exact R.adl
    adn := R.adn
    pre := R.pre
    ob := fun j oj q h1 h2 => by
      have h1' : (e.ob.set k o')[j]? = some oj := h1
      by_cases hj : j = k
      · subst hj
        rw [List.getElem?_set_self (List.getElem?_eq_some_iff.mp h).1] at h1'
        cases h1'
        rw [hp] at h2
        cases h2
        exact ho
      · rw [List.getElem?_set_ne (Ne.symm hj)] at h1'
        have hq : q ≠ p := by
          rintro rfl
          exact hj (nodup_at R.adn h2 hp)
        exact OAt.mono (Ex.refl F) (fun n => n) (fun u hu => by rw [upd_ne hq]; exact hu) (Px.refl ad) (R.ob j oj q h1' h2)
    sl := R.sl }
/-- an object of the state changes no more -/
theorem Rel.freeze (R : Rel T c e σ F H ad) {k : Nat} {p : Addr} {u : HO} {o : OD} {d : D} (h : e.ob[k]? = some o) (m : o.mut = true) (hp : ad[k]? = some p) (hu : H p = some u) (hd : Rep T (upd F p u) d (.ref p)) : Rel T c { e with ob := e.ob.set k (.fz d) } σ (upd F p u) H ad := by
  obtain ⟨fp, bp⟩ := (R.ob k o p h hp).free m
  exact {
    len := R.len
    fh := fun a x q => by
      by_cases ha : a = p
      · subst ha
        rw [upd_same] at q
        cases q
        exact hu
      · rw [upd_ne ha] at q
        exact R.fh a x q
    f0 := R.f0.trans (Ex.new fp)
    bh := R.bh
    fr := fun a x q => by
      by_cases ha : a = p
      · subst ha
        exact .inr bp
      · rw [upd_ne ha] at q
        exact R.fr a x q
    adl := by
      show ad.length = (e.ob.set k (.fz d)).length
      rw [List.length_set]
      exact R.adl
    adn := R.adn
    pre := R.pre
    ob := fun j oj q h1 h2 => by
      have h1' : (e.ob.set k (.fz d))[j]? = some oj := h1
      by_cases hj : j = k
      · subst hj
        rw [List.getElem?_set_self (List.getElem?_eq_some_iff.mp h).1] at h1'
        cases h1'
        rw [hp] at h2
        cases h2
        exact ⟨⟨u, upd_same⟩, hd⟩
      · rw [List.getElem?_set_ne (Ne.symm hj)] at h1'
        have hq : q ≠ p := by
          rintro rfl
          exact hj (nodup_at R.adn h2 hp)
        exact OAt.mono (Ex.new fp) (fun n => by rw [upd_ne hq]; exact n) (fun u hu => hu) (Px.refl ad) (R.ob j oj q h1' h2)
    sl := fun i r q => by
      obtain ⟨v, hv, hr⟩ := R.sl i r q
      exact ⟨v, hv, hr.mono (Ex.new fp) (Px.refl ad)⟩ }
/-- a name is stored -/
theorem Rel.put (R : Rel T c e σ F H ad) {i : Nat} {r : RV} {v : V} (h : RvR T F ad r v) : Rel T c { e with sl := e.sl.set i (some r) } (σ.set i (some v)) F H ad where
  len := by
    show (e.sl.set i (some r)).length = (σ.set i (some v)).length
    rw [List.length_set, List.length_set]
    exact R.len
  fh := R.fh
  f0 := R.f0
  bh := R.bh
  fr := R.fr
  adl := R.adl
  adn := R.adn
  pre := R.pre
  ob := R.ob
  sl := fun j q hq => by
    have hq' : (e.sl.set i (some r))[j]? = some (some q) := hq
    by_cases hj : i = j
    · subst hj
      have hi : i < e.sl.length := by
        have := (List.getElem?_eq_some_iff.mp hq').1
        rwa [List.length_set] at this
      rw [List.getElem?_set_self hi] at hq'
      cases hq'
      rw [List.getElem?_set_self (by rw [← R.len]; exact hi)]
      exact ⟨v, rfl, h⟩
    · rw [List.getElem?_set_ne hj] at hq'
      rw [List.getElem?_set_ne hj]
      exact R.sl j q hq'
/-- names forgotten -/
theorem Rel.slots (R : Rel T c e σ F H ad) {sl' : List (Option RV)} {σ' : St} (hl : sl'.length = σ'.length) (h : ∀ (i : Nat) (r : RV), sl'[i]? = some (some r) → ∃ v, σ'[i]? = some (some v) ∧ RvR T F ad r v) : Rel T c { e with sl := sl' } σ' F H ad :=
  ⟨hl, R.fh, R.f0, R.bh, R.fr, R.adl, R.adn, R.pre, R.ob, h⟩
end

/-! ### what an object is as data -/
mutual
/-- it changes no more from here on; fuel n -/
def fzR : Nat → List OD → RV → Option (D × List OD)
  | _, ob, .val d => some (d, ob)
  | 0, _, .ob _ => none
  | n + 1, ob, .ob k => match ob[k]? with
    | some (.fz d) => some (d, ob)
    | some (.lst ds) => some (.lst ds, ob.set k (.fz (.lst ds)))
    | some (.dic kvs) => some (.dic kvs, ob.set k (.fz (.dic kvs)))
    | some (.lsr xs) => (match fzL n ob xs with
      | some (ds, ob') => (match ob'[k]? with
        | some (.lsr _) => some (.lst ds, ob'.set k (.fz (.lst ds)))
        | _ => none)
      | none => none)
    | some (.tpr xs) => (match fzL n ob xs with
      | some (ds, ob') => (match ob'[k]? with
        | some (.tpr _) => some (.tup ds, ob'.set k (.fz (.tup ds)))
        | _ => none)
      | none => none)
    | some (.ins c fs) => (match fzF n ob fs with
      | some (ds, ob') => (match ob'[k]? with
        | some (.ins _ _) => some (.ins c ds, ob'.set k (.fz (.ins c ds)))
        | _ => none)
      | none => none)
    | none => none
def fzL : Nat → List OD → List RV → Option (List D × List OD)
  | _, ob, [] => some ([], ob)
  | n, ob, r :: rs => match fzR n ob r with
    | some (d, ob') => (match fzL n ob' rs with
      | some (ds, ob'') => some (d :: ds, ob'')
      | none => none)
    | none => none
def fzF : Nat → List OD → List (Nat × RV) → Option (List (Nat × D) × List OD)
  | _, ob, [] => some ([], ob)
  | n, ob, (f, r) :: rs => match fzR n ob r with
    | some (d, ob') => (match fzF n ob' rs with
      | some (ds, ob'') => some ((f, d) :: ds, ob'')
      | none => none)
    | none => none
end
section
variable {T : Cn} {c : BF} {σ : St} {H : Hp} {ad : List Addr} {sl : List (Option RV)}
mutual
theorem fzR_ok : ∀ (n : Nat) {ob ob' : List OD} {F : Hp} {r : RV} {d : D}, Rel T c ⟨sl, ob⟩ σ F H ad → fzR n ob r = some (d, ob') →
    ∃ F', Ex F F' ∧ Rel T c ⟨sl, ob'⟩ σ F' H ad ∧ ∀ v, RvR T F ad r v → Rep T F' d v
  | n, ob, ob', F, .val d', d, R, h => by
    rw [fzR] at h
    cases h
    exact ⟨F, Ex.refl F, R, fun v hv => hv⟩
  | 0, ob, ob', F, .ob k, d, R, h => by
    rw [fzR] at h
    cases h
  | n + 1, ob, ob', F, .ob k, d, R, h => by
    rw [fzR] at h
    cases hk : ob[k]? with
    | none =>
      rw [hk] at h
      cases h
    | some o =>
      rw [hk] at h
      obtain ⟨p, hp, ho⟩ := R.at (k := k) (o := o) hk
      have only : ∀ {F' : Hp} {v : V}, RvR T F ad (.ob k) v → Rep T F' d (.ref p) → Rep T F' d v := fun {F' v} hv hr => by
        obtain ⟨q, hq, rfl⟩ := hv
        rw [hp] at hq
        cases hq
        exact hr
      cases o with
      | fz d' =>
        cases h
        exact ⟨F, Ex.refl F, R, fun v hv => only hv ho.2⟩
      | lst ds =>
        cases h
        obtain ⟨n1, n2, vs, h1, h2⟩ := ho
        have hr : Rep T (upd F p (.lst vs)) (.lst ds) (.ref p) := rep_lst.mpr ⟨p, vs, rfl, .inl upd_same, h2.mono (Ex.new n1)⟩
        exact ⟨_, Ex.new n1, R.freeze hk rfl hp h1 hr, fun v hv => only hv hr⟩
      | dic kvs =>
        cases h
        obtain ⟨n1, n2, ⟨gs, h1, h2⟩ | ⟨gs, h1, h2⟩⟩ := ho
        · have hr : Rep T (upd F p (.dK gs)) (.dic kvs) (.ref p) := rep_dic.mpr ⟨p, rfl, .inl ⟨gs, upd_same, h2.mono (Ex.new n1)⟩⟩
          exact ⟨_, Ex.new n1, R.freeze hk rfl hp h1 hr, fun v hv => only hv hr⟩
        · have hr : Rep T (upd F p (.dT gs)) (.dic kvs) (.ref p) := rep_dic.mpr ⟨p, rfl, .inr ⟨gs, upd_same, h2.mono (Ex.new n1)⟩⟩
          exact ⟨_, Ex.new n1, R.freeze hk rfl hp h1 hr, fun v hv => only hv hr⟩
      | lsr xs =>
        dsimp only at h
        cases hl : fzL n ob xs with
        | none =>
          rw [hl] at h
          cases h
        | some r =>
          obtain ⟨ds, ob1⟩ := r
          rw [hl] at h
          dsimp only at h
          obtain ⟨F1, e1, R1, q1⟩ := fzL_ok n R hl
          cases hk1 : ob1[k]? with
          | none =>
            rw [hk1] at h
            cases h
          | some o1 =>
            rw [hk1] at h
            cases o1 with
            | lsr ys =>
              cases h
              obtain ⟨n1, n2, vs, h1, h2⟩ := ho
              obtain ⟨m1, m2, ws, g1, g2⟩ := R1.ob k _ p hk1 hp
              rw [h1] at g1
              cases g1
              have hr : Rep T (upd F1 p (.lst vs)) (.lst ds) (.ref p) := rep_lst.mpr ⟨p, vs, rfl, .inl upd_same, (q1 vs h2).mono (Ex.new m1)⟩
              exact ⟨_, e1.trans (Ex.new m1), R1.freeze hk1 rfl hp h1 hr, fun v hv => only hv hr⟩
            | _ => cases h
      | tpr xs =>
        dsimp only at h
        cases hl : fzL n ob xs with
        | none =>
          rw [hl] at h
          cases h
        | some r =>
          obtain ⟨ds, ob1⟩ := r
          rw [hl] at h
          dsimp only at h
          obtain ⟨F1, e1, R1, q1⟩ := fzL_ok n R hl
          cases hk1 : ob1[k]? with
          | none =>
            rw [hk1] at h
            cases h
          | some o1 =>
            rw [hk1] at h
            cases o1 with
            | tpr ys =>
              cases h
              obtain ⟨n1, n2, vs, h1, h2⟩ := ho
              obtain ⟨m1, m2, ws, g1, g2⟩ := R1.ob k _ p hk1 hp
              rw [h1] at g1
              cases g1
              have hr : Rep T (upd F1 p (.tup vs)) (.tup ds) (.ref p) := rep_tup.mpr ⟨p, vs, rfl, .inl (.inl upd_same), (q1 vs h2).mono (Ex.new m1)⟩
              exact ⟨_, e1.trans (Ex.new m1), R1.freeze hk1 rfl hp h1 hr, fun v hv => only hv hr⟩
            | _ => cases h
      | ins c' fs =>
        dsimp only at h
        cases hl : fzF n ob fs with
        | none =>
          rw [hl] at h
          cases h
        | some r =>
          obtain ⟨ds, ob1⟩ := r
          rw [hl] at h
          dsimp only at h
          obtain ⟨F1, e1, R1, q1⟩ := fzF_ok n R hl
          cases hk1 : ob1[k]? with
          | none =>
            rw [hk1] at h
            cases h
          | some o1 =>
            rw [hk1] at h
            cases o1 with
            | ins c2 ys =>
              cases h
              obtain ⟨n1, n2, C, dx, gs, h0, h1, h2⟩ := ho
              obtain ⟨m1, m2, C2, dx2, gs2, g0, g1, g2⟩ := R1.ob k _ p hk1 hp
              have hr : Rep T (upd F1 p (.ins C dx gs)) (.ins c' ds) (.ref p) := rep_ins.mpr ⟨p, C, dx, gs, rfl, h0, upd_same, (q1 gs h2).mono (Ex.new m1)⟩
              exact ⟨_, e1.trans (Ex.new m1), R1.freeze hk1 rfl hp h1 hr, fun v hv => only hv hr⟩
            | _ => cases h
theorem fzL_ok : ∀ (n : Nat) {ob ob' : List OD} {F : Hp} {rs : List RV} {ds : List D}, Rel T c ⟨sl, ob⟩ σ F H ad → fzL n ob rs = some (ds, ob') →
    ∃ F', Ex F F' ∧ Rel T c ⟨sl, ob'⟩ σ F' H ad ∧ ∀ vs, RvL T F ad rs vs → RepL T F' ds vs
  | n, ob, ob', F, [], ds, R, h => by
    rw [fzL] at h
    cases h
    exact ⟨F, Ex.refl F, R, fun v hv => repL_nil.mpr hv⟩
  | n, ob, ob', F, r :: rs, ds, R, h => by
    rw [fzL] at h
    cases h1 : fzR n ob r with
    | none =>
      rw [h1] at h
      cases h
    | some x =>
      obtain ⟨d, ob1⟩ := x
      rw [h1] at h
      dsimp only at h
      cases h2 : fzL n ob1 rs with
      | none =>
        rw [h2] at h
        cases h
      | some y =>
        obtain ⟨es, ob2⟩ := y
        rw [h2] at h
        cases h
        obtain ⟨F1, e1, R1, q1⟩ := fzR_ok n R h1
        obtain ⟨F2, e2, R2, q2⟩ := fzL_ok n R1 h2
        refine ⟨F2, e1.trans e2, R2, fun vs hv => ?_⟩
        obtain ⟨v, q, rfl, a1, a2⟩ := hv
        exact RepL.cons ((q1 v a1).mono e2) (q2 q (a2.mono e1 (Px.refl ad)))
theorem fzF_ok : ∀ (n : Nat) {ob ob' : List OD} {F : Hp} {rs : List (Nat × RV)} {ds : List (Nat × D)}, Rel T c ⟨sl, ob⟩ σ F H ad → fzF n ob rs = some (ds, ob') →
    ∃ F', Ex F F' ∧ Rel T c ⟨sl, ob'⟩ σ F' H ad ∧ ∀ vs, RvF T F ad rs vs → RepF T F' ds vs
  | n, ob, ob', F, [], ds, R, h => by
    rw [fzF] at h
    cases h
    exact ⟨F, Ex.refl F, R, fun v hv => repF_nil.mpr hv⟩
  | n, ob, ob', F, (f, r) :: rs, ds, R, h => by
    rw [fzF] at h
    cases h1 : fzR n ob r with
    | none =>
      rw [h1] at h
      cases h
    | some x =>
      obtain ⟨d, ob1⟩ := x
      rw [h1] at h
      dsimp only at h
      cases h2 : fzF n ob1 rs with
      | none =>
        rw [h2] at h
        cases h
      | some y =>
        obtain ⟨es, ob2⟩ := y
        rw [h2] at h
        cases h
        obtain ⟨F1, e1, R1, q1⟩ := fzR_ok n R h1
        obtain ⟨F2, e2, R2, q2⟩ := fzF_ok n R1 h2
        refine ⟨F2, e1.trans e2, R2, fun vs hv => ?_⟩
        obtain ⟨v, q, rfl, a1, a2⟩ := hv
        exact repF_cons.mpr ⟨v, q, rfl, (q1 v a1).mono e2, q2 q (a2.mono e1 (Px.refl ad))⟩
end
end
@[simp] theorem fzR_val (n : Nat) (ob : List OD) (d : D) : fzR n ob (.val d) = some (d, ob) := by rw [fzR]
@[simp] theorem fzL_vals (n : Nat) (ob : List OD) : ∀ ds : List D, fzL n ob (ds.map .val) = some (ds, ob)
  | [] => by rw [List.map_nil, fzL]
  | d :: ds => by rw [List.map_cons, fzL, fzR_val]; dsimp only; rw [fzL_vals n ob ds]
@[simp] theorem fzL_nil (n : Nat) (ob : List OD) : fzL n ob [] = some ([], ob) := by rw [fzL]
end DL
end
section
set_option Elab.async false
set_option linter.all false
set_option autoImplicit false
set_option maxRecDepth 100000
set_option maxHeartbeats 2000000
/-! DLB: what expressions do to the state (EX, TX), and that the text's expressions do it (DE, DT). -/
namespace DL
open PySem PySem.Spec L2

abbrev EX := Env → (RV → Env → Prop) → (Xc → Env → Prop) → Prop
abbrev TX := Env → (Bool → Env → Prop) → (Xc → Env → Prop) → Prop
abbrev AX := Env → (List RV → Env → Prop) → (Xc → Env → Prop) → Prop
structure Post where
  nx : Env → Prop
  rt : RV → Env → Prop
  xc : Xc → Env → Prop
  bk : Env → Prop := fun _ => False
  ct : Env → Prop := fun _ => False
abbrev SX := Env → Post → Prop

/-! ### what stands for data -/
section
variable {T : Cn} {F : Hp} {ad : List Addr} {v : V}
theorem rv_bl {b : Bool} (h : RvR T F ad (.val (.bl b)) v) : v = .bl b := rep_bl.mp (show Rep T F (.bl b) v from h)
theorem rv_int {b : Int} (h : RvR T F ad (.val (.int b)) v) : v = .int b := rep_int.mp (show Rep T F (.int b) v from h)
theorem rv_str {b : List Nat} (h : RvR T F ad (.val (.str b)) v) : v = .str (S b) := rep_str.mp (show Rep T F (.str b) v from h)
theorem rv_non (h : RvR T F ad (.val .non) v) : v = .non := rep_non.mp (show Rep T F .non v from h)
end

/-! ### the link -/
def XRep (T : Cn) (F : Hp) (x : Xc) (cls : Value) (d : Option Addr) : Prop :=
  ∃ C, T.mg (T.nm x.c) = some (.ref C) ∧ cls = .ref C ∧ (x.fs = [] ∨ ∃ dd gs, d = some dd ∧ F dd = some (.xd gs) ∧ RepX T F x.fs gs)
def XL (T : Cn) (c : BF) (W : WX) (F : Hp) (ad : List Addr) (R : Xc → Env → Prop) : Prop :=
  ∀ cls d σ' H' F' ad' e' x, Ex F F' → Px ad ad' → Rel T c e' σ' F' H' ad' → XRep T F' x cls d → R x e' → W cls d σ' H'
def QL (T : Cn) (c : BF) (σ : St) (F : Hp) (ad : List Addr) (P : RV → Env → Prop) (Q : VK) : Prop :=
  ∀ v H' F' ad' e' r, Ex F F' → Px ad ad' → Rel T c e' σ F' H' ad' → RvR T F' ad' r v → P r e' → Q v H'
def LE (T : Cn) (W : WX) (t : EX) : TE := fun σ H Q => ∃ c F ad e P R, Rel T c e σ F H ad ∧ t e P R ∧ QL T c σ F ad P Q ∧ XL T c W F ad R
def LT (T : Cn) (W : WX) (t : TX) : TT := fun σ H Q => ∃ c F ad e P R, Rel T c e σ F H ad ∧ t e P R ∧
  (∀ b H' F' ad' e', Ex F F' → Px ad ad' → Rel T c e' σ F' H' ad' → P b e' → Q b H') ∧ XL T c W F ad R
def LA (T : Cn) (W : WX) (t : AX) : TA := fun σ H Q => ∃ c F ad e P R, Rel T c e σ F H ad ∧ t e P R ∧
  (∀ vs H' F' ad' e' rs, Ex F F' → Px ad ad' → Rel T c e' σ F' H' ad' → RvL T F' ad' rs vs → P rs e' → Q vs H') ∧ XL T c W F ad R
def LS (T : Cn) (W : WX) (t : SX) : TS := fun D σ H => ∃ c F ad e Po, Rel T c e σ F H ad ∧ t e Po ∧
  (∀ σ' H' F' ad' e', Ex F F' → Px ad ad' → Rel T c e' σ' F' H' ad' → Po.nx e' → D.nx σ' H') ∧
  (∀ v σ' H' F' ad' e' r, Ex F F' → Px ad ad' → Rel T c e' σ' F' H' ad' → RvR T F' ad' r v → Po.rt r e' → D.rt v H') ∧
  XL T c W F ad Po.xc ∧
  (∀ σ' H' F' ad' e', Ex F F' → Px ad ad' → Rel T c e' σ' F' H' ad' → Po.bk e' → D.bk σ' H') ∧
  (∀ σ' H' F' ad' e', Ex F F' → Px ad ad' → Rel T c e' σ' F' H' ad' → Po.ct e' → D.ct σ' H')
/-- the text's expression does t -/
structure DE (T : Cn) (X : Cx) (W : WX) (e : Expr) (t : EX) : Prop where
  pe : PE X e (LE T W t)
structure DT (T : Cn) (X : Cx) (W : WX) (e : Expr) (t : TX) : Prop where
  pt : PT X e (LT T W t)
structure DW (T : Cn) (X : Cx) (W : WX) (e : Expr) (t : TX) : Prop where
  pw : PW X e (LT T W t)
structure DA (T : Cn) (X : Cx) (W : WX) (es : List Expr) (t : AX) : Prop where
  pa : PA X es (LA T W t)
  hpl : ∀ pos, (backTo pos (starEach es X.env)).any (·.1) = false
  he : ∀ a r, es = a :: r → starEach es X.env = (false, eval a X.env) :: starEach r X.env ∧ ∀ pos, (backTo pos (starEach r X.env)).any (·.1) = false
structure DS (T : Cn) (X : Cx) (W : WX) (st : Stmt) (t : SX) : Prop where
  ps : PS X st (LS T W t)
structure DSs (T : Cn) (X : Cx) (W : WX) (st : List Stmt) (t : SX) : Prop where
  pss : PSs X st (LS T W t)

theorem PE.imp {X : Cx} {e : Expr} {t u : TE} (h : PE X e t) (g : ∀ σ H Q, u σ H Q → t σ H Q) : PE X e u := ⟨fun pins s σ H Q I q => h.run pins s σ H Q I (g σ H Q q)⟩
theorem PT.imp {X : Cx} {e : Expr} {t u : TT} (h : PT X e t) (g : ∀ σ H Q, u σ H Q → t σ H Q) : PT X e u := ⟨fun pins s σ H Q I q => h.run pins s σ H Q I (g σ H Q q)⟩
theorem PW.imp {X : Cx} {e : Expr} {t u : TT} (h : PW X e t) (g : ∀ σ H Q, u σ H Q → t σ H Q) : PW X e u := ⟨fun wh pins s σ H Q I q => h.run wh pins s σ H Q I (g σ H Q q)⟩
theorem PA.imp {X : Cx} {e : List Expr} {t u : TA} (h : PA X e t) (g : ∀ σ H Q, u σ H Q → t σ H Q) : PA X e u := ⟨fun pos pins s σ H Q I q => h.run pos pins s σ H Q I (g σ H Q q)⟩
theorem PS.imp {X : Cx} {e : Stmt} {t u : TS} (h : PS X e t) (g : ∀ D σ H, u D σ H → t D σ H) : PS X e u := ⟨fun pins s σ H D I q => h.run pins s σ H D I (g D σ H q)⟩
theorem PSs.imp {X : Cx} {e : List Stmt} {t u : TS} (h : PSs X e t) (g : ∀ D σ H, u D σ H → t D σ H) : PSs X e u := ⟨fun pins s σ H D I q => h.run pins s σ H D I (g D σ H q)⟩

theorem XL.mono {T : Cn} {c : BF} {W : WX} {F F' : Hp} {ad ad' : List Addr} {R : Xc → Env → Prop} (h : XL T c W F ad R) (e : Ex F F') (p : Px ad ad') : XL T c W F' ad' R :=
  fun cls d σ' H' F2 ad2 e' x e2 p2 => h cls d σ' H' F2 ad2 e' x (e.trans e2) (p.trans p2)
theorem QL.mono {T : Cn} {c : BF} {σ : St} {F F' : Hp} {ad ad' : List Addr} {P : RV → Env → Prop} {Q : VK} (h : QL T c σ F ad P Q) (e : Ex F F') (p : Px ad ad') : QL T c σ F' ad' P Q :=
  fun v H' F2 ad2 e' r e2 p2 => h v H' F2 ad2 e' r (e.trans e2) (p.trans p2)
theorem QL.val {T : Cn} {c : BF} {σ : St} {F H : Hp} {ad : List Addr} {P : RV → Env → Prop} {Q : VK} {e : Env} {v : V} {d : D} (h : QL T c σ F ad P Q) (R : Rel T c e σ F H ad) (r : Rep T F d v) (q : P (.val d) e) : Q v H :=
  h v H F ad e (.val d) (Ex.refl F) (Px.refl ad) R r q
theorem QL.any {T : Cn} {c : BF} {σ : St} {F H : Hp} {ad : List Addr} {P : RV → Env → Prop} {Q : VK} {e : Env} {v : V} {d : RV} (h : QL T c σ F ad P Q) (R : Rel T c e σ F H ad) (r : RvR T F ad d v) (q : P d e) : Q v H :=
  h v H F ad e d (Ex.refl F) (Px.refl ad) R r q
/-- a new object -/
theorem QL.new {T : Cn} {c : BF} {σ : St} {F H : Hp} {ad : List Addr} {P : RV → Env → Prop} {Q : VK} {e : Env} {o : OD} {u : HO} {p : Addr} (h : QL T c σ F ad P Q) (R : Rel T c e σ F H ad) (hp : H p = none)
    (ho : F p = none → c.B p = none → OAt T c F (upd H p u) (ad ++ [p]) p o) (q : P (.ob e.ob.length) { e with ob := e.ob ++ [o] }) : Q (.ref p) (upd H p u) := by
  have R2 := R.push hp (ho (R.fh.free hp) (R.bh.free hp))
  refine h (.ref p) _ F (ad ++ [p]) _ (.ob e.ob.length) (Ex.refl F) (Px.push ad p) R2 ⟨p, ?_, rfl⟩ q
  rw [← R.adl, List.getElem?_append_right (Nat.le_refl _), Nat.sub_self]
  rfl
/-- new data -/
theorem QL.laid {T : Cn} {c : BF} {σ : St} {F H : Hp} {ad : List Addr} {P : RV → Env → Prop} {Q : VK} {e : Env} {u : HO} {p : Addr} {d : D} (h : QL T c σ F ad P Q) (R : Rel T c e σ F H ad) (hp : H p = none)
    (ho : Ex F (upd F p u) → Rep T (upd F p u) d (.ref p)) (q : P (.val d) e) : Q (.ref p) (upd H p u) :=
  h (.ref p) _ (upd F p u) ad e (.val d) (Ex.new (R.fh.free hp)) (Px.refl ad) (R.laid hp) (ho (Ex.new (R.fh.free hp))) q

/-! ### names, constants -/
section
variable {T : Cn} {X : Cx} {W : WX}
def eVar (i : Nat) : EX := fun e P _ => ∃ r, e.sl[i]? = some (some r) ∧ P r e
def eD (d : D) : EX := fun e P _ => P (.val d) e
theorem de_var (i : Nat) {x : Str} {pos : Pos} (hN : X.N[i]? = some x := by rfl) (hv : Vis X.env.scope x := by first | exact Or.inl rfl | exact Or.inr (Or.inl rfl) | exact Or.inr (Or.inr rfl)) (hd : (x == ("__debug__" : Str)) = false := by decide)
    (hcd : (x == ("__classdict__" : Str)) = false := by decide) : DE T X W (.Name x pos) (eVar i) := ⟨PE.imp (pe_var hN hv hd hcd) fun σ H Q h => by
  obtain ⟨c, F, ad, e, P, R, rel, ⟨r, hr, q⟩, hq, _⟩ := h
  obtain ⟨v, hv, rr⟩ := rel.sl i r hr
  exact ⟨v, hv, hq.any rel rr q⟩⟩
theorem de_c {x : Expr} {v : V} {d : D} (h : PE X x (tC v)) (hr : ∀ F, Rep T F d v) : DE T X W x (eD d) := ⟨PE.imp h fun σ H Q h => by
  obtain ⟨c, F, ad, e, P, R, rel, q, hq, _⟩ := h
  exact hq.val rel (hr F) q⟩
theorem de_int {i : Int} {j : Nat} {pos : Pos} : DE T X W (.Constant (.int i) j pos) (eD (.int i)) := de_c pe_int fun _ => rep_int.mpr rfl
theorem de_bl {i : Bool} {j : Nat} {pos : Pos} : DE T X W (.Constant (.bool i) j pos) (eD (.bl i)) := de_c pe_bl fun _ => rep_bl.mpr rfl
theorem de_non {j : Nat} {pos : Pos} : DE T X W (.Constant .none j pos) (eD .non) := de_c pe_non fun _ => rep_non.mpr rfl
theorem de_str {x : Str} {j : Nat} {pos : Pos} : DE T X W (.Constant (.str x) j pos) (eD (.str x.cps.toList)) := de_c pe_str fun _ => rep_str.mpr (by rw [S_of])
/-- a name of the module -/
theorem de_glob {x : Str} {u : Value} {v : V} {d : D} {pos : Pos} (hm : X.mg x = some u) (r : RelV v u) (hr : ∀ F, Rep T F d v) (hg : Gl X x := by rfl) (hdb : (x == ("__debug__" : Str)) = false := by decide) : DE T X W (.Name x pos) (eD d) :=
  de_c (pe_glob hg hm r hdb) hr

/-! ### two operands -/
abbrev OX := Env → RV → RV → (RV → Env → Prop) → Prop
def OpD (T : Cn) (r : R2) (f : OX) : Prop := ∀ (c : BF) (F : Hp) (ad : List Addr) (e : Env) (σ : St) (H : Hp) (x y : V) (rx ry : RV) (P : RV → Env → Prop) (Q : VK),
  Rel T c e σ F H ad → RvR T F ad rx x → RvR T F ad ry y → f e rx ry P → QL T c σ F ad P Q → r x y H Q
def op2 (f : OX) (ta tb : EX) : EX := fun e P R => ta e (fun x e1 => tb e1 (fun y e2 => f e2 x y P) R) R
theorem le2 {f : OX} {r : R2} {ta tb : EX} (ho : OpD T r f) {σ : St} {H : Hp} {Q : VK} (h : LE T W (op2 f ta tb) σ H Q) : tOp r (LE T W ta) (LE T W tb) σ H Q := by
  obtain ⟨c, F, ad, e, P, R, rel, q, hq, hx⟩ := h
  refine ⟨c, F, ad, e, _, R, rel, q, fun v H1 F1 ad1 e1 rx x1 p1 rel1 r1 q1 => ?_, hx⟩
  refine ⟨c, F1, ad1, e1, _, R, rel1, q1, fun y H2 F2 ad2 e2 ry x2 p2 rel2 r2 q2 => ?_, hx.mono x1 p1⟩
  exact ho c F2 ad2 e2 σ H2 v y rx ry P Q rel2 (r1.mono x2 p2) r2 q2 (hq.mono (x1.trans x2) (p1.trans p2))
theorem de_op {op : Operator} {r : R2} {f : OX} {a b : Expr} {ta tb : EX} {pos : Pos} (hr : OpR X (binaryOp op) r) (ho : OpD T r f) (ha : DE T X W a ta) (hb : DE T X W b tb) : DE T X W (.BinOp a op b pos) (op2 f ta tb) :=
  ⟨PE.imp (pe_op hr ha.pe hb.pe) fun σ H Q h => le2 ho h⟩
theorem de_cmp {op : CmpOp} {r : R2} {f : OX} {a b : Expr} {ta tb : EX} {pos : Pos} (hr : OpR X (compareOp op) r) (ho : OpD T r f) (ha : DE T X W a ta) (hb : DE T X W b tb) (hm : behindInMarks op b = false := by first | rfl | exact nomark _) :
    DE T X W (.Compare a [op] [b] pos) (op2 f ta tb) := ⟨PE.imp (pe_cmpR hr ha.pe hb.pe hm) fun σ H Q h => le2 ho h⟩
/-- a value that is a bool, as a test -/
def tVal (t : EX) : TX := fun e P R => t e (fun r e1 => ∃ b, r = .val (.bl b) ∧ P b e1) R
theorem lt_val {t : EX} {σ : St} {H : Hp} {Q : Bool → Hp → Prop} (h : LT T W (tVal t) σ H Q) : tTest (LE T W t) σ H Q := by
  obtain ⟨c, F, ad, e, P, R, rel, q, hq, hx⟩ := h
  refine ⟨c, F, ad, e, _, R, rel, q, fun v H1 F1 ad1 e1 r x1 p1 rel1 r1 q1 => ?_, hx⟩
  obtain ⟨b, rfl, q2⟩ := q1
  exact ⟨b, rv_bl r1, hq b H1 F1 ad1 e1 x1 p1 rel1 q2⟩
theorem dt_cmp {op : CmpOp} {r : R2} {f : OX} {a b : Expr} {ta tb : EX} {pos : Pos} (hr : OpR X (compareOp op) r) (ho : OpD T r f) (ha : DE T X W a ta) (hb : DE T X W b tb) (hm : behindInMarks op b = false := by first | rfl | exact nomark _) :
    DT T X W (.Compare a [op] [b] pos) (tVal (op2 f ta tb)) := ⟨PT.imp (pt_cmpR hr ha.pe hb.pe hm) fun σ H Q h => by
  obtain ⟨c, F, ad, e, P, R, rel, q, hq, hx⟩ := h
  refine ⟨c, F, ad, e, _, R, rel, q, fun v H1 F1 ad1 e1 rx x1 p1 rel1 r1 q1 => ?_, hx⟩
  refine ⟨c, F1, ad1, e1, _, R, rel1, q1, fun y H2 F2 ad2 e2 ry x2 p2 rel2 r2 q2 => ?_, hx.mono x1 p1⟩
  refine ho c F2 ad2 e2 σ H2 v y rx ry _ _ rel2 (r1.mono x2 p2) r2 q2 fun z H3 F3 ad3 e3 rz x3 p3 rel3 r3 q3 => ?_
  obtain ⟨b, rfl, q4⟩ := q3
  exact ⟨b, rv_bl r3, hq b H3 F3 ad3 e3 ((x1.trans x2).trans x3) ((p1.trans p2).trans p3) rel3 q4⟩⟩
theorem dt_val {a : Expr} {t : EX} (h : DE T X W a t) (he : ∀ whole, isTrue a X.env whole = (do let v ← whole; standAt a.pos; holding [v] (truthy v)) := by intro _; rfl) : DT T X W a (tVal t) :=
  ⟨PT.imp (pt_val h.pe he) fun σ H Q h => lt_val h⟩

/-! ### and, or, not -/
def tAndX (t u : TX) : TX := fun e P R => t e (fun b e1 => if b = true then u e1 P R else P false e1) R
def tOrX (t u : TX) : TX := fun e P R => t e (fun b e1 => if b = true then P true e1 else u e1 P R) R
def tNotX (t : TX) : TX := fun e P R => t e (fun b e1 => P (!b) e1) R
variable {a b : Expr} {rest : List Expr} {ta tb : TX} {pos : Pos}
theorem DW.dt (h : DW T X W a ta) : DT T X W a ta := ⟨h.pw.pt⟩
theorem dw_and1 (h : DT T X W a ta) : DW T X W (.BoolOp .And [a] pos) ta := ⟨pw_and1 h.pt⟩
theorem dw_or1 (h : DT T X W a ta) : DW T X W (.BoolOp .Or [a] pos) ta := ⟨pw_or1 h.pt⟩
theorem dw_and (h : DT T X W a ta) (g : DW T X W (.BoolOp .And (b :: rest) pos) tb) : DW T X W (.BoolOp .And (a :: b :: rest) pos) (tAndX ta tb) := ⟨PW.imp (pw_and h.pt g.pw) fun σ H Q h => by
  obtain ⟨c, F, ad, e, P, R, rel, q, hq, hx⟩ := h
  refine ⟨c, F, ad, e, _, R, rel, q, fun k H1 F1 ad1 e1 x1 p1 rel1 q1 => ?_, hx⟩
  cases k with
  | true =>
    rw [if_pos rfl] at q1 ⊢
    exact ⟨c, F1, ad1, e1, P, R, rel1, q1, fun k H2 F2 ad2 e2 x2 p2 => hq k H2 F2 ad2 e2 (x1.trans x2) (p1.trans p2), hx.mono x1 p1⟩
  | false => exact hq false H1 F1 ad1 e1 x1 p1 rel1 q1⟩
theorem dw_or (h : DT T X W a ta) (g : DW T X W (.BoolOp .Or (b :: rest) pos) tb) : DW T X W (.BoolOp .Or (a :: b :: rest) pos) (tOrX ta tb) := ⟨PW.imp (pw_or h.pt g.pw) fun σ H Q h => by
  obtain ⟨c, F, ad, e, P, R, rel, q, hq, hx⟩ := h
  refine ⟨c, F, ad, e, _, R, rel, q, fun k H1 F1 ad1 e1 x1 p1 rel1 q1 => ?_, hx⟩
  cases k with
  | true => exact hq true H1 F1 ad1 e1 x1 p1 rel1 q1
  | false => exact ⟨c, F1, ad1, e1, P, R, rel1, q1, fun k H2 F2 ad2 e2 x2 p2 => hq k H2 F2 ad2 e2 (x1.trans x2) (p1.trans p2), hx.mono x1 p1⟩⟩
theorem dt_not (h : DT T X W a ta) : DT T X W (.UnaryOp .Not a pos) (tNotX ta) := ⟨PT.imp (pt_not h.pt) fun σ H Q h => by
  obtain ⟨c, F, ad, e, P, R, rel, q, hq, hx⟩ := h
  exact ⟨c, F, ad, e, _, R, rel, q, fun k H1 F1 ad1 e1 x1 p1 rel1 q1 => hq (!k) H1 F1 ad1 e1 x1 p1 rel1 q1, hx⟩⟩
/-! .. as values, the operands bools -/
def eAnd (t u : EX) : EX := fun e P R => t e (fun r e1 => ∃ k, r = .val (.bl k) ∧ if k = true then u e1 P R else P (.val (.bl false)) e1) R
def eOr (t u : EX) : EX := fun e P R => t e (fun r e1 => ∃ k, r = .val (.bl k) ∧ if k = true then P (.val (.bl true)) e1 else u e1 P R) R
def eNot (t : EX) : EX := fun e P R => t e (fun r e1 => ∃ k, r = .val (.bl k) ∧ P (.val (.bl (!k))) e1) R
variable {xa xb : EX}
theorem de_one {op : BoolOp} (h : DE T X W a xa) : DE T X W (.BoolOp op [a] pos) xa := ⟨pe_one h.pe⟩
theorem de_and (h : DE T X W a xa) (g : DE T X W (.BoolOp .And (b :: rest) pos) xb) : DE T X W (.BoolOp .And (a :: b :: rest) pos) (eAnd xa xb) := ⟨PE.imp (pe_and h.pe g.pe) fun σ H Q h => by
  obtain ⟨c, F, ad, e, P, R, rel, q, hq, hx⟩ := h
  refine ⟨c, F, ad, e, _, R, rel, q, fun v H1 F1 ad1 e1 r x1 p1 rel1 r1 q1 => ?_, hx⟩
  obtain ⟨k, rfl, q2⟩ := q1
  refine ⟨k, rv_bl r1, ?_⟩
  cases k with
  | true =>
    rw [if_pos rfl] at q2 ⊢
    exact ⟨c, F1, ad1, e1, P, R, rel1, q2, hq.mono x1 p1, hx.mono x1 p1⟩
  | false => exact (hq.mono x1 p1).val rel1 (rep_bl.mpr rfl) q2⟩
theorem de_or (h : DE T X W a xa) (g : DE T X W (.BoolOp .Or (b :: rest) pos) xb) : DE T X W (.BoolOp .Or (a :: b :: rest) pos) (eOr xa xb) := ⟨PE.imp (pe_or h.pe g.pe) fun σ H Q h => by
  obtain ⟨c, F, ad, e, P, R, rel, q, hq, hx⟩ := h
  refine ⟨c, F, ad, e, _, R, rel, q, fun v H1 F1 ad1 e1 r x1 p1 rel1 r1 q1 => ?_, hx⟩
  obtain ⟨k, rfl, q2⟩ := q1
  refine ⟨k, rv_bl r1, ?_⟩
  cases k with
  | true =>
    rw [if_pos rfl] at q2 ⊢
    exact (hq.mono x1 p1).val rel1 (rep_bl.mpr rfl) q2
  | false => exact ⟨c, F1, ad1, e1, P, R, rel1, q2, hq.mono x1 p1, hx.mono x1 p1⟩⟩
theorem de_not (h : DE T X W a xa) : DE T X W (.UnaryOp .Not a pos) (eNot xa) := ⟨PE.imp (pe_not h.pe) fun σ H Q h => by
  obtain ⟨c, F, ad, e, P, R, rel, q, hq, hx⟩ := h
  refine ⟨c, F, ad, e, _, R, rel, q, fun v H1 F1 ad1 e1 r x1 p1 rel1 r1 q1 => ?_, hx⟩
  obtain ⟨k, rfl, q2⟩ := q1
  exact ⟨k, rv_bl r1, (hq.mono x1 p1).val rel1 (rep_bl.mpr rfl) q2⟩⟩
def eIf (t : TX) (u w : EX) : EX := fun e P R => t e (fun b e1 => if b = true then u e1 P R else w e1 P R) R
theorem de_if {c' : Expr} (h : DT T X W c' ta) (g : DE T X W a xa) (g2 : DE T X W b xb) : DE T X W (.IfExp c' a b pos) (eIf ta xa xb) := ⟨PE.imp (pe_ifExp h.pt g.pe g2.pe) fun σ H Q h => by
  obtain ⟨c, F, ad, e, P, R, rel, q, hq, hx⟩ := h
  refine ⟨c, F, ad, e, _, R, rel, q, fun k H1 F1 ad1 e1 x1 p1 rel1 q1 => ?_, hx⟩
  cases k with
  | true =>
    rw [if_pos rfl] at q1 ⊢
    exact ⟨c, F1, ad1, e1, P, R, rel1, q1, hq.mono x1 p1, hx.mono x1 p1⟩
  | false => exact ⟨c, F1, ad1, e1, P, R, rel1, q1, hq.mono x1 p1, hx.mono x1 p1⟩⟩
/-- a < b < c -/
def eChain (f g : OX) (ta tb tc : EX) : EX := fun e P R => ta e (fun x e1 => tb e1 (fun y e2 => f e2 x y fun z e3 => ∃ k, z = .val (.bl k) ∧ if k = true then tc e3 (fun w e4 => g e4 y w P) R else P (.val (.bl false)) e3) R) R
theorem le_chain {r r' : R2} {f g : OX} {ta tb tc : EX} (ho : OpD T r f) (ho' : OpD T r' g) {σ : St} {H : Hp} {Q : VK} (h : LE T W (eChain f g ta tb tc) σ H Q) : tChain r r' (LE T W ta) (LE T W tb) (LE T W tc) σ H Q := by
  obtain ⟨c, F, ad, e, P, R, rel, q, hq, hx⟩ := h
  refine ⟨c, F, ad, e, _, R, rel, q, fun v H1 F1 ad1 e1 rx x1 p1 rel1 r1 q1 => ?_, hx⟩
  refine ⟨c, F1, ad1, e1, _, R, rel1, q1, fun y H2 F2 ad2 e2 ry x2 p2 rel2 r2 q2 => ?_, hx.mono x1 p1⟩
  refine ho c F2 ad2 e2 σ H2 v y rx ry _ _ rel2 (r1.mono x2 p2) r2 q2 fun z H3 F3 ad3 e3 rz x3 p3 rel3 r3 q3 => ?_
  obtain ⟨k, rfl, q4⟩ := q3
  refine ⟨k, rv_bl r3, ?_⟩
  have xx := (x1.trans x2).trans x3
  have pp := (p1.trans p2).trans p3
  cases k with
  | true =>
    rw [if_pos rfl] at q4 ⊢
    refine ⟨c, F3, ad3, e3, _, R, rel3, q4, fun w H4 F4 ad4 e4 rw x4 p4 rel4 r4 q5 => ?_, hx.mono xx pp⟩
    exact ho' c F4 ad4 e4 σ H4 y w ry rw P Q rel4 (r2.mono (x3.trans x4) (p3.trans p4)) r4 q5 (hq.mono (xx.trans x4) (pp.trans p4))
  | false => exact (hq.mono xx pp).val rel3 (rep_bl.mpr rfl) q4
theorem de_chain {op op' : CmpOp} {r r' : R2} {f g : OX} {c' : Expr} {xc : EX} (hr : OpR X (compareOp op) r) (ho : OpD T r f) (hr' : OpR X (compareOp op') r') (ho' : OpD T r' g) (ha : DE T X W a xa) (hb : DE T X W b xb) (hc : DE T X W c' xc)
    (hm : lastMarks [op, op'] [b, c'] = false := by with_unfolding_all rfl) : DE T X W (.Compare a [op, op'] [b, c'] pos) (eChain f g xa xb xc) :=
  ⟨PE.imp (pe_chain hr hr' ha.pe hb.pe hc.pe hm) fun σ H Q h => le_chain ho ho' h⟩
theorem LE.mono {t : EX} {σ : St} {H : Hp} {Q Q' : VK} (h : LE T W t σ H Q) (g : ∀ v H', Q v H' → Q' v H') : LE T W t σ H Q' := by
  obtain ⟨c, F, ad, e, P, R, rel, q, hq, hx⟩ := h
  exact ⟨c, F, ad, e, P, R, rel, q, fun v H' F' ad' e' r x p rel' r' q' => g v H' (hq v H' F' ad' e' r x p rel' r' q'), hx⟩
/-- the same as a test -/
theorem dt_chain {op op' : CmpOp} {r r' : R2} {f g : OX} {c' : Expr} {xc : EX} (hr : OpR X (compareOp op) r) (ho : OpD T r f) (hr' : OpR X (compareOp op') r') (ho' : OpD T r' g) (ha : DE T X W a xa) (hb : DE T X W b xb) (hc : DE T X W c' xc)
    (hm : lastMarks [op, op'] [b, c'] = false := by with_unfolding_all rfl) : DT T X W (.Compare a [op, op'] [b, c'] pos) (tVal (eChain f g xa xb xc)) :=
  ⟨PT.imp (pt_chain hr hr' ha.pe hb.pe hc.pe hm) fun σ H Q h => by
    obtain ⟨c, F, ad, e, P, R, rel, q, hq, hx⟩ := h
    refine le_chain (Q := fun x H' => ∃ k, x = .bl k ∧ Q k H') ho ho' ⟨c, F, ad, e, _, R, rel, q, fun v H1 F1 ad1 e1 r x1 p1 rel1 r1 q1 => ?_, hx⟩
    obtain ⟨b, rfl, q2⟩ := q1
    exact ⟨b, rv_bl r1, hq b H1 F1 ad1 e1 x1 p1 rel1 q2⟩⟩
end
end DL
end
section
set_option Elab.async false
set_option linter.all false
set_option autoImplicit false
set_option maxRecDepth 100000
set_option maxHeartbeats 2000000
/-! DLC: operators, comparisons, subscripts, slices, displays, built-ins by data. -/
namespace DL
open PySem PySem.Spec L2

/-- room on the machine's own stack -/
def U (X : Cx) : Prop := X.A.units + 100 < cLine
theorem U.of {X : Cx} {k : Nat} (hr : Room k X.A) : U X := by
  have := hr.un
  unfold U
  omega
theorem u64 {X : Cx} (h : U X) : X.A.units + 64 < cLine := by
  unfold U at h
  omega
theorem u65 {X : Cx} (h : U X) : X.A.units + 65 < cLine := by
  unfold U at h
  omega
/-! ### operands as data -/
def dv (e : Env) : RV → Option D
  | .val d => some d
  | .ob k => match e.ob[k]? with
    | some (.fz d) => some d
    | _ => none
/-- a list whose items are data -/
def lsD (e : Env) : RV → Option (List D)
  | .val (.lst ds) => some ds
  | .ob k => (match e.ob[k]? with
    | some (.fz (.lst ds)) => some ds
    | some (.lst ds) => some ds
    | _ => none)
  | _ => none
def tpD (e : Env) (r : RV) : Option (List D) := match dv e r with
  | some (.tup ds) => some ds
  | _ => none
def sqD (e : Env) (r : RV) : Option (List D) := match lsD e r with
  | some ds => some ds
  | none => tpD e r
/-- all of it as data, as it stands -/
def rd (e : Env) (r : RV) : Option D := match fzR 9 e.ob r with
  | some (d, _) => some d
  | none => none
@[simp] theorem dv_val (e : Env) (d : D) : dv e (.val d) = some d := rfl
@[simp] theorem rd_val (e : Env) (d : D) : rd e (.val d) = some d := by unfold rd; rw [fzR_val]
@[simp] theorem lsD_val (e : Env) (ds : List D) : lsD e (.val (.lst ds)) = some ds := rfl
@[simp] theorem tpD_val (e : Env) (ds : List D) : tpD e (.val (.tup ds)) = some ds := rfl
@[simp] theorem sqD_lst (e : Env) (ds : List D) : sqD e (.val (.lst ds)) = some ds := rfl
@[simp] theorem sqD_tup (e : Env) (ds : List D) : sqD e (.val (.tup ds)) = some ds := rfl
theorem dv_ob {e : Env} {k : Nat} {d : D} (h : e.ob[k]? = some (.fz d)) : dv e (.ob k) = some d := by simp [dv, h]
theorem lsD_ob {e : Env} {k : Nat} {ds : List D} (h : e.ob[k]? = some (.lst ds)) : lsD e (.ob k) = some ds := by simp [lsD, h]
theorem sqD_ob {e : Env} {k : Nat} {ds : List D} (h : e.ob[k]? = some (.lst ds)) : sqD e (.ob k) = some ds := by simp [sqD, lsD_ob h]
theorem rd_ob {e : Env} {k : Nat} {ds : List D} (h : e.ob[k]? = some (.lst ds)) : rd e (.ob k) = some (.lst ds) := by simp [rd, fzR, h]

section
variable {T : Cn} {c : BF} {e : Env} {σ : St} {F H : Hp} {ad : List Addr} {r : RV} {v : V} {d : D} {ds : List D}
theorem dv_ok (R : Rel T c e σ F H ad) (h : RvR T F ad r v) (q : dv e r = some d) : Rep T F d v := by
  cases r with
  | val d' =>
    cases q
    exact h
  | ob k =>
    unfold dv at q
    dsimp only at q
    cases hk : e.ob[k]? with
    | none =>
      rw [hk] at q
      cases q
    | some o =>
      rw [hk] at q
      cases o with
      | fz d' =>
        cases q
        obtain ⟨p, hp, rfl⟩ := h
        exact (R.ob k _ p hk hp).2
      | _ => cases q
theorem lsD_ok (R : Rel T c e σ F H ad) (h : RvR T F ad r v) (q : lsD e r = some ds) : ∃ a vs, v = .ref a ∧ Rd H a (.lst vs) ∧ RepL T F ds vs := by
  have fin : Rep T F (.lst ds) v → ∃ a vs, v = .ref a ∧ Rd H a (.lst vs) ∧ RepL T F ds vs := fun z => by
    obtain ⟨a, vs, rfl, h1, h2⟩ := rep_lst.mp z
    exact ⟨a, vs, rfl, R.fh.rd h1, h2⟩
  cases r with
  | val d' =>
    cases d' with
    | lst es =>
      cases q
      exact fin h
    | _ => cases q
  | ob k =>
    unfold lsD at q
    dsimp only at q
    cases hk : e.ob[k]? with
    | none =>
      rw [hk] at q
      cases q
    | some o =>
      rw [hk] at q
      obtain ⟨p, hp, rfl⟩ := h
      have ho := R.ob k _ p hk hp
      cases o with
      | fz d' =>
        cases d' with
        | lst es =>
          cases q
          exact fin ho.2
        | _ => cases q
      | lst es =>
        cases q
        obtain ⟨_, _, vs, h1, h2⟩ := ho
        exact ⟨p, vs, rfl, .inl h1, h2⟩
      | _ => cases q
theorem tpD_ok (R : Rel T c e σ F H ad) (h : RvR T F ad r v) (q : tpD e r = some ds) : ∃ a vs, v = .ref a ∧ SqT T.K F a vs ∧ RepL T F ds vs := by
  unfold tpD at q
  cases hd : dv e r with
  | none =>
    rw [hd] at q
    cases q
  | some d' =>
    rw [hd] at q
    cases d' with
    | tup es =>
      cases q
      exact rep_tup.mp (dv_ok R h hd)
    | _ => cases q
theorem sqD_ok (R : Rel T c e σ F H ad) (h : RvR T F ad r v) (q : sqD e r = some ds) : ∃ a vs, v = .ref a ∧ (SqL T.K H a vs ∨ SqT T.K H a vs) ∧ RepL T F ds vs := by
  unfold sqD at q
  cases hl : lsD e r with
  | some es =>
    rw [hl] at q
    cases q
    obtain ⟨a, vs, rfl, h1, h2⟩ := lsD_ok R h hl
    exact ⟨a, vs, rfl, .inl (.inl h1), h2⟩
  | none =>
    rw [hl] at q
    obtain ⟨a, vs, rfl, h1, h2⟩ := tpD_ok R h q
    exact ⟨a, vs, rfl, .inr (R.fh.sqt h1), h2⟩
theorem rd_ok (R : Rel T c e σ F H ad) (h : RvR T F ad r v) (q : rd e r = some d) : ∃ F', Ex F F' ∧ Ex F' H ∧ Rep T F' d v := by
  unfold rd at q
  cases hz : fzR 9 e.ob r with
  | none =>
    rw [hz] at q
    cases q
  | some x =>
    obtain ⟨d', ob'⟩ := x
    rw [hz] at q
    cases q
    obtain ⟨F', x1, R1, g⟩ := fzR_ok 9 (sl := e.sl) (ob := e.ob) R hz
    exact ⟨F', x1, R1.fh, g v h⟩
end

/-! ### numbers -/
section
variable {T : Cn} {X : Cx} {W : WX} {a b : Expr} {ta tb : EX} {pos : Pos}
/-- two ints to data -/
def ix2 (C : Int → Int → Prop) (g : Int → Int → D) : OX := fun e x y P => ∃ i j, dv e x = some (.int i) ∧ dv e y = some (.int j) ∧ C i j ∧ P (.val (g i j)) e
theorem ad_ix {C : Int → Int → Prop} {g : Int → Int → D} {g' : Int → Int → V} (hg : ∀ i j F, Rep T F (g i j) (g' i j)) : OpD T (rI C g') (ix2 C g) := by
  intro c F ad e σ H x y rx ry P Q rel r1 r2 h q
  obtain ⟨i, j, h1, h2, hc, hp⟩ := h
  exact ⟨i, j, rep_int.mp (dv_ok rel r1 h1), rep_int.mp (dv_ok rel r2 h2), hc, q.val rel (hg i j F) hp⟩
theorem ad_ix0 {g : Int → Int → D} {g' : Int → Int → V} (hg : ∀ i j F, Rep T F (g i j) (g' i j)) : OpD T (rI0 g') (ix2 (fun _ _ => True) g) := by
  intro c F ad e σ H x y rx ry P Q rel r1 r2 h q
  obtain ⟨i, j, h1, h2, hc, hp⟩ := h
  exact ⟨i, j, rep_int.mp (dv_ok rel r1 h1), rep_int.mp (dv_ok rel r2 h2), q.val rel (hg i j F) hp⟩
def subX : OX := ix2 (fun _ _ => True) fun i j => .int (i - j)
theorem de_sub (ha : DE T X W a ta) (hb : DE T X W b tb) : DE T X W (.BinOp a .Sub b pos) (op2 subX ta tb) := de_op op_sub (ad_ix0 fun _ _ _ => rep_int.mpr rfl) ha hb
def powX : OX := ix2 CPow fun i j => .int (i ^ j.toNat)
theorem de_pow (ha : DE T X W a ta) (hb : DE T X W b tb) : DE T X W (.BinOp a .Pow b pos) (op2 powX ta tb) := de_op op_pow (ad_ix fun _ _ _ => rep_int.mpr rfl) ha hb
def modX : OX := ix2 (fun _ j => 0 < j) fun i j => .int (i % j)
theorem de_mod (ha : DE T X W a ta) (hb : DE T X W b tb) : DE T X W (.BinOp a .Mod b pos) (op2 modX ta tb) := de_op op_mod (ad_ix fun _ _ _ => rep_int.mpr rfl) ha hb
def fdivX : OX := ix2 CDiv fun i j => .int (i / j)
theorem de_fdiv (ha : DE T X W a ta) (hb : DE T X W b tb) : DE T X W (.BinOp a .FloorDiv b pos) (op2 fdivX ta tb) := de_op op_fdiv (ad_ix fun _ _ _ => rep_int.mpr rfl) ha hb
def imulX : OX := ix2 CMul fun i j => .int (i * j)
theorem de_imul (ha : DE T X W a ta) (hb : DE T X W b tb) : DE T X W (.BinOp a .Mult b pos) (op2 imulX ta tb) := de_op op_mul (ad_ix fun _ _ _ => rep_int.mpr rfl) ha hb
def iltX : OX := ix2 (fun _ _ => True) fun i j => .bl (decide (i < j))
def ileX : OX := ix2 (fun _ _ => True) fun i j => .bl (decide (i ≤ j))
def igtX : OX := ix2 (fun _ _ => True) fun i j => .bl (decide (j < i))
def igeX : OX := ix2 (fun _ _ => True) fun i j => .bl (decide (j ≤ i))
theorem ad_lt : OpD T (rI0 fun i j => .bl (decide (i < j))) iltX := ad_ix0 fun _ _ _ => rep_bl.mpr rfl
theorem ad_le : OpD T (rI0 fun i j => .bl (decide (i ≤ j))) ileX := ad_ix0 fun _ _ _ => rep_bl.mpr rfl
theorem ad_gt : OpD T (rI0 fun i j => .bl (decide (j < i))) igtX := ad_ix0 fun _ _ _ => rep_bl.mpr rfl
theorem ad_ge : OpD T (rI0 fun i j => .bl (decide (j ≤ i))) igeX := ad_ix0 fun _ _ _ => rep_bl.mpr rfl

/-! ### + of numbers, texts, lists, tuples -/
def addX : OX := fun e x y P => (∃ i j, dv e x = some (.int i) ∧ dv e y = some (.int j) ∧ P (.val (.int (i + j))) e) ∨
  (∃ i j, dv e x = some (.str i) ∧ dv e y = some (.str j) ∧ i.length + j.length ≤ sizeLine ∧ P (.val (.str (i ++ j))) e) ∨
  (∃ i j, lsD e x = some i ∧ lsD e y = some j ∧ i.length + j.length ≤ sizeLine ∧ P (.ob e.ob.length) { e with ob := e.ob ++ [.lst (i ++ j)] }) ∨
  (∃ i j, tpD e x = some i ∧ tpD e y = some j ∧ i.length + j.length ≤ sizeLine ∧ P (.val (.tup (i ++ j))) e)
/-- list + list, whoever may write them -/
def rCatR : R2 := fun x y H Q => ∃ l b xs zs, x = .ref l ∧ y = .ref b ∧ Rd H l (.lst xs) ∧ Rd H b (.lst zs) ∧ xs.length + zs.length ≤ sizeLine ∧ ∀ p, H p = none → Q (.ref p) (upd H p (.lst (xs ++ zs)))
theorem op_catR : OpR X (binaryOp .Add) rCatR := by
  intro pins s σ H x y v u Q I rx ry h
  obtain ⟨l, b, xs, zs, rfl, rfl, hH, hB, hz, q⟩ := h
  cases rx
  cases ry
  obtain ⟨_, its, n, r, e1⟩ := hH.ok I.hok
  obtain ⟨_, its2, n2, r2, e2⟩ := hB.ok I.hok
  have l1 := r.length
  have l2 := r2.length
  refine PySem.P.add_list e1 e2 ?_ (by rw [List.size_toArray, List.size_toArray]; omega)
  rw [show its.toArray ++ its2.toArray = (its ++ its2).toArray by simp]
  exact ⟨.ref _, _, I.lnew (t' := s.toks) (r.append r2) (by rw [List.length_append]; omega), rfl, q _ I.fresh⟩
abbrev rAddD (K : PySem.W.Frag) : R2 := fun x y H Q => (rI0 (fun i j => .int (i + j))) x y H Q ∨ (fun x y H Q => (fun x y H Q => ∃ i j, x = .str i ∧ y = .str j ∧ i.length + j.length ≤ sizeLine ∧ Q (.str (i ++ j)) H : R2) x y H Q ∨
  (fun x y H Q => rCatR x y H Q ∨ rCatA K x y H Q : R2) x y H Q : R2) x y H Q
theorem op_addD : OpR X (binaryOp .Add) (rAddD X.K) := OpR.or op_add (OpR.or op_add_str (OpR.or op_catR op_catA))
theorem S_app (i j : List Nat) : S i ++ S j = S (i ++ j) := by
  show (⟨i.toArray ++ j.toArray⟩ : Str) = ⟨(i ++ j).toArray⟩
  simp
theorem ad_add {K : PySem.W.Frag} (hK : K = T.K) : OpD T (rAddD K) addX := by
  subst hK
  intro c F ad e σ H x y rx ry P Q rel r1 r2 h q
  rcases h with ⟨i, j, h1, h2, hp⟩ | ⟨i, j, h1, h2, hl, hp⟩ | ⟨i, j, h1, h2, hl, hp⟩ | ⟨i, j, h1, h2, hl, hp⟩
  · exact .inl ⟨i, j, rep_int.mp (dv_ok rel r1 h1), rep_int.mp (dv_ok rel r2 h2), q.val rel (rep_int.mpr rfl) hp⟩
  · refine .inr (.inl ⟨S i, S j, rep_str.mp (dv_ok rel r1 h1), rep_str.mp (dv_ok rel r2 h2), by rw [S_len, S_len]; exact hl, q.val rel (rep_str.mpr ?_) hp⟩)
    rw [S_app]
  · obtain ⟨a, vs, rfl, g1, g2⟩ := lsD_ok rel r1 h1
    obtain ⟨b, ws, rfl, k1, k2⟩ := lsD_ok rel r2 h2
    refine .inr (.inr (.inl ⟨a, b, vs, ws, rfl, rfl, g1, k1, by rw [g2.len, k2.len]; exact hl, fun p hp' => ?_⟩))
    exact q.new (o := .lst (i ++ j)) rel hp' (fun fp bp => ⟨fp, bp, _, upd_same, g2.append k2⟩) hp
  · obtain ⟨a, vs, rfl, g1, g2⟩ := tpD_ok rel r1 h1
    obtain ⟨b, ws, rfl, k1, k2⟩ := tpD_ok rel r2 h2
    refine .inr (.inr (.inr ⟨a, b, vs, ws, rfl, rfl, rel.fh.sqt g1, rel.fh.sqt k1, by rw [g2.len, k2.len]; exact hl, fun h0 => ?_, fun h0 h00 => ?_, fun h0 h00 p hp' => ?_⟩))
    · subst h0
      have hi : i = [] := List.eq_nil_of_length_eq_zero (by rw [← g2.len]; rfl)
      subst hi
      exact q.val rel (rep_tup.mpr ⟨b, ws, rfl, k1, k2⟩) hp
    · subst h00
      have hj : j = [] := List.eq_nil_of_length_eq_zero (by rw [← k2.len]; rfl)
      subst hj
      rw [List.append_nil] at hp
      exact q.val rel (rep_tup.mpr ⟨a, vs, rfl, g1, g2⟩) hp
    · refine q.laid rel hp' (fun x1 => ?_) hp
      exact rep_tup.mpr ⟨p, _, rfl, .inl (.inl upd_same), (g2.mono x1).append (k2.mono x1)⟩
theorem de_add (ha : DE T X W a ta) (hb : DE T X W b tb) (hK : X.K = T.K := by rfl) : DE T X W (.BinOp a .Add b pos) (op2 addX ta tb) := de_op op_addD (ad_add hK) ha hb
/-! * of a list and a number -/
def lmulX : OX := fun e x y P => ∃ i j, lsD e x = some i ∧ dv e y = some (.int j) ∧ -(2 ^ 63) ≤ j ∧ j < 2 ^ 63 ∧ i.length * j.toNat ≤ sizeLine ∧ P (.ob e.ob.length) { e with ob := e.ob ++ [.lst (List.replicate j.toNat i).flatten] }
end

/-! ### equality of data -/
mutual
def D.py : D → PyData
  | .non => .none
  | .bl b => .bool b
  | .int i => .int i
  | .str s => .str (S s)
  | .lst xs => .list (pyL xs)
  | .tup xs => .tuple (pyL xs)
  | _ => .none
def pyL : List D → List PyData
  | [] => []
  | d :: ds => d.py :: pyL ds
end
/-- data of this depth at most, without dicts and instances, its texts of signs that are ones -/
def Lay : Nat → D → Prop
  | _, .non => True
  | _, .bl _ => True
  | _, .int _ => True
  | _, .str s => ∀ c ∈ s, c < 1114112
  | n + 1, .lst xs => ∀ d ∈ xs, Lay n d
  | n + 1, .tup xs => ∀ d ∈ xs, Lay n d
  | _, _ => False
theorem strOk_S {s : List Nat} (h : ∀ c ∈ s, c < 1114112) : PyData.strOk (S s) = true := by
  show (s.toArray.all fun c => decide (c < 0x110000)) = true
  rw [Array.all_eq_true]
  intro i hi
  have h2 : s.toArray[i] ∈ s := by simp
  exact decide_eq_true (h _ h2)
theorem pyL_mem {ds : List D} {p : PyData} : p ∈ pyL ds → ∃ d ∈ ds, d.py = p := by
  induction ds with
  | nil =>
    intro h
    rw [pyL] at h
    cases h
  | cons d ds ih =>
    intro h
    rw [pyL] at h
    rcases List.mem_cons.mp h with h | h
    · exact ⟨d, List.mem_cons_self .., h.symm⟩
    · obtain ⟨x, hx, e⟩ := ih h
      exact ⟨x, List.mem_cons_of_mem _ hx, e⟩
theorem layAll_of {l : List PyData} (h : ∀ p ∈ l, p.canLay0 = true) : PyData.canLayAll0 l = true := by
  induction l with
  | nil => rfl
  | cons p l ih =>
    show (p.canLay0 && PyData.canLayAll0 l) = true
    rw [h p (List.mem_cons_self ..), ih fun q hq => h q (List.mem_cons_of_mem _ hq)]
    rfl
theorem depthAll_of {n : Nat} {l : List PyData} (h : ∀ p ∈ l, p.depth ≤ n) : PyData.depthAll l ≤ n := by
  induction l with
  | nil =>
    rw [PyData.depthAll]
    exact Nat.zero_le _
  | cons p l ih =>
    rw [PyData.depthAll]
    exact Nat.max_le.mpr ⟨h p (List.mem_cons_self ..), ih fun q hq => h q (List.mem_cons_of_mem _ hq)⟩
theorem lay_py : ∀ {n : Nat} {d : D}, Lay n d → d.py.canLay0 = true ∧ d.py.depth ≤ n
  | n, .non, _ => ⟨by rw [D.py, PyData.canLay0], by rw [D.py, PyData.depth]; exact Nat.zero_le _⟩
  | n, .bl b, _ => ⟨by rw [D.py, PyData.canLay0], by rw [D.py, PyData.depth]; exact Nat.zero_le _⟩
  | n, .int i, _ => ⟨by rw [D.py, PyData.canLay0], by rw [D.py, PyData.depth]; exact Nat.zero_le _⟩
  | n, .str s, h => ⟨by
      have h' : ∀ c ∈ s, c < 1114112 := by cases n <;> simpa [Lay] using h
      rw [D.py, PyData.canLay0]
      exact strOk_S h', by rw [D.py, PyData.depth]; exact Nat.zero_le _⟩
  | n + 1, .lst xs, h => by
    have h' : ∀ d ∈ xs, Lay n d := by simpa [Lay] using h
    have g : ∀ p ∈ pyL xs, p.canLay0 = true ∧ p.depth ≤ n := fun p hp => by
      obtain ⟨d, hd, rfl⟩ := pyL_mem hp
      exact lay_py (h' d hd)
    refine ⟨?_, ?_⟩
    · rw [D.py, PyData.canLay0]
      exact layAll_of fun p hp => (g p hp).1
    · rw [D.py, PyData.depth]
      exact Nat.succ_le_succ (depthAll_of fun p hp => (g p hp).2)
  | n + 1, .tup xs, h => by
    have h' : ∀ d ∈ xs, Lay n d := by simpa [Lay] using h
    have g : ∀ p ∈ pyL xs, p.canLay0 = true ∧ p.depth ≤ n := fun p hp => by
      obtain ⟨d, hd, rfl⟩ := pyL_mem hp
      exact lay_py (h' d hd)
    refine ⟨?_, ?_⟩
    · rw [D.py, PyData.canLay0]
      exact layAll_of fun p hp => (g p hp).1
    · rw [D.py, PyData.depth]
      exact Nat.succ_le_succ (depthAll_of fun p hp => (g p hp).2)
  | 0, .lst xs, h => by simp [Lay] at h
  | 0, .tup xs, h => by simp [Lay] at h
  | n, .dic _, h => by cases n <;> simp [Lay] at h
  | n, .ins _ _, h => by cases n <;> simp [Lay] at h
  | n, .glo _, h => by cases n <;> simp [Lay] at h
  | n, .exn _ _ _ _, h => by cases n <;> simp [Lay] at h
theorem lay_shaped {n : Nat} {d : D} (h : Lay n d) (hn : n ≤ 64) : SeqAt.shaped d.py = true := by
  obtain ⟨h1, h2⟩ := lay_py h
  unfold SeqAt.shaped
  rw [h1, decide_eq_true (Nat.le_trans h2 hn)]
  rfl
section
variable {T : Cn} {F H : Hp}
theorem dp_of : ∀ {n : Nat} {d : D} {v : V}, Lay n d → Rep T F d v → Ex F H → Dp T.K H v d.py
  | n, .non, v, _, h, _ => by rw [rep_non.mp h, D.py]; exact .non
  | n, .bl b, v, _, h, _ => by rw [rep_bl.mp h, D.py]; exact .bl b
  | n, .int i, v, _, h, _ => by rw [rep_int.mp h, D.py]; exact .int i
  | n, .str s, v, _, h, _ => by rw [rep_str.mp h, D.py]; exact .str _
  | n + 1, .lst xs, v, l, h, x => by
    have l' : ∀ d ∈ xs, Lay n d := by simpa [Lay] using l
    obtain ⟨a, vs, rfl, h1, h2⟩ := rep_lst.mp h
    rw [D.py]
    refine .lst (.inl (x.rd h1)) ?_
    clear l h h1
    induction xs generalizing vs with
    | nil =>
      rw [repL_nil.mp h2, pyL]
      exact .nil
    | cons d ds ih =>
      obtain ⟨v, r, rfl, g1, g2⟩ := repL_cons.mp h2
      rw [pyL]
      exact .cons (dp_of (l' d (List.mem_cons_self ..)) g1 x) (ih (fun d' hd => l' d' (List.mem_cons_of_mem _ hd)) r g2)
  | n + 1, .tup xs, v, l, h, x => by
    have l' : ∀ d ∈ xs, Lay n d := by simpa [Lay] using l
    obtain ⟨a, vs, rfl, h1, h2⟩ := rep_tup.mp h
    rw [D.py]
    refine .tup (x.sqt h1) ?_
    clear l h h1
    induction xs generalizing vs with
    | nil =>
      rw [repL_nil.mp h2, pyL]
      exact .nil
    | cons d ds ih =>
      obtain ⟨v, r, rfl, g1, g2⟩ := repL_cons.mp h2
      rw [pyL]
      exact .cons (dp_of (l' d (List.mem_cons_self ..)) g1 x) (ih (fun d' hd => l' d' (List.mem_cons_of_mem _ hd)) r g2)
  | 0, .lst xs, _, l, _, _ => by simp [Lay] at l
  | 0, .tup xs, _, l, _, _ => by simp [Lay] at l
  | n, .dic _, _, l, _, _ => by cases n <;> simp [Lay] at l
  | n, .ins _ _, _, l, _, _ => by cases n <;> simp [Lay] at l
  | n, .glo _, _, l, _, _ => by cases n <;> simp [Lay] at l
  | n, .exn _ _ _ _, _, l, _, _ => by cases n <;> simp [Lay] at l
end
/-- Python's == of data -/
def eqv (a b : D) : Bool := PyData.eqv a.py b.py
section
variable {T : Cn} {X : Cx} {W : WX} {a b : Expr} {ta tb : EX} {pos : Pos}
def eqX (neg : Bool) : OX := fun e x y P => (∃ i j, rd e x = some i ∧ rd e y = some j ∧ Lay 60 i ∧ Lay 60 j ∧ P (.val (.bl (if neg then !eqv i j else eqv i j))) e) ∨
  (∃ i j, dv e x = some (.str i) ∧ dv e y = some (.str j) ∧ P (.val (.bl (if neg then !decide (i = j) else decide (i = j)))) e)
theorem dec_S (i j : List Nat) : decide (V.str (S i) = V.str (S j)) = decide (i = j) := by
  rw [Bool.eq_iff_iff, decide_eq_true_eq, decide_eq_true_eq]
  exact ⟨fun h => S_inj (V.str.inj h), fun h => by rw [h]⟩
theorem ad_eq {K : PySem.W.Frag} (hK : K = T.K) : OpD T (fun x y H Q => rEqD K x y H Q ∨ rEq x y H Q) (eqX false) := by
  subst hK
  intro c F ad e σ H x y rx ry P Q rel r1 r2 h q
  rcases h with ⟨i, j, h1, h2, l1, l2, hp⟩ | ⟨i, j, h1, h2, hp⟩
  · obtain ⟨F1, _, x1, g1⟩ := rd_ok rel r1 h1
    obtain ⟨F2, _, x2, g2⟩ := rd_ok rel r2 h2
    exact .inl ⟨i.py, j.py, dp_of l1 g1 x1, dp_of l2 g2 x2, lay_shaped l1 (by decide), lay_shaped l2 (by decide), q.val rel (rep_bl.mpr rfl) hp⟩
  · obtain rfl := rep_str.mp (dv_ok rel r1 h1)
    obtain rfl := rep_str.mp (dv_ok rel r2 h2)
    exact .inr ⟨rfl, by rw [dec_S]; exact q.val rel (rep_bl.mpr rfl) hp⟩
theorem ad_ne {K : PySem.W.Frag} (hK : K = T.K) : OpD T (fun x y H Q => rNeD K x y H Q ∨ rNe x y H Q) (eqX true) := by
  subst hK
  intro c F ad e σ H x y rx ry P Q rel r1 r2 h q
  rcases h with ⟨i, j, h1, h2, l1, l2, hp⟩ | ⟨i, j, h1, h2, hp⟩
  · obtain ⟨F1, _, x1, g1⟩ := rd_ok rel r1 h1
    obtain ⟨F2, _, x2, g2⟩ := rd_ok rel r2 h2
    exact .inl ⟨i.py, j.py, dp_of l1 g1 x1, dp_of l2 g2 x2, lay_shaped l1 (by decide), lay_shaped l2 (by decide), q.val rel (rep_bl.mpr rfl) hp⟩
  · obtain rfl := rep_str.mp (dv_ok rel r1 h1)
    obtain rfl := rep_str.mp (dv_ok rel r2 h2)
    exact .inr ⟨rfl, by rw [dec_S]; exact q.val rel (rep_bl.mpr rfl) hp⟩
theorem de_eq (hu : U X) (ha : DE T X W a ta) (hb : DE T X W b tb) (hK : X.K = T.K := by rfl) : DE T X W (.Compare a [.Eq] [b] pos) (op2 (eqX false) ta tb) := de_cmp (OpR.or (op_eqD (u64 hu)) op_eq) (ad_eq hK) ha hb
theorem de_ne (hu : U X) (ha : DE T X W a ta) (hb : DE T X W b tb) (hK : X.K = T.K := by rfl) : DE T X W (.Compare a [.NotEq] [b] pos) (op2 (eqX true) ta tb) := de_cmp (OpR.or (op_neD (u64 hu)) op_ne) (ad_ne hK) ha hb
theorem dt_eq (hu : U X) (ha : DE T X W a ta) (hb : DE T X W b tb) (hK : X.K = T.K := by rfl) : DT T X W (.Compare a [.Eq] [b] pos) (tVal (op2 (eqX false) ta tb)) := dt_cmp (OpR.or (op_eqD (u64 hu)) op_eq) (ad_eq hK) ha hb
theorem dt_ne (hu : U X) (ha : DE T X W a ta) (hb : DE T X W b tb) (hK : X.K = T.K := by rfl) : DT T X W (.Compare a [.NotEq] [b] pos) (tVal (op2 (eqX true) ta tb)) := dt_cmp (OpR.or (op_neD (u64 hu)) op_ne) (ad_ne hK) ha hb
end
end DL
end
section
set_option Elab.async false
set_option linter.all false
set_option autoImplicit false
set_option maxRecDepth 100000
set_option maxHeartbeats 2000000
/-! DLD: in, is, subscripts, slices, displays, arguments, built-in functions and methods by data. -/
namespace DL
open PySem PySem.Spec L2
section
variable {T : Cn} {X : Cx} {W : WX} {a b : Expr} {ta tb : EX} {pos : Pos}
/-! ### is None -/
def D.isN : D → Bool
  | .non => true
  | _ => false
def isNX (neg : Bool) (ta : EX) : EX := fun e P R => ta e (fun r e1 => ∃ d, dv e1 r = some d ∧ P (.val (.bl (if neg then !d.isN else d.isN))) e1) R
theorem non_iff {F : Hp} {d : D} {v : V} (h : Rep T F d v) : decide (v = .non) = d.isN := by
  cases d with
  | non => rw [rep_non.mp h]; rfl
  | bl b => rw [rep_bl.mp h]; rfl
  | int i => rw [rep_int.mp h]; rfl
  | str s => rw [rep_str.mp h]; rfl
  | lst xs => obtain ⟨a, vs, rfl, _⟩ := rep_lst.mp h; rfl
  | tup xs => obtain ⟨a, vs, rfl, _⟩ := rep_tup.mp h; rfl
  | dic kvs => obtain ⟨a, rfl, _⟩ := rep_dic.mp h; rfl
  | ins c fs => obtain ⟨a, C, dx, gs, rfl, _⟩ := rep_ins.mp h; rfl
  | glo x => obtain ⟨a, rfl, _⟩ := rep_glo.mp h; rfl
  | exn a dd c fs => obtain ⟨rfl, _⟩ := rep_exn.mp h; rfl
theorem de_isN {j : Nat} {p2 : Pos} (ha : DE T X W a ta) : DE T X W (.Compare a [.Is] [.Constant .none j p2] pos) (isNX false ta) := ⟨PE.imp (pe_cmp (pc_isN ha.pe) rfl) fun σ H Q h => by
  obtain ⟨c, F, ad, e, P, R, rel, q, hq, hx⟩ := h
  refine ⟨c, F, ad, e, _, R, rel, q, fun v H1 F1 ad1 e1 r x1 p1 rel1 r1 q1 => ?_, hx⟩
  obtain ⟨d, hd, q2⟩ := q1
  rw [non_iff (dv_ok rel1 r1 hd)]
  exact (hq.mono x1 p1).val rel1 (rep_bl.mpr rfl) q2⟩
theorem de_notN {j : Nat} {p2 : Pos} (ha : DE T X W a ta) : DE T X W (.Compare a [.IsNot] [.Constant .none j p2] pos) (isNX true ta) := ⟨PE.imp (pe_cmp (pc_notN ha.pe) rfl) fun σ H Q h => by
  obtain ⟨c, F, ad, e, P, R, rel, q, hq, hx⟩ := h
  refine ⟨c, F, ad, e, _, R, rel, q, fun v H1 F1 ad1 e1 r x1 p1 rel1 r1 q1 => ?_, hx⟩
  obtain ⟨d, hd, q2⟩ := q1
  rw [non_iff (dv_ok rel1 r1 hd)]
  exact (hq.mono x1 p1).val rel1 (rep_bl.mpr rfl) q2⟩
theorem dt_isN {j : Nat} {p2 : Pos} (ha : DE T X W a ta) : DT T X W (.Compare a [.Is] [.Constant .none j p2] pos) (tVal (isNX false ta)) := ⟨PT.imp (pt_cmp (pc_isN ha.pe) rfl) fun σ H Q h => by
  obtain ⟨c, F, ad, e, P, R, rel, q, hq, hx⟩ := h
  refine ⟨c, F, ad, e, _, R, rel, q, fun v H1 F1 ad1 e1 r x1 p1 rel1 r1 q1 => ?_, hx⟩
  obtain ⟨d, hd, k, ek, q2⟩ := q1
  refine ⟨_, rfl, ?_⟩
  rw [non_iff (dv_ok rel1 r1 hd)]
  have e2 : D.bl d.isN = D.bl k := RV.val.inj ek
  rw [D.bl.inj e2]
  exact hq k H1 F1 ad1 e1 x1 p1 rel1 q2⟩
theorem dt_notN {j : Nat} {p2 : Pos} (ha : DE T X W a ta) : DT T X W (.Compare a [.IsNot] [.Constant .none j p2] pos) (tVal (isNX true ta)) := ⟨PT.imp (pt_cmp (pc_notN ha.pe) rfl) fun σ H Q h => by
  obtain ⟨c, F, ad, e, P, R, rel, q, hq, hx⟩ := h
  refine ⟨c, F, ad, e, _, R, rel, q, fun v H1 F1 ad1 e1 r x1 p1 rel1 r1 q1 => ?_, hx⟩
  obtain ⟨d, hd, k, ek, q2⟩ := q1
  refine ⟨_, rfl, ?_⟩
  rw [non_iff (dv_ok rel1 r1 hd)]
  have e2 : D.bl (!d.isN) = D.bl k := RV.val.inj ek
  rw [D.bl.inj e2]
  exact hq k H1 F1 ad1 e1 x1 p1 rel1 q2⟩

/-! ### in -/
def items : D → Option (List D)
  | .lst xs => some xs
  | .tup xs => some xs
  | _ => none
def inX (neg : Bool) : OX := fun e x y P => (∃ c z, dv e x = some (.str [c]) ∧ dv e y = some (.str z) ∧ P (.val (.bl (if neg then !decide (c ∈ z) else decide (c ∈ z)))) e) ∨
  (∃ i d js, rd e x = some i ∧ rd e y = some d ∧ items d = some js ∧ Lay 59 i ∧ (∀ j ∈ js, Lay 59 j) ∧ P (.val (.bl (if neg then !js.any (fun z => eqv z i) else js.any (fun z => eqv z i)))) e)
def rInTD (K : PySem.W.Frag) (neg : Bool) : R2 := fun x y H Q => ∃ d ds, Dp K H x d ∧ Dp K H y (.tuple ds) ∧ SeqAt.shaped d = true ∧ SeqAt.shaped (.tuple ds) = true ∧ Q (.bl (if neg then !ds.any (fun z => PyData.eqv z d) else ds.any (fun z => PyData.eqv z d))) H
theorem room_in {A : Around} {d : PyData} {ds : List PyData} (h : SeqAt.shaped d = true) (hu : A.units + 65 < cLine) : A.units + 1 + min (PyData.depthAll ds) d.depth < cLine := by
  have h1 := SeqAt.depth_of_shaped h
  have h2 : min (PyData.depthAll ds) d.depth ≤ d.depth := Nat.min_le_right _ _
  omega
theorem op_inTD (hu : X.A.units + 65 < cLine) : OpR X (compareOp .In) (rInTD X.K false) := by
  intro pins s σ H x y v u Q I rx ry h
  obtain ⟨d, ds, hd, he, sd, se, q⟩ := h
  obtain ⟨as, r1⟩ := Dp.reads I d x v hd rx
  obtain ⟨bs, r2⟩ := Dp.reads I (.tuple ds) y u he ry
  exact SeqAt.in_tuple_reads r2 r1 (SeqAt.canLay_of_shaped se) (SeqAt.canLay_of_shaped sd) (room_in sd hu) ⟨.bl _, H, I, rfl, q⟩
theorem op_notInTD (hu : X.A.units + 65 < cLine) : OpR X (compareOp .NotIn) (rInTD X.K true) := by
  intro pins s σ H x y v u Q I rx ry h
  obtain ⟨d, ds, hd, he, sd, se, q⟩ := h
  obtain ⟨as, r1⟩ := Dp.reads I d x v hd rx
  obtain ⟨bs, r2⟩ := Dp.reads I (.tuple ds) y u he ry
  exact SeqAt.notIn_tuple_reads r2 r1 (SeqAt.canLay_of_shaped se) (SeqAt.canLay_of_shaped sd) (room_in sd hu) ⟨.bl _, H, I, rfl, q⟩
abbrev rInA (K : PySem.W.Frag) : R2 := fun x y H Q => (fun x y H Q => ∃ (c : Nat) (z : Str), x = .str ⟨#[c]⟩ ∧ y = .str z ∧ Q (.bl (decide (c ∈ z.cps.toList))) H : R2) x y H Q ∨ (fun x y H Q => rInD K x y H Q ∨ rInTD K false x y H Q : R2) x y H Q
abbrev rNinA (K : PySem.W.Frag) : R2 := fun x y H Q => (fun x y H Q => ∃ (c : Nat) (z : Str), x = .str ⟨#[c]⟩ ∧ y = .str z ∧ Q (.bl (!decide (c ∈ z.cps.toList))) H : R2) x y H Q ∨ (fun x y H Q => rNotInD K x y H Q ∨ rInTD K true x y H Q : R2) x y H Q
theorem op_inA (hu : U X) : OpR X (compareOp .In) (rInA X.K) := OpR.or op_in_sign (OpR.or (op_inD (u65 hu)) (op_inTD (u65 hu)))
theorem op_ninA (hu : U X) : OpR X (compareOp .NotIn) (rNinA X.K) := OpR.or op_notIn_sign (OpR.or (op_notInD (u65 hu)) (op_notInTD (u65 hu)))
theorem pyL_any (js : List D) (i : D) : ((pyL js).any fun z => PyData.eqv z i.py) = js.any fun z => eqv z i := by
  induction js with
  | nil => rw [pyL]; rfl
  | cons d ds ih =>
    rw [pyL, List.any_cons, List.any_cons, ih]
    rfl
theorem lay_lst {n : Nat} {js : List D} (h : ∀ j ∈ js, Lay n j) : Lay (n + 1) (.lst js) := by unfold Lay; exact h
theorem lay_tup {n : Nat} {js : List D} (h : ∀ j ∈ js, Lay n j) : Lay (n + 1) (.tup js) := by unfold Lay; exact h
theorem ad_in {K : PySem.W.Frag} (hK : K = T.K) : OpD T (rInA K) (inX false) := by
  subst hK
  intro c F ad e σ H x y rx ry P Q rel r1 r2 h q
  rcases h with ⟨k, z, h1, h2, hp⟩ | ⟨i, d, js, h1, h2, h3, l1, l2, hp⟩
  · exact .inl ⟨k, S z, rep_str.mp (dv_ok rel r1 h1), rep_str.mp (dv_ok rel r2 h2), q.val rel (rep_bl.mpr rfl) hp⟩
  · obtain ⟨F1, _, x1, g1⟩ := rd_ok rel r1 h1
    obtain ⟨F2, _, x2, g2⟩ := rd_ok rel r2 h2
    have d1 := dp_of l1 g1 x1
    cases d with
    | lst xs =>
      cases h3
      have d2 := dp_of (lay_lst l2) g2 x2
      rw [D.py] at d2
      refine .inr (.inl ⟨i.py, pyL js, d1, d2, lay_shaped l1 (by decide), ?_, ?_⟩)
      · have := lay_shaped (lay_lst l2) (by decide)
        rwa [D.py] at this
      · rw [pyL_any]
        exact q.val rel (rep_bl.mpr rfl) hp
    | tup xs =>
      cases h3
      have d2 := dp_of (lay_tup l2) g2 x2
      rw [D.py] at d2
      refine .inr (.inr ⟨i.py, pyL js, d1, d2, lay_shaped l1 (by decide), ?_, ?_⟩)
      · have := lay_shaped (lay_tup l2) (by decide)
        rwa [D.py] at this
      · rw [pyL_any]
        exact q.val rel (rep_bl.mpr rfl) hp
    | _ => cases h3
theorem ad_nin {K : PySem.W.Frag} (hK : K = T.K) : OpD T (rNinA K) (inX true) := by
  subst hK
  intro c F ad e σ H x y rx ry P Q rel r1 r2 h q
  rcases h with ⟨k, z, h1, h2, hp⟩ | ⟨i, d, js, h1, h2, h3, l1, l2, hp⟩
  · exact .inl ⟨k, S z, rep_str.mp (dv_ok rel r1 h1), rep_str.mp (dv_ok rel r2 h2), q.val rel (rep_bl.mpr rfl) hp⟩
  · obtain ⟨F1, _, x1, g1⟩ := rd_ok rel r1 h1
    obtain ⟨F2, _, x2, g2⟩ := rd_ok rel r2 h2
    have d1 := dp_of l1 g1 x1
    cases d with
    | lst xs =>
      cases h3
      have d2 := dp_of (lay_lst l2) g2 x2
      rw [D.py] at d2
      refine .inr (.inl ⟨i.py, pyL js, d1, d2, lay_shaped l1 (by decide), ?_, ?_⟩)
      · have := lay_shaped (lay_lst l2) (by decide)
        rwa [D.py] at this
      · rw [pyL_any]
        exact q.val rel (rep_bl.mpr rfl) hp
    | tup xs =>
      cases h3
      have d2 := dp_of (lay_tup l2) g2 x2
      rw [D.py] at d2
      refine .inr (.inr ⟨i.py, pyL js, d1, d2, lay_shaped l1 (by decide), ?_, ?_⟩)
      · have := lay_shaped (lay_tup l2) (by decide)
        rwa [D.py] at this
      · rw [pyL_any, if_pos rfl]
        exact q.val rel (rep_bl.mpr rfl) hp
    | _ => cases h3
theorem de_in (hu : U X) (ha : DE T X W a ta) (hb : DE T X W b tb) (hK : X.K = T.K := by rfl) (hm : behindInMarks .In b = false := by rfl) : DE T X W (.Compare a [.In] [b] pos) (op2 (inX false) ta tb) := de_cmp (op_inA hu) (ad_in hK) ha hb hm
theorem de_nin (hu : U X) (ha : DE T X W a ta) (hb : DE T X W b tb) (hK : X.K = T.K := by rfl) (hm : behindInMarks .NotIn b = false := by rfl) : DE T X W (.Compare a [.NotIn] [b] pos) (op2 (inX true) ta tb) := de_cmp (op_ninA hu) (ad_nin hK) ha hb hm
theorem dt_in (hu : U X) (ha : DE T X W a ta) (hb : DE T X W b tb) (hK : X.K = T.K := by rfl) (hm : behindInMarks .In b = false := by rfl) : DT T X W (.Compare a [.In] [b] pos) (tVal (op2 (inX false) ta tb)) := dt_cmp (op_inA hu) (ad_in hK) ha hb hm
theorem dt_nin (hu : U X) (ha : DE T X W a ta) (hb : DE T X W b tb) (hK : X.K = T.K := by rfl) (hm : behindInMarks .NotIn b = false := by rfl) : DT T X W (.Compare a [.NotIn] [b] pos) (tVal (op2 (inX true) ta tb)) := dt_cmp (op_ninA hu) (ad_nin hK) ha hb hm

/-! ### subscripts -/
def ixX : OX := fun e x y P => (∃ ds i d, sqD e x = some ds ∧ dv e y = some (.int i) ∧ atI ds i = some d ∧ P (.val d) e) ∨
  (∃ s i k, dv e x = some (.str s) ∧ dv e y = some (.int i) ∧ s.length ≤ sizeLine ∧ atI s i = some k ∧ P (.val (.str [k])) e)
theorem RepL.atI {F : Hp} {ds : List D} {vs : List V} {i : Int} {d : D} (h : RepL T F ds vs) (q : L2.atI ds i = some d) : ∃ v, L2.atI vs i = some v ∧ Rep T F d v := by
  unfold L2.atI at q ⊢
  rw [h.len]
  cases hx : ixN ds.length i with
  | none =>
    rw [hx] at q
    cases q
  | some j =>
    rw [hx] at q
    exact h.get q
theorem ad_ix3 {K : PySem.W.Frag} (hK : K = T.K) : OpD T (rIx K) ixX := by
  subst hK
  intro c F ad e σ H x y rx ry P Q rel r1 r2 h q
  rcases h with ⟨ds, i, d, h1, h2, h3, hp⟩ | ⟨s, i, k, h1, h2, hl, h3, hp⟩
  · obtain ⟨a, vs, rfl, g1, g2⟩ := sqD_ok rel r1 h1
    obtain ⟨w, hw, rw⟩ := g2.atI h3
    rcases g1 with g1 | g1
    · exact .inl ⟨a, vs, i, w, rfl, rep_int.mp (dv_ok rel r2 h2), g1, hw, q.val rel rw hp⟩
    · exact .inr (.inl ⟨a, vs, i, w, rfl, rep_int.mp (dv_ok rel r2 h2), g1, hw, q.val rel rw hp⟩)
  · exact .inr (.inr ⟨S s, i, k, rep_str.mp (dv_ok rel r1 h1), rep_int.mp (dv_ok rel r2 h2), by rw [S_len]; exact hl, h3, q.val rel (rep_str.mpr rfl) hp⟩)
theorem de_ix (ha : DE T X W a ta) (hb : DE T X W b tb) (hK : X.K = T.K := by rfl) (hs : PlainIx b := by exact fun _ _ => rfl) : DE T X W (.Subscript a b pos) (op2 ixX ta tb) := ⟨PE.imp (pe_ix ix_seq ha.pe hb.pe hs) fun σ H Q h => le2 (ad_ix3 hK) h⟩

/-! ### slices -/
abbrev PX := Env → (Option Int → Env → Prop) → (Xc → Env → Prop) → Prop
def LO (T : Cn) (W : WX) (t : PX) : TO := fun σ H Q => ∃ c F ad e P R, Rel T c e σ F H ad ∧ t e P R ∧
  (∀ o H' F' ad' e', Ex F F' → Px ad ad' → Rel T c e' σ F' H' ad' → P o e' → Q o H') ∧ XL T c W F ad R
structure DO (T : Cn) (X : Cx) (W : WX) (e : Option Expr) (t : PX) : Prop where
  po : PO X e (LO T W t)
def pNone : PX := fun e P _ => P none e
def pSome (t : EX) : PX := fun e P R => t e (fun r e1 => ∃ i, dv e1 r = some (.int i) ∧ P (some i) e1) R
theorem do_none : DO T X W none pNone := ⟨⟨fun pins s σ H Q I h => po_none.run pins s σ H Q I (by
  obtain ⟨c, F, ad, e, P, R, rel, q, hq, hx⟩ := h
  exact hq none H F ad e (Ex.refl F) (Px.refl ad) rel q)⟩⟩
theorem do_some (ha : DE T X W a ta) : DO T X W (some a) (pSome ta) := ⟨⟨fun pins s σ H Q I h => (po_some ha.pe).run pins s σ H Q I (by
  obtain ⟨c, F, ad, e, P, R, rel, q, hq, hx⟩ := h
  refine ⟨c, F, ad, e, _, R, rel, q, fun v H1 F1 ad1 e1 r x1 p1 rel1 r1 q1 => ?_, hx⟩
  obtain ⟨i, hi, q2⟩ := q1
  exact ⟨i, rep_int.mp (dv_ok rel1 r1 hi), hq (some i) H1 F1 ad1 e1 x1 p1 rel1 q2⟩)⟩⟩
/-- xs[lo:hi] -/
def cut {α : Type} (xs : List α) (lo hi : Option Int) : List α := (xs.drop (HT.sIx xs.length 0 lo)).take (HT.sIx xs.length xs.length hi - HT.sIx xs.length 0 lo)
def slX : Env → RV → Option Int → Option Int → (RV → Env → Prop) → Prop := fun e x lo hi P => (∃ ds, lsD e x = some ds ∧ P (.ob e.ob.length) { e with ob := e.ob ++ [.lst (cut ds lo hi)] }) ∨
  (∃ ds, tpD e x = some ds ∧ P (.val (.tup (cut ds lo hi))) e) ∨ (∃ s, dv e x = some (.str s) ∧ s.length ≤ sizeLine ∧ P (.val (.str (cut s lo hi))) e)
def eSl (ta : EX) (tl th : PX) : EX := fun e P R => ta e (fun x e1 => tl e1 (fun lo e2 => th e2 (fun hi e3 => slX e3 x lo hi P) R) R) R
abbrev rSl3 (K : PySem.W.Frag) : V → Option Int → Option Int → Hp → VK → Prop := fun x lo hi H Q => rSlL K x lo hi H Q ∨ (fun x lo hi H Q => rSlA K x lo hi H Q ∨ rSlS x lo hi H Q : V → Option Int → Option Int → Hp → VK → Prop) x lo hi H Q
theorem sl_3 : SlR X (rSl3 X.K) := SlR.or sl_list (SlR.or sl_tupA sl_str)
theorem RepL.cut {F : Hp} {ds : List D} {vs : List V} (h : RepL T F ds vs) (lo hi : Option Int) : RepL T F (DL.cut ds lo hi) (cutV vs lo hi) := by
  unfold DL.cut cutV
  rw [h.len]
  exact (h.drop _).take _
theorem de_sl {lo hi : Option Expr} {tl th : PX} {p2 : Pos} (ha : DE T X W a ta) (hl : DO T X W lo tl) (hh : DO T X W hi th) (hK : X.K = T.K := by rfl) : DE T X W (.Subscript a (.Slice lo hi none p2) pos) (eSl ta tl th) := ⟨PE.imp (pe_slice sl_3 ha.pe hl.po hh.po) fun σ H Q h => by
  obtain ⟨c, F, ad, e, P, R, rel, q, hq, hx⟩ := h
  refine ⟨c, F, ad, e, _, R, rel, q, fun v H1 F1 ad1 e1 r x1 p1 rel1 r1 q1 => ?_, hx⟩
  refine ⟨c, F1, ad1, e1, _, R, rel1, q1, fun lo H2 F2 ad2 e2 x2 p2 rel2 q2 => ?_, hx.mono x1 p1⟩
  refine ⟨c, F2, ad2, e2, _, R, rel2, q2, fun hi H3 F3 ad3 e3 x3 p3 rel3 q3 => ?_, hx.mono (x1.trans x2) (p1.trans p2)⟩
  have r3 := r1.mono (x2.trans x3) (p2.trans p3)
  have hq3 := hq.mono ((x1.trans x2).trans x3) ((p1.trans p2).trans p3)
  rw [hK]
  rcases q3 with ⟨ds, h1, hp⟩ | ⟨ds, h1, hp⟩ | ⟨s, h1, hl, hp⟩
  · obtain ⟨a, vs, rfl, g1, g2⟩ := lsD_ok rel3 r3 h1
    exact .inl ⟨a, vs, rfl, .inl g1, fun p hp' => hq3.new (o := .lst (cut ds lo hi)) rel3 hp' (fun fp bp => ⟨fp, bp, _, upd_same, g2.cut lo hi⟩) hp⟩
  · obtain ⟨a, vs, rfl, g1, g2⟩ := tpD_ok rel3 r3 h1
    refine .inr (.inl ⟨a, vs, rfl, rel3.fh.sqt g1, fun hw => ?_, fun _ p hp' => ?_⟩)
    · have e0 : cut ds lo hi = ds := by
        unfold cut
        rw [← g2.len, hw.1, hw.2, List.drop_zero, Nat.sub_zero, g2.len, List.take_length]
      rw [e0] at hp
      exact hq3.val rel3 (rep_tup.mpr ⟨a, vs, rfl, g1, g2⟩) hp
    · exact hq3.laid rel3 hp' (fun x1 => rep_tup.mpr ⟨p, _, rfl, .inl (.inl upd_same), (g2.cut lo hi).mono x1⟩) hp
  · refine .inr (.inr ⟨S s, rep_str.mp (dv_ok rel3 r3 h1), by rw [S_len]; exact hl, hq3.val rel3 (rep_str.mpr ?_) hp⟩)
    unfold cutS cut
    rw [S_len]
    rfl⟩

/-! ### arguments, displays -/
def aNil : AX := fun e P _ => P [] e
def aCons (t : EX) (u : AX) : AX := fun e P R => t e (fun r e1 => u e1 (fun rs e2 => P (r :: rs) e2) R) R
theorem da_nil : DA T X W [] aNil := ⟨PA.imp pa_nil fun σ H Q h => by
  obtain ⟨c, F, ad, e, P, R, rel, q, hq, hx⟩ := h
  exact hq [] H F ad e [] (Ex.refl F) (Px.refl ad) rel rfl q, fun _ => rfl, fun _ _ h => nomatch h⟩
theorem da_cons {es : List Expr} {u : AX} (ha : DE T X W a ta) (hr : DA T X W es u) (hs : starEach (a :: es) X.env = (false, eval a X.env) :: starEach es X.env := by rfl) : DA T X W (a :: es) (aCons ta u) := ⟨PA.imp (pa_cons ha.pe hr.pa hs) fun σ H Q h => by
  obtain ⟨c, F, ad, e, P, R, rel, q, hq, hx⟩ := h
  refine ⟨c, F, ad, e, _, R, rel, q, fun v H1 F1 ad1 e1 r x1 p1 rel1 r1 q1 => ?_, hx⟩
  refine ⟨c, F1, ad1, e1, _, R, rel1, q1, fun vs H2 F2 ad2 e2 rs x2 p2 rel2 r2 q2 => ?_, hx.mono x1 p1⟩
  exact hq (v :: vs) H2 F2 ad2 e2 (r :: rs) (x1.trans x2) (p1.trans p2) rel2 ⟨v, vs, rfl, r1.mono x2 p2, r2⟩ q2, fun pos => by
    rw [hs]
    exact hr.hpl pos, fun a' r' h => by
    cases h
    exact ⟨hs, hr.hpl⟩⟩
/-- all of them data -/
def allD (e : Env) : List RV → Option (List D)
  | [] => some []
  | r :: rs => match dv e r with
    | some d => (match allD e rs with
      | some ds => some (d :: ds)
      | none => none)
    | none => none
@[simp] theorem allD_nil (e : Env) : allD e [] = some [] := rfl
@[simp] theorem allD_val (e : Env) (d : D) (rs : List RV) : allD e (.val d :: rs) = (match allD e rs with | some ds => some (d :: ds) | none => none) := rfl
theorem allD_ok {c : BF} {e : Env} {σ : St} {F H : Hp} {ad : List Addr} (R : Rel T c e σ F H ad) : ∀ {rs : List RV} {vs : List V} {ds : List D}, RvL T F ad rs vs → allD e rs = some ds → RepL T F ds vs
  | [], vs, ds, h, q => by
    cases q
    exact repL_nil.mpr h
  | r :: rs, vs, ds, h, q => by
    obtain ⟨v, w, rfl, h1, h2⟩ := h
    unfold allD at q
    cases hd : dv e r with
    | none =>
      rw [hd] at q
      cases q
    | some d =>
      rw [hd] at q
      dsimp only at q
      cases hs : allD e rs with
      | none =>
        rw [hs] at q
        cases q
      | some es =>
        rw [hs] at q
        cases q
        exact RepL.cons (dv_ok R h1 hd) (allD_ok R h2 hs)
/-- [..]; (..): data where all of it is data -/
def eLst (t : AX) : EX := fun e P R => t e (fun rs e1 => rs.length ≤ sizeLine ∧ P (.ob e1.ob.length) { e1 with ob := e1.ob ++ [match allD e1 rs with | some ds => .lst ds | none => .lsr rs] }) R
def eTup (t : AX) : EX := fun e P R => t e (fun rs e1 => rs.length ≤ sizeLine ∧ match allD e1 rs with
  | some ds => P (.val (.tup ds)) e1
  | none => P (.ob e1.ob.length) { e1 with ob := e1.ob ++ [.tpr rs] }) R
theorem de_lst {es : List Expr} {u : AX} (h : DA T X W es u) : DE T X W (.List es pos) (eLst u) := ⟨PE.imp (pe_lst h.pa) fun σ H Q h => by
  obtain ⟨c, F, ad, e, P, R, rel, q, hq, hx⟩ := h
  refine ⟨c, F, ad, e, _, R, rel, q, fun vs H1 F1 ad1 e1 rs x1 p1 rel1 r1 q1 => ?_, hx⟩
  obtain ⟨hl, q2⟩ := q1
  refine ⟨by rw [r1.len]; exact hl, fun p hp => ?_⟩
  cases hd : allD e1 rs with
  | some ds =>
    rw [hd] at q2
    exact (hq.mono x1 p1).new (o := .lst ds) rel1 hp (fun fp bp => ⟨fp, bp, _, upd_same, allD_ok rel1 r1 hd⟩) q2
  | none =>
    rw [hd] at q2
    exact (hq.mono x1 p1).new (o := .lsr rs) rel1 hp (fun fp bp => ⟨fp, bp, _, upd_same, r1.mono (Ex.refl F1) (Px.push ad1 p)⟩) q2⟩
theorem de_tup {es : List Expr} {u : AX} {k : Nat} (h : DA T X W es u) : DE T X W (.Tuple es k pos) (eTup u) := ⟨PE.imp (pe_tup h.pa) fun σ H Q h => by
  obtain ⟨c, F, ad, e, P, R, rel, q, hq, hx⟩ := h
  refine ⟨c, F, ad, e, _, R, rel, q, fun vs H1 F1 ad1 e1 rs x1 p1 rel1 r1 q1 => ?_, hx⟩
  obtain ⟨hl, q2⟩ := q1
  refine ⟨by rw [r1.len]; exact hl, fun p hp => ?_⟩
  cases hd : allD e1 rs with
  | some ds =>
    rw [hd] at q2
    exact (hq.mono x1 p1).laid rel1 hp (fun x => rep_tup.mpr ⟨p, _, rfl, .inl (.inl upd_same), (allD_ok rel1 r1 hd).mono x⟩) q2
  | none =>
    rw [hd] at q2
    exact (hq.mono x1 p1).new (o := .tpr rs) rel1 hp (fun fp bp => ⟨fp, bp, _, upd_same, r1.mono (Ex.refl F1) (Px.push ad1 p)⟩) q2⟩

/-! ### built-in functions -/
abbrev BX := Env → List RV → (RV → Env → Prop) → Prop
def CaD (T : Cn) (r : List V → Hp → VK → Prop) (f : BX) : Prop := ∀ (c : BF) (F : Hp) (ad : List Addr) (e : Env) (σ : St) (H : Hp) (xs : List V) (rs : List RV) (P : RV → Env → Prop) (Q : VK),
  Rel T c e σ F H ad → RvL T F ad rs xs → f e rs P → QL T c σ F ad P Q → r xs H Q
def eB (f : BX) (u : AX) : EX := fun e P R => u e (fun rs e1 => f e1 rs P) R
theorem lb {r : List V → Hp → VK → Prop} {f : BX} {u : AX} (ho : CaD T r f) {σ : St} {H : Hp} {Q : VK} (h : LE T W (eB f u) σ H Q) : tCB r (LA T W u) σ H Q := by
  obtain ⟨c, F, ad, e, P, R, rel, q, hq, hx⟩ := h
  exact ⟨c, F, ad, e, _, R, rel, q, fun vs H1 F1 ad1 e1 rs x1 p1 rel1 r1 q1 => ho c F1 ad1 e1 σ H1 vs rs P Q rel1 r1 q1 (hq.mono x1 p1), hx⟩
theorem de_B {x : Str} {p : Pos} {id : String} {es : List Expr} {r : List V → Hp → VK → Prop} {f : BX} {u : AX} (hc : CallR X (.builtin id) r) (ho : CaD T r f) (hg : Gl X x) (hm : X.mg x = none) (hv : bootBuiltins x = some (.builtin id)) (ha : DA T X W (a :: es) u)
    (hn : x ≠ "__name__" := by decide) (hdb : (x == ("__debug__" : Str)) = false := by decide) : DE T X W (.Call (.Name x p) (a :: es) [] pos) (eB f u) := ⟨PE.imp (pe_callB hc hg hm hv ha.pa hn hdb (ha.he _ _ rfl).1 ((ha.he _ _ rfl).2 _)) fun σ H Q h => lb ho h⟩
theorem de_Ty {x : Str} {p : Pos} {id : String} {es : List Expr} {r : List V → Hp → VK → Prop} {f : BX} {u : AX} (hc : CallR X (.type id) r) (ho : CaD T r f) (hg : Gl X x) (hm : X.mg x = none) (hv : bootBuiltins x = some (.type id)) (ha : DA T X W (a :: es) u)
    (hn : x ≠ "__name__" := by decide) (hdb : (x == ("__debug__" : Str)) = false := by decide) : DE T X W (.Call (.Name x p) (a :: es) [] pos) (eB f u) := ⟨PE.imp (pe_callTy hc hg hm hv ha.pa hn hdb (ha.he _ _ rfl).1 ((ha.he _ _ rfl).2 _)) fun σ H Q h => lb ho h⟩
theorem CallR.or {v : Value} {r r' : List V → Hp → VK → Prop} (h : CallR X v r) (h' : CallR X v r') : CallR X v (fun xs H Q => r xs H Q ∨ r' xs H Q) := by
  intro pins s σ H xs us Q I rx q
  rcases q with q | q
  · exact h pins s σ H xs us Q I rx q
  · exact h' pins s σ H xs us Q I rx q
theorem rv1 {F : Hp} {ad : List Addr} {r : RV} {xs : List V} (h : RvL T F ad [r] xs) : ∃ v, xs = [v] ∧ RvR T F ad r v := by
  obtain ⟨v, q, rfl, h1, h2⟩ := h
  rw [show q = [] from h2]
  exact ⟨v, rfl, h1⟩
theorem rv2 {F : Hp} {ad : List Addr} {r r' : RV} {xs : List V} (h : RvL T F ad [r, r'] xs) : ∃ v w, xs = [v, w] ∧ RvR T F ad r v ∧ RvR T F ad r' w := by
  obtain ⟨v, q, rfl, h1, w, q2, rfl, h2, h3⟩ := h
  rw [show q2 = [] from h3]
  exact ⟨v, w, rfl, h1, h2⟩
/-- len -/
def lenX : BX := fun e rs P => ∃ r, rs = [r] ∧ ((∃ s, dv e r = some (.str s) ∧ s.length ≤ sizeLine ∧ P (.val (.int s.length)) e) ∨ (∃ ds, sqD e r = some ds ∧ P (.val (.int ds.length)) e))
theorem de_len {p : Pos} {es : List Expr} {u : AX} (hm : X.mg "len" = none) (ha : DA T X W (a :: es) u) (hK : X.K = T.K := by rfl) (hg : Gl X "len" := by rfl) : DE T X W (.Call (.Name "len" p) (a :: es) [] pos) (eB lenX u) := de_B call_len (by
  rw [hK]
  intro c F ad e σ H xs rs P Q rel r1 h q
  obtain ⟨r, rfl, h⟩ := h
  obtain ⟨v, rfl, rr⟩ := rv1 r1
  rcases h with ⟨s, h1, hl, hp⟩ | ⟨ds, h1, hp⟩
  · refine ⟨v, s.length, rfl, ?_, q.val rel (rep_int.mpr rfl) hp⟩
    rw [rep_str.mp (dv_ok rel rr h1)]
    exact ⟨by rw [S_len]; exact hl, (S_len s).symm⟩
  · obtain ⟨a, vs, rfl, g1, g2⟩ := sqD_ok rel rr h1
    refine ⟨.ref a, ds.length, rfl, ?_, q.val rel (rep_int.mpr rfl) hp⟩
    rcases g1 with g1 | g1
    · exact .inl ⟨vs, g1, g2.len.symm⟩
    · exact .inr ⟨vs, g1, g2.len.symm⟩) hg hm PySem.boot_len ha
/-- int -/
def intX : BX := fun e rs P => ∃ r, rs = [r] ∧ ((∃ i, dv e r = some (.int i) ∧ P (.val (.int i)) e) ∨ (∃ k, dv e r = some (.bl k) ∧ P (.val (.int (if k then 1 else 0))) e) ∨
  (∃ s n, dv e r = some (.str s) ∧ PySem.intText? (S s) = some n ∧ s.length ≤ 640 ∧ P (.val (.int n)) e))
theorem de_intC {p : Pos} {es : List Expr} {u : AX} (hm : X.mg "int" = none) (ha : DA T X W (a :: es) u) (hg : Gl X "int" := by rfl) : DE T X W (.Call (.Name "int" p) (a :: es) [] pos) (eB intX u) := de_Ty (CallR.or call_int1 call_int_str) (by
  intro c F ad e σ H xs rs P Q rel r1 h q
  obtain ⟨r, rfl, h⟩ := h
  obtain ⟨v, rfl, rr⟩ := rv1 r1
  rcases h with ⟨i, h1, hp⟩ | ⟨k, h1, hp⟩ | ⟨s, n, h1, h2, hl, hp⟩
  · exact .inl (.inl ⟨i, by rw [rep_int.mp (dv_ok rel rr h1)], q.val rel (rep_int.mpr rfl) hp⟩)
  · exact .inl (.inr ⟨k, by rw [rep_bl.mp (dv_ok rel rr h1)], q.val rel (rep_int.mpr rfl) hp⟩)
  · exact .inr ⟨S s, n, by rw [rep_str.mp (dv_ok rel rr h1)], h2, by rw [S_len]; exact hl, q.val rel (rep_int.mpr rfl) hp⟩) hg hm (by decide +kernel) ha
/-- str of a number -/
def strX : BX := fun e rs P => ∃ r i, rs = [r] ∧ dv e r = some (.int i) ∧ i.natAbs.log2 < 1920 ∧ P (.val (.str (toString i : Str).cps.toList)) e
theorem de_strC {p : Pos} {es : List Expr} {u : AX} (hm : X.mg "str" = none) (ha : DA T X W (a :: es) u) (hg : Gl X "str" := by rfl) : DE T X W (.Call (.Name "str" p) (a :: es) [] pos) (eB strX u) := de_Ty call_str_int (by
  intro c F ad e σ H xs rs P Q rel r1 h q
  obtain ⟨r, i, rfl, h1, h2, hp⟩ := h
  obtain ⟨v, rfl, rr⟩ := rv1 r1
  exact ⟨i, by rw [rep_int.mp (dv_ok rel rr h1)], h2, q.val rel (rep_str.mpr (by rw [S_of])) hp⟩) hg hm (by decide +kernel) ha
/-- abs -/
def absX : BX := fun e rs P => ∃ r i, rs = [r] ∧ dv e r = some (.int i) ∧ P (.val (.int (if i < 0 then -i else i))) e
theorem de_abs {p : Pos} {es : List Expr} {u : AX} (hm : X.mg "abs" = none) (ha : DA T X W (a :: es) u) (hg : Gl X "abs" := by rfl) : DE T X W (.Call (.Name "abs" p) (a :: es) [] pos) (eB absX u) := de_B call_abs (by
  intro c F ad e σ H xs rs P Q rel r1 h q
  obtain ⟨r, i, rfl, h1, hp⟩ := h
  obtain ⟨v, rfl, rr⟩ := rv1 r1
  exact ⟨i, by rw [rep_int.mp (dv_ok rel rr h1)], q.val rel (rep_int.mpr rfl) hp⟩) hg hm (by decide +kernel) ha
/-- list -/
def listX : BX := fun e rs P => ∃ r ds, rs = [r] ∧ sqD e r = some ds ∧ P (.ob e.ob.length) { e with ob := e.ob ++ [.lst ds] }
theorem de_list {p : Pos} {es : List Expr} {u : AX} (hm : X.mg "list" = none) (ha : DA T X W (a :: es) u) (hK : X.K = T.K := by rfl) (hg : Gl X "list" := by rfl) : DE T X W (.Call (.Name "list" p) (a :: es) [] pos) (eB listX u) := de_Ty call_list_of (by
  rw [hK]
  intro c F ad e σ H xs rs P Q rel r1 h q
  obtain ⟨r, ds, rfl, h1, hp⟩ := h
  obtain ⟨v, rfl, rr⟩ := rv1 r1
  obtain ⟨a, vs, rfl, g1, g2⟩ := sqD_ok rel rr h1
  exact ⟨a, vs, rfl, g1, fun l hl => q.new (o := .lst ds) rel hl (fun fp bp => ⟨fp, bp, _, upd_same, g2⟩) hp⟩) hg hm (by decide +kernel) ha
/-- sum of ints -/
def sumX : BX := fun e rs P => ∃ (r : RV) (ns : List Int), rs = [r] ∧ lsD e r = some (ns.map D.int) ∧ P (.val (.int ns.sum)) e
theorem de_sum {p : Pos} {es : List Expr} {u : AX} (hc : X.calm = true) (hm : X.mg "sum" = none) (ha : DA T X W (a :: es) u) (hK : X.K = T.K := by rfl) (hg : Gl X "sum" := by rfl) : DE T X W (.Call (.Name "sum" p) (a :: es) [] pos) (eB sumX u) := de_B (cr_sum hc) (by
  rw [hK]
  intro c F ad e σ H xs rs P Q rel r1 h q
  obtain ⟨r, ns, rfl, h1, hp⟩ := h
  obtain ⟨v, rfl, rr⟩ := rv1 r1
  obtain ⟨a, vs, rfl, g1, g2⟩ := lsD_ok rel rr h1
  refine ⟨a, ns, rfl, ?_, q.val rel (rep_int.mpr rfl) hp⟩
  rw [← repL_ints g2]
  exact .inl g1) hg hm (by decide +kernel) ha
def minX : BX := fun e rs P => ∃ r r' i j, rs = [r, r'] ∧ dv e r = some (.int i) ∧ dv e r' = some (.int j) ∧ P (.val (.int (if j < i then j else i))) e
def maxX : BX := fun e rs P => ∃ r r' i j, rs = [r, r'] ∧ dv e r = some (.int i) ∧ dv e r' = some (.int j) ∧ P (.val (.int (if j > i then j else i))) e
theorem de_min {p : Pos} {es : List Expr} {u : AX} (hc : X.calm = true) (hm : X.mg "min" = none) (ha : DA T X W (a :: es) u) (hg : Gl X "min" := by rfl) : DE T X W (.Call (.Name "min" p) (a :: es) [] pos) (eB minX u) := de_B (call_min2 hc) (by
  intro c F ad e σ H xs rs P Q rel r1 h q
  obtain ⟨r, r', i, j, rfl, h1, h2, hp⟩ := h
  obtain ⟨v, w, rfl, rr, rr'⟩ := rv2 r1
  exact ⟨i, j, by rw [rep_int.mp (dv_ok rel rr h1), rep_int.mp (dv_ok rel rr' h2)], q.val rel (rep_int.mpr rfl) hp⟩) hg hm (by decide +kernel) ha
theorem de_max {p : Pos} {es : List Expr} {u : AX} (hc : X.calm = true) (hm : X.mg "max" = none) (ha : DA T X W (a :: es) u) (hg : Gl X "max" := by rfl) : DE T X W (.Call (.Name "max" p) (a :: es) [] pos) (eB maxX u) := de_B (call_max2 hc) (by
  intro c F ad e σ H xs rs P Q rel r1 h q
  obtain ⟨r, r', i, j, rfl, h1, h2, hp⟩ := h
  obtain ⟨v, w, rfl, rr, rr'⟩ := rv2 r1
  exact ⟨i, j, by rw [rep_int.mp (dv_ok rel rr h1), rep_int.mp (dv_ok rel rr' h2)], q.val rel (rep_int.mpr rfl) hp⟩) hg hm (by decide +kernel) ha
end
end DL
end
section
set_option Elab.async false
set_option linter.all false
set_option autoImplicit false
set_option maxRecDepth 100000
set_option maxHeartbeats 2000000
/-! DLE: defs' contracts (FX), what a def keeps (FnG), the call (eCall), a def from its body. -/
namespace DL
open PySem PySem.Spec L2

/-! ### objects under other numbers -/
def RV.ren (g : Nat → Nat) : RV → RV
  | .val d => .val d
  | .ob k => .ob (g k)
def OD.ren (g : Nat → Nat) : OD → OD
  | .fz d => .fz d
  | .lst ds => .lst ds
  | .lsr xs => .lsr (xs.map (RV.ren g))
  | .tpr xs => .tpr (xs.map (RV.ren g))
  | .dic kvs => .dic kvs
  | .ins c fs => .ins c (fs.map fun p => (p.1, p.2.ren g))
def RV.below (n : Nat) : RV → Bool
  | .val _ => true
  | .ob k => decide (k < n)
def OD.below (n : Nat) : OD → Bool
  | .lsr xs => xs.all (RV.below n)
  | .tpr xs => xs.all (RV.below n)
  | .ins _ fs => fs.all fun p => p.2.below n
  | _ => true
@[simp] theorem ren_val (g : Nat → Nat) (d : D) : (RV.val d).ren g = .val d := rfl
@[simp] theorem ren_ob (g : Nat → Nat) (k : Nat) : (RV.ob k).ren g = .ob (g k) := rfl
@[simp] theorem ren_lst (g : Nat → Nat) (ds : List D) : (OD.lst ds).ren g = .lst ds := rfl
@[simp] theorem ren_fz (g : Nat → Nat) (d : D) : (OD.fz d).ren g = .fz d := rfl
@[simp] theorem ren_dic (g : Nat → Nat) (d : List (D × D)) : (OD.dic d).ren g = .dic d := rfl
theorem OD.mut_ren (g : Nat → Nat) (o : OD) : (o.ren g).mut = o.mut := by cases o <;> rfl
section
variable {T : Cn} {F H : Hp} {ad bd : List Addr} {g : Nat → Nat} {n : Nat}
/-- bd's k is ad's g k, for k below n -/
def Sees (n : Nat) (g : Nat → Nat) (bd ad : List Addr) : Prop := ∀ (k : Nat) (p : Addr), k < n → (bd[k]? = some p ↔ ad[g k]? = some p)
theorem RvR.in_ (h : Sees n g bd ad) : ∀ {r : RV} {v : V}, r.below n = true → (RvR T F bd r v ↔ RvR T F ad (r.ren g) v)
  | .val d, v, _ => Iff.rfl
  | .ob k, v, hb => by
    have hk : k < n := by simpa [RV.below] using hb
    constructor
    · rintro ⟨p, h1, h2⟩
      exact ⟨p, (h k p hk).mp h1, h2⟩
    · rintro ⟨p, h1, h2⟩
      exact ⟨p, (h k p hk).mpr h1, h2⟩
theorem RvL.in_ (h : Sees n g bd ad) : ∀ {rs : List RV} {vs : List V}, rs.all (RV.below n) = true → (RvL T F bd rs vs ↔ RvL T F ad (rs.map (RV.ren g)) vs)
  | [], vs, _ => Iff.rfl
  | r :: rs, vs, hb => by
    have hb1 : r.below n = true ∧ rs.all (RV.below n) = true := by simpa using hb
    constructor
    · rintro ⟨v, q, h0, h1, h2⟩
      exact ⟨v, q, h0, (RvR.in_ h hb1.1).mp h1, (RvL.in_ h hb1.2).mp h2⟩
    · rintro ⟨v, q, h0, h1, h2⟩
      exact ⟨v, q, h0, (RvR.in_ h hb1.1).mpr h1, (RvL.in_ h hb1.2).mpr h2⟩
theorem RvF.in_ (h : Sees n g bd ad) : ∀ {rs : List (Nat × RV)} {vs : List (Str × V)}, (rs.all fun p => p.2.below n) = true → (RvF T F bd rs vs ↔ RvF T F ad (rs.map fun p => (p.1, p.2.ren g)) vs)
  | [], vs, _ => Iff.rfl
  | (f, r) :: rs, vs, hb => by
    have hb1 : r.below n = true ∧ (rs.all fun p => p.2.below n) = true := by simpa using hb
    constructor
    · rintro ⟨v, q, h0, h1, h2⟩
      exact ⟨v, q, h0, (RvR.in_ h hb1.1).mp h1, (RvF.in_ h hb1.2).mp h2⟩
    · rintro ⟨v, q, h0, h1, h2⟩
      exact ⟨v, q, h0, (RvR.in_ h hb1.1).mpr h1, (RvF.in_ h hb1.2).mpr h2⟩
/-- an object, seen from the other list, under another frame c' -/
theorem OAt.in_ {c c' : BF} {p : Addr} {o : OD} (h : Sees n g bd ad) (hb : o.below n = true) (hB : F p = none → (c.B p = none ↔ c'.B p = none)) : OAt T c F H bd p o ↔ OAt T c' F H ad p (o.ren g) := by
  cases o with
  | fz d => exact Iff.rfl
  | lst ds => exact ⟨fun ⟨a, b, r⟩ => ⟨a, (hB a).mp b, r⟩, fun ⟨a, b, r⟩ => ⟨a, (hB a).mpr b, r⟩⟩
  | dic ds => exact ⟨fun ⟨a, b, r⟩ => ⟨a, (hB a).mp b, r⟩, fun ⟨a, b, r⟩ => ⟨a, (hB a).mpr b, r⟩⟩
  | lsr xs => exact ⟨fun ⟨a, b, vs, r, q⟩ => ⟨a, (hB a).mp b, vs, r, (RvL.in_ h hb).mp q⟩, fun ⟨a, b, vs, r, q⟩ => ⟨a, (hB a).mpr b, vs, r, (RvL.in_ h hb).mpr q⟩⟩
  | tpr xs => exact ⟨fun ⟨a, b, vs, r, q⟩ => ⟨a, (hB a).mp b, vs, r, (RvL.in_ h hb).mp q⟩, fun ⟨a, b, vs, r, q⟩ => ⟨a, (hB a).mpr b, vs, r, (RvL.in_ h hb).mpr q⟩⟩
  | ins k fs => exact ⟨fun ⟨a, b, C, dx, gs, r0, r, q⟩ => ⟨a, (hB a).mp b, C, dx, gs, r0, r, (RvF.in_ h hb).mp q⟩, fun ⟨a, b, C, dx, gs, r0, r, q⟩ => ⟨a, (hB a).mpr b, C, dx, gs, r0, r, (RvF.in_ h hb).mpr q⟩⟩
end

/-! ### the call's frame -/
/-- the callee's numbers in the caller's: the passed ones, then the new ones -/
def out (ks : List Nat) (N : Nat) (j : Nat) : Nat := match ks[j]? with
  | some k => k
  | none => N + (j - ks.length)
def putAll : List Nat → List OD → List OD → List OD
  | k :: ks, o :: os, ob => putAll ks os (ob.set k o)
  | _, _, ob => ob
/-- the caller's objects behind the call -/
def back (ks : List Nat) (ob ob' : List OD) : List OD := putAll ks ((ob'.take ks.length).map (OD.ren (out ks ob.length))) ob ++ (ob'.drop ks.length).map (OD.ren (out ks ob.length))
theorem putAll_len : ∀ (ks : List Nat) (os ob : List OD), (putAll ks os ob).length = ob.length
  | [], _, _ => by simp [putAll]
  | _ :: _, [], _ => by simp [putAll]
  | k :: ks, o :: os, ob => by rw [putAll, putAll_len ks os, List.length_set]
theorem putAll_out : ∀ (ks : List Nat) (os ob : List OD) {i : Nat}, i ∉ ks → (putAll ks os ob)[i]? = ob[i]?
  | [], _, _, _, _ => by simp [putAll]
  | _ :: _, [], _, _, _ => by simp [putAll]
  | k :: ks, o :: os, ob, i, h => by
    have h2 : i ≠ k ∧ i ∉ ks := by simpa using h
    rw [putAll, putAll_out ks os _ h2.2, List.getElem?_set_ne (Ne.symm h2.1)]
theorem putAll_at : ∀ (ks : List Nat) (os ob : List OD) {j k : Nat} {o : OD}, ks.Nodup → ks[j]? = some k → os[j]? = some o → k < ob.length → (putAll ks os ob)[k]? = some o
  | [], _, _, j, _, _, _, h, _, _ => by simp at h
  | _ :: _, [], _, j, _, _, _, _, h, _ => by simp at h
  | k0 :: ks, o0 :: os, ob, 0, k, o, nd, h1, h2, h3 => by
    have e1 : k0 = k := by simpa using h1
    have e2 : o0 = o := by simpa using h2
    subst e1
    subst e2
    rw [putAll, putAll_out ks os _ (List.nodup_cons.mp nd).1, List.getElem?_set_self h3]
  | k0 :: ks, o0 :: os, ob, j + 1, k, o, nd, h1, h2, h3 => by
    rw [putAll]
    exact putAll_at ks os _ (List.nodup_cons.mp nd).2 (j := j) (by simpa using h1) (by simpa using h2) (by rw [List.length_set]; exact h3)
@[simp] theorem back_nil (ob ob' : List OD) : back [] ob ob' = ob ++ ob'.map (OD.ren (out [] ob.length)) := by simp [back, putAll]
@[simp] theorem back_nil0 (ob : List OD) : back [] ob [] = ob := by simp [back, putAll]
@[simp] theorem back_one (k : Nat) (ob : List OD) (o : OD) : back [k] ob [o] = ob.set k (o.ren (out [k] ob.length)) := by simp [back, putAll]
theorem out_one (k N : Nat) : out [k] N 0 = k := rfl

/-- what is passed: ks, seen by the callee as obl -/
structure Pass (ob : List OD) (ks : List Nat) (obl : List OD) (rs rsl : List RV) : Prop where
  len : obl.length = ks.length
  nd : ks.Nodup
  at_ : ∀ (j : Nat) (o : OD), obl[j]? = some o → o.below ks.length = true ∧ ∃ k, ks[j]? = some k ∧ ob[k]? = some (o.ren (out ks ob.length))
  rb : rsl.all (RV.below ks.length) = true
  rs : rs = rsl.map (RV.ren (out ks ob.length))
theorem Pass.data (ob : List OD) (ds : List D) : Pass ob [] [] (ds.map .val) (ds.map .val) :=
  ⟨rfl, List.nodup_nil, fun j o h => by simp at h, by simp [RV.below], by simp⟩
section
variable {T : Cn} {c : BF} {sl : List (Option RV)} {ob : List OD} {σ : St} {F H : Hp} {ad : List Addr} {ks : List Nat} {obl : List OD} {rs rsl : List RV}
theorem enter (R : Rel T c ⟨sl, ob⟩ σ F H ad) (P : Pass ob ks obl rs rsl) : ∃ bd : List Addr, bd.length = ks.length ∧ (∀ j k : Nat, ks[j]? = some k → bd[j]? = ad[k]?) ∧ Sees ks.length (out ks ob.length) bd ad ∧
    Rel T ⟨F, fun a => if a ∈ bd then none else H a, bd⟩ ⟨[], obl⟩ [] F H bd := by
  have hk : ∀ {j k : Nat}, ks[j]? = some k → k < ad.length := fun {j k} h => by
    have hj : j < obl.length := by rw [P.len]; exact (List.getElem?_eq_some_iff.mp h).1
    obtain ⟨_, k', e1, e2⟩ := P.at_ j _ (List.getElem?_eq_getElem hj)
    rw [h] at e1
    cases e1
    rw [R.adl]
    exact (List.getElem?_eq_some_iff.mp e2).1
  have hbd : ∀ j k, ks[j]? = some k → (ks.map fun k => ad.getD k 0)[j]? = ad[k]? := fun j k h => by
    rw [List.getElem?_map, h]
    show some (ad.getD k 0) = _
    rw [List.getD_eq_getElem?_getD, List.getElem?_eq_getElem (hk h)]
    rfl
  refine ⟨ks.map fun k => ad.getD k 0, by simp, hbd, ?_, ?_⟩
  · intro k p hlt
    have e : ks[k]? = some ks[k] := List.getElem?_eq_getElem hlt
    have eo : out ks ob.length k = ks[k] := by simp [out, e]
    rw [hbd k _ e, eo]
  · have S : Sees ks.length (out ks ob.length) (ks.map fun k => ad.getD k 0) ad := by
      intro k p hlt
      have e : ks[k]? = some ks[k] := List.getElem?_eq_getElem hlt
      have eo : out ks ob.length k = ks[k] := by simp [out, e]
      rw [hbd k _ e, eo]
    exact {
      len := rfl
      fh := R.fh
      f0 := Ex.refl F
      bh := fun a o h => by
        have h' : (if a ∈ (ks.map fun k => ad.getD k 0) then none else H a) = some o := h
        split at h'
        · cases h'
        · exact h'
      fr := fun a o h => .inl h
      adl := by
        show (ks.map _).length = obl.length
        rw [List.length_map, P.len]
      adn := by
        have inj : ∀ i j p, (ks.map fun k => ad.getD k 0)[i]? = some p → (ks.map fun k => ad.getD k 0)[j]? = some p → i = j := fun i j p h1 h2 => by
          have hi : i < ks.length := by have := (List.getElem?_eq_some_iff.mp h1).1; simpa using this
          have hj : j < ks.length := by have := (List.getElem?_eq_some_iff.mp h2).1; simpa using this
          have e1 : ks[i]? = some ks[i] := List.getElem?_eq_getElem hi
          have e2 : ks[j]? = some ks[j] := List.getElem?_eq_getElem hj
          rw [hbd i _ e1] at h1
          rw [hbd j _ e2] at h2
          have e3 := nodup_at R.adn h1 h2
          exact nodup_at P.nd e1 (by rw [e2, e3])
        refine List.pairwise_iff_getElem.mpr fun i j hi hj hij he => ?_
        have := inj i j _ (List.getElem?_eq_getElem hi) (by rw [List.getElem?_eq_getElem hj, he])
        omega
      pre := Px.refl _
      ob := fun j o p h1 h2 => by
        obtain ⟨hb, k, e1, e2⟩ := P.at_ j o h1
        have h3 : ad[k]? = some p := by rw [← hbd j k e1]; exact h2
        have q := R.ob k _ p e2 h3
        refine (OAt.in_ (c' := c) S hb fun fp => ⟨fun _ => ?_, fun _ => ?_⟩).mpr q
        · by_cases hm : (o.ren (out ks ob.length)).mut = true
          · exact (q.free hm).2
          · cases o with
            | fz d =>
              obtain ⟨⟨u, hu⟩, _⟩ := q
              rw [fp] at hu
              cases hu
            | _ => exact absurd rfl hm
        · show (if p ∈ (ks.map fun k => ad.getD k 0) then none else H p) = none
          rw [if_pos (List.mem_of_getElem? h2)]
      sl := fun i r h => by simp at h }
/-- behind the call -/
theorem leave {bd bd' : List Addr} {ob' : List OD} {F' H' : Hp} (R : Rel T c ⟨sl, ob⟩ σ F H ad) (P : Pass ob ks obl rs rsl) (hl : bd.length = ks.length) (hbd : ∀ j k : Nat, ks[j]? = some k → bd[j]? = ad[k]?)
    (R' : Rel T ⟨F, fun a => if a ∈ bd then none else H a, bd⟩ ⟨[], ob'⟩ [] F' H' bd') (e : Ex F F') (px : Px bd bd') (hm : ∀ (j : Nat) (o : OD), obl.length ≤ j → ob'[j]? = some o → o.mut = true) (hbl : ∀ o ∈ ob', o.below ob'.length = true) :
    Rel T c ⟨sl, back ks ob ob'⟩ σ F' H' (ad ++ bd'.drop ks.length) ∧ Px ad (ad ++ bd'.drop ks.length) ∧ Sees ob'.length (out ks ob.length) bd' (ad ++ bd'.drop ks.length) := by
  have hkl : ∀ {j k : Nat}, ks[j]? = some k → k < ad.length := fun {j k} h => by
    have hj : j < bd.length := by rw [hl]; exact (List.getElem?_eq_some_iff.mp h).1
    have := hbd j k h
    rw [List.getElem?_eq_getElem hj] at this
    exact (List.getElem?_eq_some_iff.mp this.symm).1
  have hle : ks.length ≤ bd'.length := by
    rw [← hl]
    by_cases h0 : bd.length = 0
    · omega
    · have := px (bd.length - 1) bd[bd.length - 1] (List.getElem?_eq_getElem (by omega))
      have := (List.getElem?_eq_some_iff.mp this).1
      omega
  have hol : ob'.length = bd'.length := R'.adl.symm
  -- the numbers
  have S : Sees ob'.length (out ks ob.length) bd' (ad ++ bd'.drop ks.length) := fun j p hj => by
    unfold out
    cases e1 : ks[j]? with
    | some k =>
      show _ ↔ (ad ++ bd'.drop ks.length)[k]? = some p
      rw [List.getElem?_append_left (hkl e1), ← hbd j k e1]
      have hj' : j < bd.length := by rw [hl]; exact (List.getElem?_eq_some_iff.mp e1).1
      have h1 := px j _ (List.getElem?_eq_getElem hj')
      rw [h1, List.getElem?_eq_getElem hj']
    | none =>
      have hj2 : ks.length ≤ j := List.getElem?_eq_none_iff.mp e1
      show _ ↔ (ad ++ bd'.drop ks.length)[ob.length + (j - ks.length)]? = some p
      have hal : ad.length = ob.length := R.adl
      rw [List.getElem?_append_right (by omega), List.getElem?_drop]
      have : ks.length + (ob.length + (j - ks.length) - ad.length) = j := by omega
      rw [this]
  have new_free : ∀ {j : Nat} {p : Addr}, ks.length ≤ j → bd'[j]? = some p → (F' p = none) ∧ p ∉ bd ∧ H p = none := fun {j p} hj h => by
    have hj2 : j < ob'.length := by rw [hol]; exact (List.getElem?_eq_some_iff.mp h).1
    have q := R'.ob j _ p (List.getElem?_eq_getElem hj2) h
    obtain ⟨f1, b1⟩ := q.free (hm j _ (by rw [P.len]; exact hj) (List.getElem?_eq_getElem hj2))
    have b2 : (if p ∈ bd then none else H p) = none := b1
    have nin : p ∉ bd := fun hp => by
      obtain ⟨i, hi⟩ := List.getElem?_of_mem hp
      have e2 := nodup_at R'.adn (px i p hi) h
      have := (List.getElem?_eq_some_iff.mp hi).1
      omega
    rw [if_neg nin] at b2
    exact ⟨f1, nin, b2⟩
  have pxa : Px ad (ad ++ bd'.drop ks.length) := Px.app ad _
  refine ⟨?_, pxa, S⟩
  exact {
    len := R.len
    fh := R'.fh
    f0 := R.f0.trans e
    bh := fun a o h => by
      by_cases ha : a ∈ bd
      · -- a passed object is not in c.B, or it stands in F
        obtain ⟨j, hj⟩ := List.getElem?_of_mem ha
        have hjk : j < ks.length := by have := (List.getElem?_eq_some_iff.mp hj).1; omega
        have ek : ks[j]? = some ks[j] := List.getElem?_eq_getElem hjk
        have hadk : ad[ks[j]]? = some a := by rw [← hbd j _ ek]; exact hj
        obtain ⟨ok, ek2, q⟩ := R.obs hadk
        by_cases hmu : ok.mut = true
        · rw [(q.free hmu).2] at h
          cases h
        · cases ok with
          | fz d =>
            obtain ⟨⟨u, hu⟩, _⟩ := q
            have h1 := R.bh a o h
            have h2 := R.fh a u hu
            rw [h1] at h2
            cases h2
            exact R'.fh a o (e a o hu)
          | _ => exact absurd rfl hmu
      · refine R'.bh a o ?_
        show (if a ∈ bd then none else H a) = some o
        rw [if_neg ha]
        exact R.bh a o h
    fr := fun a o hFa => by
      rcases R'.fr a o hFa with h | h
      · exact R.fr a o h
      · have h' : (if a ∈ bd then none else H a) = none := h
        by_cases ha : a ∈ bd
        · obtain ⟨j, hj⟩ := List.getElem?_of_mem ha
          have hjk : j < ks.length := by have := (List.getElem?_eq_some_iff.mp hj).1; omega
          have ek : ks[j]? = some ks[j] := List.getElem?_eq_getElem hjk
          have hadk : ad[ks[j]]? = some a := by rw [← hbd j _ ek]; exact hj
          obtain ⟨ok, ek2, q⟩ := R.obs hadk
          by_cases hmu : ok.mut = true
          · exact .inr (q.free hmu).2
          · cases ok with
            | fz d =>
              obtain ⟨⟨u, hu⟩, _⟩ := q
              have h2 := e a u hu
              rw [hFa] at h2
              cases h2
              exact R.fr a o hu
            | _ => exact absurd rfl hmu
        · rw [if_neg ha] at h'
          refine .inr ?_
          cases hb : c.B a with
          | none => rfl
          | some u =>
            rw [R.bh a u hb] at h'
            cases h'
    adl := by
      show (ad ++ bd'.drop ks.length).length = (back ks ob ob').length
      have := R.adl
      have e1 : ad.length = ob.length := this
      simp [back, putAll_len, e1, hol]
    adn := by
      refine List.nodup_append.mpr ⟨R.adn, R'.adn.sublist (List.drop_sublist _ _), fun a ha b hb => ?_⟩
      rintro rfl
      obtain ⟨j, hj⟩ := List.getElem?_of_mem hb
      rw [List.getElem?_drop] at hj
      obtain ⟨_, _, n3⟩ := new_free (by omega) hj
      obtain ⟨i, hi⟩ := List.getElem?_of_mem ha
      obtain ⟨u, hu⟩ := R.tracked hi
      rw [n3] at hu
      cases hu
    pre := R.pre.trans pxa
    ob := fun i o p h1 h2 => by
      have h1' : (back ks ob ob')[i]? = some o := h1
      unfold back at h1'
      have eal : ad.length = ob.length := R.adl
      by_cases hi : i < ad.length
      · rw [List.getElem?_append_left hi] at h2
        rw [List.getElem?_append_left (by rw [putAll_len]; omega)] at h1'
        by_cases hik : i ∈ ks
        · obtain ⟨j, hj⟩ := List.getElem?_of_mem hik
          have hjk : j < ks.length := (List.getElem?_eq_some_iff.mp hj).1
          have hjo : j < ob'.length := by omega
          have hos : ((ob'.take ks.length).map (OD.ren (out ks ob.length)))[j]? = some (ob'[j].ren (out ks ob.length)) := by
            rw [List.getElem?_map, List.getElem?_take_of_lt hjk, List.getElem?_eq_getElem hjo]
            rfl
          rw [putAll_at ks _ ob P.nd hj hos (by omega)] at h1'
          cases h1'
          have hbp : bd[j]? = some p := by rw [hbd j i hj]; exact h2
          have q := R'.ob j _ p (List.getElem?_eq_getElem hjo) (px j p hbp)
          refine (OAt.in_ (c' := c) S (hbl _ (List.getElem_mem hjo)) fun fp => ⟨fun _ => ?_, fun _ => ?_⟩).mp q
          · obtain ⟨ok, ek2, q0⟩ := R.obs h2
            by_cases hmu : ok.mut = true
            · exact (q0.free hmu).2
            · cases ok with
              | fz d =>
                obtain ⟨⟨u, hu⟩, _⟩ := q0
                have := e p u hu
                rw [fp] at this
                cases this
              | _ => exact absurd rfl hmu
          · show (if p ∈ bd then none else H p) = none
            rw [if_pos (List.mem_of_getElem? hbp)]
        · rw [putAll_out ks _ ob hik] at h1'
          have q0 := R.ob i o p h1' h2
          have nin : p ∉ bd := fun hp => by
            obtain ⟨j, hj⟩ := List.getElem?_of_mem hp
            have hjk : j < ks.length := by have := (List.getElem?_eq_some_iff.mp hj).1; omega
            have ek : ks[j]? = some ks[j] := List.getElem?_eq_getElem hjk
            rw [hbd j _ ek] at hj
            have := nodup_at R.adn hj h2
            exact hik (this ▸ List.mem_of_getElem? ek)
          refine OAt.mono e (fun fn => ?_) (fun u hu => ?_) pxa q0
          · cases hF : F' p with
            | none => rfl
            | some u =>
              rcases R'.fr p u hF with z | z
              · have z' : F p = some u := z
                rw [fn] at z'
                cases z'
              · have z' : (if p ∈ bd then none else H p) = none := z
                rw [if_neg nin] at z'
                obtain ⟨u2, hu2⟩ := R.tracked h2
                rw [z'] at hu2
                cases hu2
          · refine R'.bh p u ?_
            show (if p ∈ bd then none else H p) = some u
            rw [if_neg nin]
            exact hu
      · rw [List.getElem?_append_right (by omega), List.getElem?_drop] at h2
        rw [List.getElem?_append_right (by rw [putAll_len]; omega), putAll_len, List.getElem?_map, List.getElem?_drop] at h1'
        rw [eal] at h2
        have hjo : ks.length + (i - ob.length) < ob'.length := by rw [hol]; exact (List.getElem?_eq_some_iff.mp h2).1
        rw [List.getElem?_eq_getElem hjo] at h1'
        have h1'' := Option.some.inj h1'
        subst h1''
        obtain ⟨n1, n2, n3⟩ := new_free (by omega) h2
        have q := R'.ob _ _ p (List.getElem?_eq_getElem hjo) h2
        refine (OAt.in_ (c' := c) S (hbl _ (List.getElem_mem hjo)) fun fp => ⟨fun _ => ?_, fun _ => ?_⟩).mp q
        · cases hb : c.B p with
          | none => rfl
          | some u =>
            rw [R.bh p u hb] at n3
            cases n3
        · show (if p ∈ bd then none else H p) = none
          rw [if_neg n2]
          exact n3
    sl := fun i r h => by
      obtain ⟨v, hv, hr⟩ := R.sl i r h
      exact ⟨v, hv, hr.mono e pxa⟩ }
end
end DL
end
section
set_option Elab.async false
set_option linter.all false
set_option autoImplicit false
set_option maxRecDepth 100000
set_option maxHeartbeats 2000000
/-! DLF: contracts of defs (FX), FnG, the call, a def from its body. -/
namespace DL
open PySem PySem.Spec L2
open PyProof.Rows hiding St

/-- what a def does with its arguments and the objects that are passed -/
abbrev FX := List RV → List OD → (RV → List OD → Prop) → (Xc → List OD → Prop) → Prop
def okNew (n : Nat) (ob' : List OD) : Prop := (∀ (j : Nat) (o : OD), n ≤ j → ob'[j]? = some o → o.mut = true) ∧ ∀ o ∈ ob', o.below ob'.length = true
def spF (T : Cn) (f : FX) : Sp := fun vs H Q E => ∃ c F ad rs ob P R, Rel T c ⟨[], ob⟩ [] F H ad ∧ RvL T F ad rs vs ∧ f rs ob P R ∧
  (∀ v H' F' ad' ob' r, Ex F F' → Px ad ad' → Rel T c ⟨[], ob'⟩ [] F' H' ad' → RvR T F' ad' r v → okNew ob.length ob' → r.below ob'.length = true → P r ob' → Q v H') ∧
  (∀ cls d H' F' ad' ob' x, Ex F F' → Px ad ad' → Rel T c ⟨[], ob'⟩ [] F' H' ad' → XRep T F' x cls d → okNew ob.length ob' → R x ob' → E cls d H')
/-- the def at f keeps fx -/
structure FnG (T : Cn) (P : Program) (w : World) (base : Heap) (k : Nat) (f : Addr) (fd : FuncData) (ps : List Str) (fx : FX) : Prop where
  len : ∀ rs ob P R, fx rs ob P R → rs.length = ps.length
  run : ∀ (A : Around) (outer : List PySem.Env) (s : Shared) (H : Hp) (args : Args) (us : List Value) (vs : List V) (Q : VK) (E : XK), Room k A → A.guards = some [] → Env0 P w T.K T.mg base A outer s H → BindsTo s fd args (ps.zip us) → Vals vs us →
    spF T fx vs H Q E → codeAny (model P w) A (.call (.ref f) args) (CR (L2.CX P w) outer P w H s Q E) s
theorem FnG.mono {T : Cn} {P : Program} {w : World} {base : Heap} {j k : Nat} {f : Addr} {fd : FuncData} {ps : List Str} {fx : FX} (F : FnG T P w base j f fd ps fx) (h : j ≤ k) : FnG T P w base k f fd ps fx :=
  ⟨F.len, fun A outer s H args us vs Q E hr => F.run A outer s H args us vs Q E (hr.mono h)⟩

/-! ### arguments -/
/-- which arguments change no more (true) -/
def frz : List Bool → List OD → List RV → Option (List RV × List OD)
  | _, ob, [] => some ([], ob)
  | true :: m, ob, r :: rs => match fzR 9 ob r with
    | some (d, ob') => (match frz m ob' rs with
      | some (qs, ob'') => some (.val d :: qs, ob'')
      | none => none)
    | none => none
  | false :: m, ob, r :: rs => (match frz m ob rs with
      | some (qs, ob'') => some (r :: qs, ob'')
      | none => none)
  | [], _, _ :: _ => none
def cal (m : List Bool) (dd : List D) (fx : FX) (rs : List RV) (e : Env) (P : RV → Env → Prop) (R : Xc → Env → Prop) : Prop :=
  ∃ rs1 ob1 ks obl rsl, frz m e.ob rs = some (rs1, ob1) ∧ Pass ob1 ks obl rs1 rsl ∧ fx (rsl ++ dd.map .val) obl (fun r ob' => P (r.ren (out ks ob1.length)) ⟨e.sl, back ks ob1 ob'⟩) (fun x ob' => R x ⟨e.sl, back ks ob1 ob'⟩)
def eCall (m : List Bool) (dd : List D) (fx : FX) (u : AX) : EX := fun e P R => u e (fun rs e1 => cal m dd fx rs e1 P R) R
section
variable {T : Cn} {c : BF} {sl : List (Option RV)} {σ : L2.St} {H : Hp} {ad : List Addr}
theorem frz_ok : ∀ (m : List Bool) {ob ob' : List OD} {F : Hp} {rs rs1 : List RV}, Rel T c ⟨sl, ob⟩ σ F H ad → frz m ob rs = some (rs1, ob') →
    ∃ F', Ex F F' ∧ Rel T c ⟨sl, ob'⟩ σ F' H ad ∧ ∀ vs, RvL T F ad rs vs → RvL T F' ad rs1 vs
  | m, ob, ob', F, [], rs1, R, h => by
    rw [frz] at h
    cases h
    exact ⟨F, Ex.refl F, R, fun v hv => hv⟩
  | [], ob, ob', F, r :: rs, rs1, R, h => by
    rw [frz] at h
    cases h
  | true :: m, ob, ob', F, r :: rs, rs1, R, h => by
    rw [frz] at h
    cases h1 : fzR 9 ob r with
    | none =>
      rw [h1] at h
      cases h
    | some x =>
      obtain ⟨d, ob1⟩ := x
      rw [h1] at h
      dsimp only at h
      cases h2 : frz m ob1 rs with
      | none =>
        rw [h2] at h
        cases h
      | some y =>
        obtain ⟨es, ob2⟩ := y
        rw [h2] at h
        cases h
        obtain ⟨F1, e1, R1, q1⟩ := fzR_ok 9 R h1
        obtain ⟨F2, e2, R2, q2⟩ := frz_ok m R1 h2
        refine ⟨F2, e1.trans e2, R2, fun vs hv => ?_⟩
        obtain ⟨v, q, rfl, a1, a2⟩ := hv
        exact ⟨v, q, rfl, (q1 v a1).mono e2, q2 q (a2.mono e1 (Px.refl ad))⟩
  | false :: m, ob, ob', F, r :: rs, rs1, R, h => by
    rw [frz] at h
    cases h2 : frz m ob rs with
    | none =>
      rw [h2] at h
      cases h
    | some y =>
      obtain ⟨es, ob2⟩ := y
      rw [h2] at h
      cases h
      obtain ⟨F2, e2, R2, q2⟩ := frz_ok m R h2
      refine ⟨F2, e2, R2, fun vs hv => ?_⟩
      obtain ⟨v, q, rfl, a1, a2⟩ := hv
      exact ⟨v, q, rfl, a1.mono e2 (Px.refl ad), q2 q a2⟩
theorem cal_ok {W : WX} {m : List Bool} {dd : List D} {dvs : List V} {fx : FX} {rs : List RV} {vs : List V} {e : Env} {F : Hp} {P : RV → Env → Prop} {R' : Xc → Env → Prop} {Q : VK} (R : Rel T c e σ F H ad) (hv : RvL T F ad rs vs) (h : cal m dd fx rs e P R')
    (hq : QL T c σ F ad P Q) (hx : XL T c W F ad R') (hdd : ∀ F, RepL T F dd dvs) : spF T fx (vs ++ dvs) H Q (fun cls d H' => W cls d σ H') := by
  obtain ⟨rs1, ob1, ks, obl, rsl, h1, hp, h2⟩ := h
  obtain ⟨sl, ob⟩ := e
  obtain ⟨F1, x1, R1, q1⟩ := frz_ok m R h1
  obtain ⟨bd, b1, b2, S, R2⟩ := enter R1 hp
  have hv1 := q1 vs hv
  rw [hp.rs] at hv1
  refine ⟨_, F1, bd, rsl ++ dd.map .val, obl, _, _, R2, RvL.append ((RvL.in_ S hp.rb).mpr hv1) (RvL.of (hdd F1)), h2, ?_, ?_⟩
  · intro v H' F' bd' ob' r x2 px R3 hr hn hb q
    obtain ⟨R4, p4, S4⟩ := leave R1 hp b1 b2 R3 x2 px hn.1 hn.2
    exact hq v H' F' _ _ _ (x1.trans x2) p4 R4 ((RvR.in_ S4 hb).mp hr) q
  · intro cls d H' F' bd' ob' x x2 px R3 hr hn q
    obtain ⟨R4, p4, S4⟩ := leave R1 hp b1 b2 R3 x2 px hn.1 hn.2
    exact hx cls d _ H' F' _ _ x (x1.trans x2) p4 R4 hr q
end

/-! ### the call -/
section
variable {T : Cn} {X : Cx} {W : WX} {k : Nat} {f : Addr} {fd : FuncData} {ps : List Str} {fx : FX} {x : Str} {p pos : Pos} {e : Expr} {es : List Expr} {u : AX}
theorem runG {pins : List (Addr × Obj)} {σ : L2.St} {H : Hp} {s : Shared} {Q : VK} {us us0 : List Value} {kw : List (Str × Value)} {vs : List V} (F : FnG T X.prog X.w X.base k f fd ps fx) (hr : Room k X.A) (hgd : X.A.guards = some []) (hK : X.K = T.K) (hM : X.mg = T.mg) (tk : Takes X W)
    (I : Inv X pins σ H s) (hb : BindsTo s fd ⟨us0, kw⟩ (ps.zip us)) (r : Vals vs us) (h : spF T fx vs H Q (fun cls d H' => W cls d σ H')) : wpAny (model X.prog X.w) X.A (call (.ref f) us0 kw) (EP X pins σ Q) X.xe s := by
  have e0 : Env0 X.prog X.w T.K T.mg X.base X.A X.stack s H := by
    rw [← hK, ← hM]
    exact I.env0
  refine wpAny_call (codeAny_mono (F.run X.A X.stack s H ⟨us0, kw⟩ us vs Q _ hr hgd e0 hb r h) fun res s' hq => ?_)
  match res, hq with
  | .error ex, hq => exact tk ex s' (XE.of_call I (fun _ _ _ z => z) hq)
  | .ok (.ret _), hq => exact I.after hq
theorem spF_len {vs : List V} {H : Hp} {Q : VK} {E : XK} (F : FnG T X.prog X.w X.base k f fd ps fx) (h : spF T fx vs H Q E) : vs.length = ps.length := by
  obtain ⟨c, F1, ad, rs, ob, P, R, _, hv, hf, _⟩ := h
  rw [hv.len]
  exact F.len _ _ _ _ hf
/-- f(e, ..) -/
theorem de_call {dd : List D} {dvs : List V} {ds : List Value} (m : List Bool) (F : FnG T X.prog X.w X.base k f fd ps fx) (hr : Room k X.A) (hgd : X.A.guards = some []) (tk : Takes X W) (hm : X.mg x = some (.ref f)) (hk : PySem.W.keepIn X.K (.ref f) = true)
    (hb : Binds X.K fd ps ds) (hd : Vals dvs ds) (hdd : ∀ F, RepL T F dd dvs) (ha : DA T X W (e :: es) u) (hg : Gl X x := by rfl) (hK : X.K = T.K := by rfl) (hM : X.mg = T.mg := by rfl)
    (hdb : (x == ("__debug__" : Str)) = false := by decide) (he : starEach (e :: es) X.env = (false, eval e X.env) :: starEach es X.env := by rfl) (hpl : (backTo pos (starEach es X.env)).any (·.1) = false := by rfl) :
    DE T X W (.Call (.Name x p) (e :: es) [] pos) (eCall m dd fx u) := ⟨⟨fun pins s σ H Q I h => by
  refine wpAny_Call_Name_kw (ld_glob I hg hm ?_ hdb)
  obtain ⟨c, F1, ad, en, P, R, rel, q, hq, hx⟩ := h
  refine PySem.W.callWith_K (h₀ := X.base) I.ok.mod.kin hk (thn (ha.pa.run pos pins s σ H _ I ⟨c, F1, ad, en, _, R, rel, q, fun vs H1 F2 ad1 e1 rs x1 p1 rel1 r1 q1 => cal_ok rel1 r1 q1 (hq.mono x1 p1) (hx.mono x1 p1) hdd, hx⟩) fun us s1 ⟨vs, H1, I1, r, q⟩ => ⟨I1.kIn, ?_⟩) he hpl
  have r2 := r.append hd
  exact runG F hr hgd hK hM tk I1 (hb s1 us I1.kIn (by rw [← r2.length]; exact spF_len F q)) r2 q⟩⟩
theorem de_call0 {dd : List D} {dvs : List V} {ds : List Value} (F : FnG T X.prog X.w X.base k f fd ps fx) (hr : Room k X.A) (hgd : X.A.guards = some []) (tk : Takes X W) (hm : X.mg x = some (.ref f)) (hk : PySem.W.keepIn X.K (.ref f) = true)
    (hb : Binds X.K fd ps ds) (hd : Vals dvs ds) (hdd : ∀ F, RepL T F dd dvs) (hg : Gl X x := by rfl) (hK : X.K = T.K := by rfl) (hM : X.mg = T.mg := by rfl)
    (hdb : (x == ("__debug__" : Str)) = false := by decide) : DE T X W (.Call (.Name x p) [] [] pos) (eCall [] dd fx aNil) := ⟨⟨fun pins s σ H Q I h => by
  refine wpAny_Call_Name_kw (ld_glob I hg hm ?_ hdb)
  obtain ⟨c, F1, ad, en, P, R, rel, q, hq, hx⟩ := h
  have q2 := cal_ok (vs := []) rel (show RvL T F1 ad [] [] from rfl) (show cal [] dd fx [] en P R from q) hq hx hdd
  exact PySem.W.callWith_K0 I.kIn hk (runG (us0 := []) F hr hgd hK hM tk I (hb s [] I.kIn (by rw [List.nil_append, ← hd.length]; exact spF_len F q2)) hd q2)⟩⟩
end

/-! ### a def from its body -/
def flatN (n : Nat) (ob : List OD) : Prop := ∀ o ∈ ob.take n, o.below n = true
/-- the numbers of kept objects before -/
def gM (n : Nat) (ks : List Nat) (j : Nat) : Nat := if j < n then j else ks.getD (j - n) 0
/-- the end of a body: data; a new object; one that was passed; several new ones -/
def fin (n : Nat) (P : RV → List OD → Prop) (r : RV) (e : Env) : Prop :=
  (∃ d ob', fzR 9 e.ob r = some (d, ob') ∧ flatN n ob' ∧ P (.val d) (ob'.take n)) ∨
  (∃ k o, r = .ob k ∧ n ≤ k ∧ e.ob[k]? = some o ∧ o.mut = true ∧ o.below n = true ∧ flatN n e.ob ∧ P (.ob n) (e.ob.take n ++ [o])) ∨
  (∃ k, r = .ob k ∧ k < n ∧ flatN n e.ob ∧ P (.ob k) (e.ob.take n)) ∨
  (∃ (ks : List Nat) (os : List OD) (r' : RV), ks.Nodup ∧ (∀ k ∈ ks, n ≤ k) ∧ os.length = ks.length ∧
    (∀ (j : Nat) (o : OD), os[j]? = some o → o.mut = true ∧ o.below (n + ks.length) = true ∧ ∃ k, ks[j]? = some k ∧ e.ob[k]? = some (o.ren (gM n ks))) ∧
    r'.below (n + ks.length) = true ∧ r = r'.ren (gM n ks) ∧ flatN n e.ob ∧ P r' (e.ob.take n ++ os))
def finX (n : Nat) (R : Xc → List OD → Prop) (x : Xc) (e : Env) : Prop := flatN n e.ob ∧ R x (e.ob.take n)
def startE (N : Nat) (rs : List RV) (ob : List OD) : Env := ⟨rs.map some ++ List.replicate (N - rs.length) none, ob⟩
section
variable {T : Cn} {c : BF} {sl : List (Option RV)} {ob : List OD} {σ : L2.St} {F H : Hp} {ad ad0 : List Addr} {n : Nat}
theorem take_eq {ad0 ad : List Addr} (p : Px ad0 ad) : ad.take ad0.length = ad0 := by
  apply List.ext_getElem?
  intro i
  by_cases h : i < ad0.length
  · rw [List.getElem?_take_of_lt h, List.getElem?_eq_getElem h]
    exact p i _ (List.getElem?_eq_getElem h)
  · rw [List.getElem?_eq_none_iff.mpr (by rw [List.length_take]; omega), List.getElem?_eq_none_iff.mpr (by omega)]
theorem px_len {ad0 ad : List Addr} (p : Px ad0 ad) : ad0.length ≤ ad.length := by
  have := congrArg List.length (take_eq p)
  rw [List.length_take] at this
  omega
theorem sees_take (h : n ≤ ad.length) : Sees n id (ad.take n) ad := fun k p hk => by
  rw [List.getElem?_take_of_lt hk]
  exact Iff.rfl
theorem RV.ren_id (r : RV) : r.ren id = r := by cases r <;> rfl
theorem OD.ren_id (o : OD) : o.ren id = o := by
  cases o with
  | lsr xs => exact congrArg OD.lsr (by rw [show RV.ren id = id from funext RV.ren_id, List.map_id])
  | tpr xs => exact congrArg OD.tpr (by rw [show RV.ren id = id from funext RV.ren_id, List.map_id])
  | ins k fs => exact congrArg (OD.ins k) (by rw [show (fun p : Nat × RV => (p.1, p.2.ren id)) = id from funext fun p => by rw [RV.ren_id]; rfl, List.map_id])
  | _ => rfl
/-- only the first n objects are told -/
theorem Rel.first (R : Rel T c ⟨sl, ob⟩ σ F H ad) (hp : Px c.ad0 ad0) (px : Px ad0 ad) (hl : flatN ad0.length ob) : Rel T c ⟨[], ob.take ad0.length⟩ [] F H ad0 := by
  have hlen := px_len px
  have e0 := take_eq px
  have hob : ad.length = ob.length := R.adl
  exact {
    len := rfl
    fh := R.fh
    f0 := R.f0
    bh := R.bh
    fr := R.fr
    adl := by
      show ad0.length = (ob.take ad0.length).length
      rw [List.length_take]
      omega
    adn := by
      rw [← e0]
      exact R.adn.sublist (List.take_sublist _ _)
    pre := hp
    ob := fun k o p h1 h2 => by
      have h1' : (ob.take ad0.length)[k]? = some o := h1
      have hk : k < ad0.length := (List.getElem?_eq_some_iff.mp h2).1
      rw [List.getElem?_take_of_lt hk] at h1'
      have q := R.ob k o p h1' (px k p h2)
      have S : Sees ad0.length id ad0 ad := by
        have := sees_take (n := ad0.length) hlen
        rw [e0] at this
        exact this
      refine (OAt.in_ (c' := c) S (hl o (List.mem_of_getElem? (show (ob.take ad0.length)[k]? = some o from h1))) fun _ => Iff.rfl).mpr ?_
      rw [OD.ren_id]
      exact q
    sl := fun i r h => by simp at h }
theorem Rel.bare (R : Rel T c ⟨sl, ob⟩ σ F H ad) : Rel T c ⟨[], ob⟩ [] F H ad := ⟨rfl, R.fh, R.f0, R.bh, R.fr, R.adl, R.adn, R.pre, R.ob, fun i r h => by simp at h⟩
theorem okNew_take (hn : ad0.length ≤ ob.length) (hl : flatN ad0.length ob) : okNew ad0.length (ob.take ad0.length) := by
  have e : (ob.take ad0.length).length = ad0.length := by
    rw [List.length_take]
    omega
  refine ⟨fun j o h1 h2 => ?_, fun o ho => ?_⟩
  · have := (List.getElem?_eq_some_iff.mp h2).1
    omega
  · rw [e]
    exact hl o ho
theorem OD.below_mono {o : OD} {a b : Nat} (h : a ≤ b) (hb : o.below a = true) : o.below b = true := by
  have hr : ∀ r : RV, r.below a = true → r.below b = true := fun r hr => by
    cases r with
    | val d => rfl
    | ob k =>
      have : k < a := by simpa [RV.below] using hr
      simp [RV.below]
      omega
  cases o with
  | lsr xs =>
    refine List.all_eq_true.mpr fun r h => hr r (List.all_eq_true.mp hb r h)
  | tpr xs =>
    refine List.all_eq_true.mpr fun r h => hr r (List.all_eq_true.mp hb r h)
  | ins k fs =>
    refine List.all_eq_true.mpr fun r h => hr r.2 (List.all_eq_true.mp hb r h)
  | _ => rfl
/-- .. and one new object -/
theorem Rel.firstNew {k : Nat} {o : OD} {p : Addr} (R : Rel T c ⟨sl, ob⟩ σ F H ad) (hp : Px c.ad0 ad0) (px : Px ad0 ad) (hl : flatN ad0.length ob) (hk : ad0.length ≤ k) (ho : ob[k]? = some o) (ha : ad[k]? = some p) (hb : o.below ad0.length = true) :
    Rel T c ⟨[], ob.take ad0.length ++ [o]⟩ [] F H (ad0 ++ [p]) := by
  have hlen := px_len px
  have e0 := take_eq px
  have hob : ad.length = ob.length := R.adl
  have R1 := R.first hp px hl
  have etl : (ob.take ad0.length).length = ad0.length := by
    rw [List.length_take]
    omega
  have S : Sees ad0.length id ad0 ad := by
    have := sees_take (n := ad0.length) hlen
    rw [e0] at this
    exact this
  have S2 : Sees ad0.length id ad0 (ad0 ++ [p]) := fun j q hj => by
    show _ ↔ (ad0 ++ [p])[j]? = some q
    rw [List.getElem?_append_left hj]
  exact {
    len := rfl
    fh := R.fh
    f0 := R.f0
    bh := R.bh
    fr := R.fr
    adl := by
      show (ad0 ++ [p]).length = (ob.take ad0.length ++ [o]).length
      rw [List.length_append, List.length_append, etl]
      rfl
    adn := by
      refine List.nodup_append.mpr ⟨R1.adn, by simp, fun a ha' b hb' => ?_⟩
      have eb : b = p := by simpa using hb'
      subst eb
      rintro rfl
      obtain ⟨i, hi⟩ := List.getElem?_of_mem ha'
      have := nodup_at R.adn (px i a hi) ha
      have := (List.getElem?_eq_some_iff.mp hi).1
      omega
    pre := hp.trans (Px.push ad0 p)
    ob := fun j o' q h1 h2 => by
      have h1' : (ob.take ad0.length ++ [o])[j]? = some o' := h1
      by_cases hj : j < ad0.length
      · rw [List.getElem?_append_left (by omega)] at h1'
        rw [List.getElem?_append_left hj] at h2
        exact OAt.mono (Ex.refl F) (fun n => n) (fun u hu => hu) (Px.push ad0 p) (R1.ob j o' q h1' h2)
      · have hj2 : j = ad0.length := by
          have := (List.getElem?_eq_some_iff.mp h2).1
          rw [List.length_append] at this
          have e1 : [p].length = 1 := rfl
          omega
        subst hj2
        rw [List.getElem?_append_right (Nat.le_refl _), Nat.sub_self] at h2
        rw [List.getElem?_append_right (by omega), etl, Nat.sub_self] at h1'
        have eo : o = o' := by simpa using h1'
        have ep : p = q := by simpa using h2
        subst eo
        subst ep
        have q := R.ob k o p ho ha
        have q1 : OAt T c F H ad0 p o := (OAt.in_ (c' := c) S hb fun _ => Iff.rfl).mpr (by rw [OD.ren_id]; exact q)
        have q2 := (OAt.in_ (c' := c) S2 hb fun _ => Iff.rfl).mp q1
        rw [OD.ren_id] at q2
        exact q2
    sl := fun i r h => by simp at h }
/-- .. and several new objects -/
theorem Rel.firstMany {ks : List Nat} {os : List OD} (R : Rel T c ⟨sl, ob⟩ σ F H ad) (hp : Px c.ad0 ad0) (px : Px ad0 ad) (hl : flatN ad0.length ob) (nd : ks.Nodup) (hk : ∀ k ∈ ks, ad0.length ≤ k) (hlen : os.length = ks.length)
    (ho : ∀ (j : Nat) (o : OD), os[j]? = some o → o.mut = true ∧ o.below (ad0.length + ks.length) = true ∧ ∃ k, ks[j]? = some k ∧ ob[k]? = some (o.ren (gM ad0.length ks))) :
    ∃ bd : List Addr, bd.length = ks.length ∧ Rel T c ⟨[], ob.take ad0.length ++ os⟩ [] F H (ad0 ++ bd) ∧ Sees (ad0.length + ks.length) (gM ad0.length ks) (ad0 ++ bd) ad := by
  have hle := px_len px
  have hob : ad.length = ob.length := R.adl
  have R1 := R.first hp px hl
  have etl : (ob.take ad0.length).length = ad0.length := by
    rw [List.length_take]
    omega
  have hkb : ∀ {j k : Nat}, ks[j]? = some k → k < ad.length := fun {j k} h => by
    have hj : j < os.length := by rw [hlen]; exact (List.getElem?_eq_some_iff.mp h).1
    obtain ⟨_, _, k', e1, e2⟩ := ho j _ (List.getElem?_eq_getElem hj)
    rw [h] at e1
    cases e1
    rw [hob]
    exact (List.getElem?_eq_some_iff.mp e2).1
  let bd := ks.map fun k => ad.getD k 0
  have hbd : ∀ (j k : Nat), ks[j]? = some k → bd[j]? = ad[k]? := fun j k h => by
    show (ks.map fun k => ad.getD k 0)[j]? = _
    rw [List.getElem?_map, h, List.getElem?_eq_getElem (hkb h)]
    show some (ad.getD k 0) = _
    rw [List.getD_eq_getElem?_getD, List.getElem?_eq_getElem (hkb h)]
    rfl
  have hbl : bd.length = ks.length := List.length_map _
  have S : Sees (ad0.length + ks.length) (gM ad0.length ks) (ad0 ++ bd) ad := fun j q hj => by
    unfold gM
    by_cases h : j < ad0.length
    · rw [if_pos h, List.getElem?_append_left h]
      have h3 : ad0[j]? = some ad0[j] := List.getElem?_eq_getElem h
      rw [h3, px j _ h3]
    · rw [if_neg h, List.getElem?_append_right (by omega)]
      have h2 : j - ad0.length < ks.length := by omega
      have e : ks[j - ad0.length]? = some ks[j - ad0.length] := List.getElem?_eq_getElem h2
      rw [hbd _ _ e, List.getD_eq_getElem?_getD, e]
      rfl
  refine ⟨bd, hbl, ?_, S⟩
  have adn : (ad0 ++ bd).Nodup := by
    refine List.nodup_append.mpr ⟨R1.adn, ?_, fun a ha b hb => ?_⟩
    · show (ks.map fun k => ad.getD k 0).Nodup
      unfold List.Nodup
      rw [List.pairwise_map]
      refine List.Pairwise.imp_of_mem (fun {a b} ha hb hab z => hab ?_) nd
      obtain ⟨i, hi⟩ := List.getElem?_of_mem ha
      obtain ⟨j, hj⟩ := List.getElem?_of_mem hb
      have ea := List.getElem?_eq_getElem (hkb hi)
      have eb := List.getElem?_eq_getElem (hkb hj)
      refine nodup_at R.adn (x := ad[a]'(hkb hi)) ea ?_
      rw [eb]
      have z' : ad.getD a 0 = ad.getD b 0 := z
      rw [List.getD_eq_getElem?_getD, List.getD_eq_getElem?_getD, ea, eb] at z'
      exact congrArg some z'.symm
    · rintro rfl
      obtain ⟨i, hi⟩ := List.getElem?_of_mem ha
      obtain ⟨j, hj⟩ := List.getElem?_of_mem hb
      have hj2 : j < ks.length := by rw [← hbl]; exact (List.getElem?_eq_some_iff.mp hj).1
      have ej : ks[j]? = some ks[j] := List.getElem?_eq_getElem hj2
      rw [hbd j _ ej] at hj
      have := nodup_at R.adn (px i a hi) hj
      have h1 := (List.getElem?_eq_some_iff.mp hi).1
      have h2 := hk ks[j] (List.getElem_mem hj2)
      omega
  exact {
    len := rfl
    fh := R.fh
    f0 := R.f0
    bh := R.bh
    fr := R.fr
    adl := by
      show (ad0 ++ bd).length = (ob.take ad0.length ++ os).length
      rw [List.length_append, List.length_append, etl, hbl, hlen]
    adn := adn
    pre := hp.trans (Px.app ad0 bd)
    ob := fun j o' q h1 h2 => by
      have h1' : (ob.take ad0.length ++ os)[j]? = some o' := h1
      by_cases hj : j < ad0.length
      · rw [List.getElem?_append_left (by omega)] at h1'
        rw [List.getElem?_append_left hj] at h2
        exact OAt.mono (Ex.refl F) (fun n => n) (fun u hu => hu) (Px.app ad0 bd) (R1.ob j o' q h1' h2)
      · rw [List.getElem?_append_right (by omega)] at h2
        rw [List.getElem?_append_right (by omega), etl] at h1'
        obtain ⟨_, g2, k, g3, g4⟩ := ho _ o' h1'
        rw [hbd _ _ g3] at h2
        exact (OAt.in_ (c' := c) S g2 fun _ => Iff.rfl).mpr (R.ob k _ q g4 h2)
    sl := fun i r h => by simp at h }
theorem fin_ok {P : RV → List OD → Prop} {Q : VK} {F0 : Hp} {r : RV} {v : V} (R : Rel T c ⟨sl, ob⟩ σ F H ad) (hp : Px c.ad0 ad0) (px : Px ad0 ad) (x0 : Ex F0 F) (hr : RvR T F ad r v) (h : fin ad0.length P r ⟨sl, ob⟩)
    (hq : ∀ v H' F' ad' ob' r, Ex F0 F' → Px ad0 ad' → Rel T c ⟨[], ob'⟩ [] F' H' ad' → RvR T F' ad' r v → okNew ad0.length ob' → r.below ob'.length = true → P r ob' → Q v H') : Q v H := by
  have hlen := px_len px
  have hob : ad.length = ob.length := R.adl
  rcases h with ⟨d, ob', h1, h2, h3⟩ | ⟨k, o, rfl, h1, h2, h3, h4, h5, h6⟩ | ⟨k, rfl, h1, h2, h3⟩ | ⟨ks, os, r', h1, h2, h3, h4, h5, rfl, h7, h8⟩
  · obtain ⟨F1, x1, R1, q1⟩ := fzR_ok 9 R h1
    have hob1 : ad.length = ob'.length := R1.adl
    exact hq v H F1 ad0 _ (.val d) (x0.trans x1) (Px.refl _) (R1.first hp px h2) (q1 v hr) (okNew_take (by omega) h2) rfl h3
  · obtain ⟨p, ha, rfl⟩ := hr
    have hm : (ob.take ad0.length).length = ad0.length := by
      rw [List.length_take]
      omega
    refine hq _ H F (ad0 ++ [p]) _ (.ob ad0.length) x0 (Px.push ad0 p) (R.firstNew hp px h5 h1 h2 ha h4) ⟨p, ?_, rfl⟩ ⟨fun j o' g1 g2 => ?_, fun o' ho' => ?_⟩ ?_ h6
    · rw [List.getElem?_append_right (Nat.le_refl _), Nat.sub_self]
      rfl
    · rw [List.getElem?_append_right (by omega), hm] at g2
      have : j - ad0.length = 0 := by
        have := (List.getElem?_eq_some_iff.mp g2).1
        have e1 : [o].length = 1 := rfl
        omega
      rw [this] at g2
      cases g2
      exact h3
    · rw [List.length_append, hm]
      rcases List.mem_append.mp ho' with g | g
      · exact OD.below_mono (by omega) (h5 o' g)
      · have : o' = o := by simpa using g
        subst this
        exact OD.below_mono (by omega) h4
    · simp [RV.below, hm]
  · obtain ⟨p, ha, rfl⟩ := hr
    refine hq _ H F ad0 _ (.ob k) x0 (Px.refl _) (R.first hp px h2) ⟨p, ?_, rfl⟩ (okNew_take (by omega) h2) ?_ h3
    · rw [← take_eq px, List.getElem?_take_of_lt h1]
      exact ha
    · rw [RV.below, List.length_take]
      simp
      omega
  · obtain ⟨bd, b1, R2, S⟩ := R.firstMany hp px h7 h1 h2 h3 h4
    have hm : (ob.take ad0.length).length = ad0.length := by
      rw [List.length_take]
      omega
    refine hq v H F (ad0 ++ bd) _ r' x0 (Px.app ad0 bd) R2 ((RvR.in_ S h5).mpr hr) ⟨fun j o' g1 g2 => ?_, fun o' ho' => ?_⟩ ?_ h8
    · rw [List.getElem?_append_right (by omega), hm] at g2
      exact (h4 _ o' g2).1
    · rw [List.length_append, hm, h3]
      rcases List.mem_append.mp ho' with g | g
      · exact OD.below_mono (by omega) (h7 o' g)
      · obtain ⟨j, hj⟩ := List.getElem?_of_mem g
        exact (h4 j o' hj).2.1
    · rw [List.length_append, hm, h3]
      exact h5
theorem start_ok {N : List Str} {rs : List RV} {vs : List V} (R : Rel T c ⟨[], ob⟩ [] F H ad) (hv : RvL T F ad rs vs) : Rel T c (startE N.length rs ob) (L2.start N vs) F H ad := by
  have hl := hv.len
  refine R.slots (e := ⟨[], ob⟩) ?_ fun i r h => ?_
  · unfold L2.start
    rw [List.length_append, List.length_append, List.length_map, List.length_map, List.length_replicate, List.length_replicate, hl]
  · unfold L2.start
    by_cases hi : i < rs.length
    · rw [List.getElem?_append_left (by simpa using hi), List.getElem?_map] at h
      have h2 : rs[i]? = some r := by
        cases e : rs[i]? with
        | none =>
          rw [e] at h
          cases h
        | some q =>
          rw [e] at h
          cases h
          rfl
      obtain ⟨v, hv1, hr⟩ := hv.get h2
      refine ⟨v, ?_, hr⟩
      rw [List.getElem?_append_left (by rw [List.length_map, hl]; exact hi), List.getElem?_map, hv1]
      rfl
    · rw [List.getElem?_append_right (by simpa using hi), List.getElem?_replicate] at h
      split at h <;> cases h
end
def endP (n : Nat) (P : RV → List OD → Prop) (R : Xc → List OD → Prop) : Post where
  nx := fun e => fin n P (.val .non) e
  rt := fun r e => fin n P r e
  xc := fun x e => finX n R x e
section
variable {T : Cn} {Pg : Program} {w : World} {base : Heap} {k : Nat} {f : Addr} {fd : FuncData} {N ps : List Str} {fx : FX} {name qual : Str} {params : Arguments} {body : List Stmt} {scope : Scope} {dvs : List V} {kws : List (Str × V)}
/-- what a body's rules are about -/
abbrev Bod (T : Cn) (Pg : Program) (w : World) (base : Heap) (k : Nat) (N : List Str) (qual : Str) (scope : Scope) (f : Addr) (body : List Stmt) (t : SX) : Prop :=
  ∀ (cdv : Value) (A : Around) (outer : List PySem.Env) (s : Shared) (H : Hp) (E : XK), Room k (A.deeper (envOfC qual scope s.heap.objs.size f cdv)) → (A.deeper (envOfC qual scope s.heap.objs.size f cdv)).guards = some [] →
    Takes (cxOf (L2.CX Pg w) Pg w T.K T.mg base N qual scope f cdv A outer s H E) (fun cls d _ H => E cls d H) →
    DSs T (cxOf (L2.CX Pg w) Pg w T.K T.mg base N qual scope f cdv A outer s H E) (fun cls d _ H => E cls d H) body t
theorem okG {t : SX} (F : FunD T.K name qual params body scope dvs kws f fd) (S : FnScope N ps scope) (len : ∀ rs ob P R, fx rs ob P R → rs.length = ps.length) (hb : Bod T Pg w base k N qual scope f body t)
    (law : ∀ rs ob P R, fx rs ob P R → t (startE N.length rs ob) (endP ob.length P R)) : FnG T Pg w base (k + 1) f fd ps fx := by
  obtain ⟨oc, od, dV, kV, doc, pm, an, cdv, ct, osl, rfl, lk, hcd, _, _⟩ := F.ex
  refine ⟨len, fun A outer s H args us vs Q E hr hgd e0 hbd rv hsp => ?_⟩
  obtain ⟨c, F1, ad, rs, ob, P, R, rel, hv, hf, hq, hx⟩ := hsp
  have lenV : vs.length = ps.length := by
    rw [hv.len]
    exact len _ _ _ _ hf
  have kin : T.K.In s.heap := e0.mod.kin.keeps fun b o z => (e0.bs b o z).1
  have nol : s.heap.NoLimit := e0.mod.nolimit.keeps fun b o z => (e0.bs b o z).1
  have kinds : ∀ y ∈ ps.zip us, scope.names.lookup y.1 = some .local ∨ (scope.names.lookup y.1 = some .cell ∧ ((cellsFrom (s.heap.objs.size + 1) scope.names []).lookup y.1).isSome = true) := by
    rintro ⟨n, v⟩ hy
    rcases S.par n (List.of_mem_zip hy).1 with g | g
    · exact .inl g
    · exact .inr ⟨g, PySem.W.cellsFrom_some _ _ _ (.inl g)⟩
  refine codeAny_call_function hr.depth (kin _ _ lk) rfl S.co S.gen rfl (PySem.W.codeRec_of kin hcd) (hbd _ _ _ _ (wpAny_newFunctionEnv_cells S.kind kinds fun env henv s1 inc => ?_))
  subst henv
  refine ⟨nol.keeps inc.toInCall.keep, codeAny_func ?_⟩
  have tk : Takes (cxOf (L2.CX Pg w) Pg w T.K T.mg base N qual scope f cdv A outer s H E) (fun cls d _ H => E cls d H) := takes_of rfl rfl rfl rfl
  have run := hb cdv A outer s H E (hr.deeper _) hgd tk
  have I : Inv (cxOf (L2.CX Pg w) Pg w T.K T.mg base N qual scope f cdv A outer s H E) [] (L2.start N vs) H s1 := inv_start S hr.hd e0 lenV rv inc
  have adl : ad.length = ob.length := rel.adl
  have law' := law rs ob P R hf
  rw [← adl] at law' hq hx
  have hls : LS T (fun cls d _ H => E cls d H) t { nx := fun _ H' => Q .non H', rt := Q } (L2.start N vs) H := by
    refine ⟨c, F1, ad, _, _, start_ok rel hv, law', ?_, ?_, ?_, ?_, ?_⟩
    · intro σ' H' F' ad' e' x1 p1 rel1 q1
      exact fin_ok (sl := e'.sl) (ob := e'.ob) rel1 rel.pre p1 x1 (r := .val .non) (v := V.non) ((rep_non (T := T) (F := F')).mpr rfl) q1 hq
    · intro v σ' H' F' ad' e' r x1 p1 rel1 r1 q1
      exact fin_ok (sl := e'.sl) (ob := e'.ob) rel1 rel.pre p1 x1 r1 q1 hq
    · intro cls d σ' H' F' ad' e' x x1 p1 rel1 r1 q1
      have hl2 := px_len p1
      have e2 : ad'.length = e'.ob.length := rel1.adl
      exact hx cls d H' F' ad _ x x1 (Px.refl _) (Rel.first (sl := e'.sl) (ob := e'.ob) rel1 rel.pre p1 q1.1) r1 (okNew_take (by omega) q1.1) q1.2
    · intro σ' H' F' ad' e' x1 p1 rel1 q1
      exact q1
    · intro σ' H' F' ad' e' x1 p1 rel1 q1
      exact q1
  refine wpAny_mono (run.pss.run [] s1 (L2.start N vs) H _ I hls) (fun fl s' hs => ?_) fun e s' hs => hs
  match fl, hs with
  | .ret u, ⟨v, σ', H', J, rr, q⟩ => exact ⟨v, H', J.os, J.bare, J.base, J.hok, rr, q⟩
  | .next, ⟨σ', H', J, q⟩ => exact ⟨V.non, H', J.os, J.bare, J.base, J.hok, rfl, q⟩
  | .brk, ⟨_, _, _, q⟩ => exact q.elim
  | .cont, ⟨_, _, _, q⟩ => exact q.elim
end
end DL
end
section
set_option Elab.async false
set_option linter.all false
set_option autoImplicit false
set_option maxRecDepth 100000
set_option maxHeartbeats 2000000
/-! DLG: statements, targets, walks, loops. -/
namespace DL
open PySem PySem.Spec L2
open PyProof.Rows hiding St

/-! ### targets -/
abbrev GX := RV → Env → (Env → Prop) → Prop
abbrev GXs := List RV → Env → (Env → Prop) → Prop
def LG (T : Cn) (g : GX) : TG := fun v σ H Q => ∃ c F ad e r P, Rel T c e σ F H ad ∧ RvR T F ad r v ∧ g r e P ∧ ∀ σ' H' F' ad' e', Ex F F' → Px ad ad' → Rel T c e' σ' F' H' ad' → P e' → Q σ' H'
def LGs (T : Cn) (g : GXs) : TGs := fun vs σ H Q => ∃ c F ad e rs P, Rel T c e σ F H ad ∧ RvL T F ad rs vs ∧ g rs e P ∧ ∀ σ' H' F' ad' e', Ex F F' → Px ad ad' → Rel T c e' σ' F' H' ad' → P e' → Q σ' H'
structure DG (T : Cn) (X : Cx) (tg : Expr) (g : GX) : Prop where
  pg : PG X tg (LG T g)
structure DGs (T : Cn) (X : Cx) (tgs : List Expr) (g : GXs) : Prop where
  pgs : PGs X tgs (LGs T g)
def gNm (i : Nat) : GX := fun r e P => P { e with sl := e.sl.set i (some r) }
def gsNil : GXs := fun rs e P => rs = [] ∧ P e
def gsCons (g : GX) (u : GXs) : GXs := fun rs e P => ∃ r qs, rs = r :: qs ∧ g r e fun e1 => u qs e1 P
/-- the items of a tuple -/
def tpI (e : Env) (r : RV) : Option (List RV) := match r with
  | .ob k => (match e.ob[k]? with
    | some (.tpr xs) => some xs
    | some (.fz (.tup ds)) => some (ds.map .val)
    | _ => none)
  | .val (.tup ds) => some (ds.map .val)
  | .val _ => none
@[simp] theorem tpI_val (e : Env) (ds : List D) : tpI e (.val (.tup ds)) = some (ds.map .val) := rfl
def gTp (n : Nat) (u : GXs) : GX := fun r e P => ∃ rs, tpI e r = some rs ∧ rs.length = n ∧ u rs e P
section
variable {T : Cn} {X : Cx} {W : WX}
theorem PG.imp {e : Expr} {t u : TG} (h : PG X e t) (g : ∀ v σ H Q, u v σ H Q → t v σ H Q) : PG X e u := ⟨fun pins s σ H v w Q I r q => h.run pins s σ H v w Q I r (g v σ H Q q)⟩
theorem PGs.imp {e : List Expr} {t u : TGs} (h : PGs X e t) (g : ∀ v σ H Q, u v σ H Q → t v σ H Q) : PGs X e u := ⟨fun pins s σ H v w Q I r q => h.run pins s σ H v w Q I r (g v σ H Q q)⟩
theorem tpI_ok {c : BF} {e : Env} {σ : L2.St} {F H : Hp} {ad : List Addr} {r : RV} {v : V} {rs : List RV} (R : Rel T c e σ F H ad) (h : RvR T F ad r v) (q : tpI e r = some rs) : ∃ a vs, v = .ref a ∧ SqT T.K H a vs ∧ RvL T F ad rs vs := by
  have dat : ∀ {ds : List D}, Rep T F (.tup ds) v → ∃ a vs, v = .ref a ∧ SqT T.K H a vs ∧ RvL T F ad (ds.map .val) vs := fun {ds} hr => by
    obtain ⟨a, vs, e1, e2, e3⟩ := rep_tup.mp hr
    exact ⟨a, vs, e1, R.fh.sqt e2, RvL.of e3⟩
  cases r with
  | val d =>
    cases d with
    | tup ds =>
      cases q
      exact dat h
    | _ => cases q
  | ob k =>
    obtain ⟨p, hp, rfl⟩ := h
    obtain ⟨o, ho, oa⟩ := R.obs hp
    unfold tpI at q
    dsimp only at q
    rw [ho] at q
    cases o with
    | tpr xs =>
      cases q
      obtain ⟨_, _, vs, h1, h2⟩ := oa
      exact ⟨p, vs, rfl, .inl (.inl h1), h2⟩
    | fz d =>
      cases d with
      | tup ds =>
        cases q
        exact dat oa.2
      | _ => cases q
    | _ => cases q
theorem dg_name (i : Nat) {x : Str} {pos : Pos} (hN : X.N.Nodup) (hi : X.N[i]? = some x := by rfl) (hx : Loc X.env.scope x := by first | exact Or.inl rfl | exact Or.inr rfl) (hf : X.fn x = true ∨ X.env.scope.names.lookup x = some .local := by first | exact .inl rfl | exact .inr rfl) : DG T X (.Name x pos) (gNm i) :=
  ⟨PG.imp (pg_name hN hi hx hf) fun v σ H Q h => by
    obtain ⟨c, F, ad, e, r, P, rel, rr, q, k⟩ := h
    exact k _ H F ad _ (Ex.refl F) (Px.refl ad) (rel.put rr) q⟩
theorem dgs_nil : DGs T X [] gsNil := ⟨PGs.imp pgs_nil fun v σ H Q h => by
  obtain ⟨c, F, ad, e, rs, P, rel, rr, ⟨rfl, q⟩, k⟩ := h
  exact ⟨rr, k σ H F ad e (Ex.refl F) (Px.refl ad) rel q⟩⟩
theorem dgs_cons {e : Expr} {es : List Expr} {g : GX} {u : GXs} (h1 : DG T X e g) (h2 : DGs T X es u) (hs : (assignEach (e :: es) X.env).map (·.2) = assign e X.env :: (assignEach es X.env).map (·.2) := by rfl) : DGs T X (e :: es) (gsCons g u) :=
  ⟨PGs.imp (pgs_cons h1.pg h2.pgs hs) fun v σ H Q h => by
    obtain ⟨c, F, ad, e, rs, P, rel, rr, ⟨r, qs, rfl, q⟩, k⟩ := h
    obtain ⟨x, xs, e0, rx, rxs⟩ := rr
    refine ⟨x, xs, e0, c, F, ad, e, r, _, rel, rx, q, fun σ' H' F' ad' e' x1 p1 rel1 q1 => ?_⟩
    exact ⟨c, F', ad', e', qs, P, rel1, rxs.mono x1 p1, q1, fun σ2 H2 F2 ad2 e2 x2 p2 => k σ2 H2 F2 ad2 e2 (x1.trans x2) (p1.trans p2)⟩⟩
theorem dg_tup {es : List Expr} {k n : Nat} {u : GXs} {pos : Pos} (hc : X.calm = true) (h : DGs T X es u) (hK : X.K = T.K := by rfl)
    (hn : (assignEach es X.env).length = n := by rfl) (hst : (assignEach es X.env).findIdx? (·.1) = none := by rfl) : DG T X (.Tuple es k pos) (gTp n u) :=
  ⟨PG.imp (pg_tup hc h.pgs hn hst) fun v σ H Q h => by
    obtain ⟨c, F, ad, e, r, P, rel, rr, ⟨rs, e1, e2, q⟩, k⟩ := h
    obtain ⟨a, vs, ev, hs, hv⟩ := tpI_ok rel rr e1
    refine ⟨a, vs, ev, ?_, hv.len.trans e2, c, F, ad, e, rs, P, rel, hv, q, k⟩
    rw [hK]
    exact hs⟩

/-! ### statements -/
def sNext : SX := fun e Po => Po.nx e
def sSeq (t u : SX) : SX := fun e Po => t e { Po with nx := fun e1 => u e1 Po }
def sDrop (t : EX) : SX := fun e Po => t e (fun _ e1 => Po.nx e1) Po.xc
def sRet (t : EX) : SX := fun e Po => t e (fun r e1 => Po.rt r e1) Po.xc
def sRetN : SX := fun e Po => Po.rt (.val .non) e
def sIf (c : TX) (t u : SX) : SX := fun e Po => c e (fun b e1 => if b = true then t e1 Po else u e1 Po) Po.xc
def sAsg (t : EX) (g : GX) : SX := fun e Po => t e (fun r e1 => g r e1 Po.nx) Po.xc
def sBreak : SX := fun e Po => Po.bk e
def sCont : SX := fun e Po => Po.ct e
def sAug (i : Nat) (t : EX) (f : OX) : SX := fun e Po => ∃ r, e.sl[i]? = some (some r) ∧ t e (fun y e1 => f e1 r y fun z e2 => Po.nx { e2 with sl := e2.sl.set i (some z) }) Po.xc
def sPar (i j : Nat) (u : AX) : SX := fun e Po => u e (fun rs e1 => ∃ a b, rs = [a, b] ∧ Po.nx { e1 with sl := (e1.sl.set i (some a)).set j (some b) }) Po.xc
def sPar3 (i j l : Nat) (u : AX) : SX := fun e Po => u e (fun rs e1 => ∃ a b d, rs = [a, b, d] ∧ Po.nx { e1 with sl := ((e1.sl.set i (some a)).set j (some b)).set l (some d) }) Po.xc
variable {a b c : Expr} {ta tb : EX} {tc : TX} {t u : SX} {g : GX} {st : Stmt} {rest ss zs : List Stmt} {pos pos' : Pos}
/-- the wish of a statement's end -/
theorem dss_nil : DSs T X W [] sNext := ⟨PSs.imp pss_nil fun D σ H h => by
  obtain ⟨c, F, ad, e, Po, rel, q, n, _⟩ := h
  exact n σ H F ad e (Ex.refl F) (Px.refl ad) rel q⟩
theorem ds_pass : DS T X W (.Pass pos) sNext := ⟨PS.imp ps_pass fun D σ H h => by
  obtain ⟨c, F, ad, e, Po, rel, q, n, _⟩ := h
  exact n σ H F ad e (Ex.refl F) (Px.refl ad) rel q⟩
theorem ds_doc {x : Str} {j : Nat} {p2 : Pos} : DS T X W (.Expr (.Constant (.str x) j pos) p2) sNext := ⟨PS.imp ps_doc fun D σ H h => by
  obtain ⟨c, F, ad, e, Po, rel, q, n, _⟩ := h
  exact n σ H F ad e (Ex.refl F) (Px.refl ad) rel q⟩
theorem ds_break : DS T X W (.Break pos) sBreak := ⟨PS.imp ps_break fun D σ H h => by
  obtain ⟨c, F, ad, e, Po, rel, q, _, _, _, n, _⟩ := h
  exact n σ H F ad e (Ex.refl F) (Px.refl ad) rel q⟩
theorem ds_cont : DS T X W (.Continue pos) sCont := ⟨PS.imp ps_continue fun D σ H h => by
  obtain ⟨c, F, ad, e, Po, rel, q, _, _, _, _, n⟩ := h
  exact n σ H F ad e (Ex.refl F) (Px.refl ad) rel q⟩
theorem dss_cons (h1 : DS T X W st t) (h2 : DSs T X W rest u) : DSs T X W (st :: rest) (sSeq t u) := ⟨PSs.imp (pss_cons h1.ps h2.pss) fun D σ H h => by
  obtain ⟨c, F, ad, e, Po, rel, q, n, r, x, bk, ct⟩ := h
  refine ⟨c, F, ad, e, _, rel, q, fun σ' H' F' ad' e' x1 p1 rel1 q1 => ?_, r, x, bk, ct⟩
  exact ⟨c, F', ad', e', Po, rel1, q1, fun σ2 H2 F2 ad2 e2 x2 p2 => n σ2 H2 F2 ad2 e2 (x1.trans x2) (p1.trans p2), fun v σ2 H2 F2 ad2 e2 r2 x2 p2 => r v σ2 H2 F2 ad2 e2 r2 (x1.trans x2) (p1.trans p2), x.mono x1 p1,
    fun σ2 H2 F2 ad2 e2 x2 p2 => bk σ2 H2 F2 ad2 e2 (x1.trans x2) (p1.trans p2), fun σ2 H2 F2 ad2 e2 x2 p2 => ct σ2 H2 F2 ad2 e2 (x1.trans x2) (p1.trans p2)⟩⟩
theorem dss_one (h : DS T X W st t) : DSs T X W [st] t := ⟨pss_one h.ps⟩
theorem ds_expr (h : DE T X W a ta) (hs : swapsWith a none pos.line X.env = pure false := by rfl) : DS T X W (.Expr a pos) (sDrop ta) := ⟨PS.imp (ps_expr h.pe hs) fun D σ H h => by
  obtain ⟨c, F, ad, e, Po, rel, q, n, _, x, _⟩ := h
  exact ⟨c, F, ad, e, _, _, rel, q, fun v H1 F1 ad1 e1 r x1 p1 rel1 r1 q1 => n σ H1 F1 ad1 e1 x1 p1 rel1 q1, x⟩⟩
theorem ds_ret (h : DE T X W a ta) : DS T X W (.Return (some a) pos) (sRet ta) := ⟨PS.imp (ps_ret h.pe) fun D σ H h => by
  obtain ⟨c, F, ad, e, Po, rel, q, _, r, x, _⟩ := h
  exact ⟨c, F, ad, e, _, _, rel, q, fun v H1 F1 ad1 e1 rr x1 p1 rel1 r1 q1 => r v σ H1 F1 ad1 e1 rr x1 p1 rel1 r1 q1, x⟩⟩
theorem ds_retN : DS T X W (.Return none pos) sRetN := ⟨PS.imp ps_retN fun D σ H h => by
  obtain ⟨c, F, ad, e, Po, rel, q, _, r, x, _⟩ := h
  exact r .non σ H F ad e (.val .non) (Ex.refl F) (Px.refl ad) rel ((rep_non (T := T) (F := F)).mpr rfl) q⟩
theorem ds_if (hc : DT T X W a tc) (h1 : DSs T X W ss t) (h2 : DSs T X W zs u) : DS T X W (.If a ss zs pos) (sIf tc t u) := ⟨PS.imp (ps_if hc.pt h1.pss h2.pss) fun D σ H h => by
  obtain ⟨c, F, ad, e, Po, rel, q, n, r, x, bk, ct⟩ := h
  refine ⟨c, F, ad, e, _, _, rel, q, fun k H1 F1 ad1 e1 x1 p1 rel1 q1 => ?_, x⟩
  have go : ∀ {z : SX}, z e1 Po → LS T W z D σ H1 := fun {z} hz => ⟨c, F1, ad1, e1, Po, rel1, hz, fun σ2 H2 F2 ad2 e2 x2 p2 => n σ2 H2 F2 ad2 e2 (x1.trans x2) (p1.trans p2), fun v σ2 H2 F2 ad2 e2 r2 x2 p2 => r v σ2 H2 F2 ad2 e2 r2 (x1.trans x2) (p1.trans p2), x.mono x1 p1,
    fun σ2 H2 F2 ad2 e2 x2 p2 => bk σ2 H2 F2 ad2 e2 (x1.trans x2) (p1.trans p2), fun σ2 H2 F2 ad2 e2 x2 p2 => ct σ2 H2 F2 ad2 e2 (x1.trans x2) (p1.trans p2)⟩
  cases k with
  | true =>
    rw [if_pos rfl] at q1
    dsimp only
    rw [if_pos rfl]
    exact go q1
  | false => exact go q1⟩
theorem ls_asg {D : Ends} {σ : L2.St} {H : Hp} (h : LS T W (sAsg ta g) D σ H) : tAsg (LE T W ta) (LG T g) D σ H := by
  obtain ⟨c, F, ad, e, Po, rel, q, n, r, x, bk, ct⟩ := h
  refine ⟨c, F, ad, e, _, _, rel, q, fun v H1 F1 ad1 e1 rr x1 p1 rel1 r1 q1 => ?_, x⟩
  exact ⟨c, F1, ad1, e1, rr, _, rel1, r1, q1, fun σ2 H2 F2 ad2 e2 x2 p2 rel2 q2 => n σ2 H2 F2 ad2 e2 (x1.trans x2) (p1.trans p2) rel2 q2⟩
theorem ds_asg (h : DE T X W b ta) (hg : DG T X a g) (hs : swapsWithSole [a] b pos.line X.env = pure false := by rfl) (hw : swappedStores [a] b X.env = pure none := by rfl)
    (h1 : (assignEach [a] X.env).map (·.2) = [assign a X.env] := by rfl) : DS T X W (.Assign [a] b pos) (sAsg ta g) :=
  ⟨PS.imp (ps_asg h.pe hg.pg hs hw h1) fun D σ H h => ls_asg h⟩
theorem ds_set (i : Nat) {x : Str} (h : DE T X W b ta) (hN : X.N.Nodup) (hs : swapsWith b (some (.Name x pos')) pos.line X.env = pure false := by rfl) (hi : X.N[i]? = some x := by rfl) (hx : Loc X.env.scope x := by first | exact Or.inl rfl | exact Or.inr rfl)
    (hf : X.fn x = true ∨ X.env.scope.names.lookup x = some .local := by first | exact .inl rfl | exact .inr rfl) : DS T X W (.Assign [.Name x pos'] b pos) (sAsg ta (gNm i)) :=
  ⟨PS.imp (ps_set hN hi hx h.pe hs hf) fun D σ H h => by
    obtain ⟨c, F, ad, e, Po, rel, q, n, r, x, bk, ct⟩ := h
    exact ⟨c, F, ad, e, _, _, rel, q, fun v H1 F1 ad1 e1 rr x1 p1 rel1 r1 q1 => n _ H1 F1 ad1 _ x1 p1 (rel1.put r1) q1, x⟩⟩
theorem ds_aug (i : Nat) {x : Str} {op : Operator} {r : R2} {f : OX} (hr : OpR X (inplaceOp op) r) (ho : OpD T r f) (h : DE T X W b ta) (hN : X.N.Nodup) (hi : X.N[i]? = some x := by rfl) (hx : Loc X.env.scope x := by first | exact Or.inl rfl | exact Or.inr rfl)
    (hf : X.fn x = true ∨ X.env.scope.names.lookup x = some .local := by first | exact .inl rfl | exact .inr rfl) : DS T X W (.AugAssign (.Name x pos') op b pos) (sAug i ta f) :=
  ⟨PS.imp (ps_aug hN hi hx h.pe (ti := r) hr hf) fun D σ H h => by
    obtain ⟨c, F, ad, e, Po, rel, ⟨rx, hsl, q⟩, n, r, x, bk, ct⟩ := h
    obtain ⟨v, hv, rv⟩ := rel.sl i rx hsl
    refine ⟨v, hv, c, F, ad, e, _, _, rel, q, fun y H1 F1 ad1 e1 ry x1 p1 rel1 r1 q1 => ?_, x⟩
    refine ho c F1 ad1 e1 σ H1 v y rx ry _ _ rel1 (rv.mono x1 p1) r1 q1 fun z H2 F2 ad2 e2 rz x2 p2 rel2 r2 q2 => ?_
    exact n _ H2 F2 ad2 _ (x1.trans x2) (p1.trans p2) (rel2.put r2) q2⟩
theorem ds_par (i j : Nat) {x y : Str} {px py pt : Pos} {kt k2 : Nat} {pt2 : Pos} {aa bb : Expr} {v : AX} (hc : X.calm = true) (hN : X.N.Nodup) (ha : DA T X W [aa, bb] v) (hij : i ≠ j := by decide) (hi : X.N[i]? = some x := by rfl) (hj : X.N[j]? = some y := by rfl)
    (hx : X.env.scope.names.lookup x = some .local := by rfl) (hy : X.env.scope.names.lookup y = some .local := by rfl)
    (hw : swappedStores [.Tuple [.Name x px, .Name y py] kt pt] (.Tuple [aa, bb] k2 pt2) X.env = pure (some [x, y]) := by rfl)
    (hs : swapsWithSole [.Tuple [.Name x px, .Name y py] kt pt] (.Tuple [aa, bb] k2 pt2) pos.line X.env = pure false := by rfl) :
    DS T X W (.Assign [.Tuple [.Name x px, .Name y py] kt pt] (.Tuple [aa, bb] k2 pt2) pos) (sPar i j v) :=
  ⟨PS.imp (ps_par hc hN hi hj hij hx hy ha.pa hw hs) fun D σ H h => by
    obtain ⟨c, F, ad, e, Po, rel, q, n, r, x, bk, ct⟩ := h
    refine ⟨c, F, ad, e, _, _, rel, q, fun vs H1 F1 ad1 e1 rs x1 p1 rel1 r1 q1 => ?_, x⟩
    obtain ⟨ra, rb, rfl, q2⟩ := q1
    obtain ⟨v, w, rfl, h1, h2⟩ := rv2 r1
    exact ⟨v, w, rfl, n _ H1 F1 ad1 _ x1 p1 (Rel.put (e := { e1 with sl := e1.sl.set i (some ra) }) (rel1.put h1) h2) q2⟩⟩
theorem rv3 {F : Hp} {ad : List Addr} {r r' r'' : RV} {xs : List V} (h : RvL T F ad [r, r', r''] xs) : ∃ v w z, xs = [v, w, z] ∧ RvR T F ad r v ∧ RvR T F ad r' w ∧ RvR T F ad r'' z := by
  obtain ⟨v, q, rfl, h1, w, q2, rfl, h2, z, q3, rfl, h3, rfl⟩ := h
  exact ⟨v, w, z, rfl, h1, h2, h3⟩
theorem ds_par3 (i j l : Nat) {x y z : Str} {px py pz pt : Pos} {kt k2 : Nat} {pt2 : Pos} {aa bb cc : Expr} {v : AX} (hc : X.calm = true) (hN : X.N.Nodup) (ha : DA T X W [aa, bb, cc] v) (hij : i ≠ j := by decide) (hil : i ≠ l := by decide) (hjl : j ≠ l := by decide)
    (hi : X.N[i]? = some x := by rfl) (hj : X.N[j]? = some y := by rfl) (hl : X.N[l]? = some z := by rfl)
    (hx : X.env.scope.names.lookup x = some .local := by rfl) (hy : X.env.scope.names.lookup y = some .local := by rfl) (hz : X.env.scope.names.lookup z = some .local := by rfl)
    (hw : swappedStores [.Tuple [.Name x px, .Name y py, .Name z pz] kt pt] (.Tuple [aa, bb, cc] k2 pt2) X.env = pure (some [x, y, z]) := by rfl)
    (hs : swapsWithSole [.Tuple [.Name x px, .Name y py, .Name z pz] kt pt] (.Tuple [aa, bb, cc] k2 pt2) pos.line X.env = pure false := by rfl) :
    DS T X W (.Assign [.Tuple [.Name x px, .Name y py, .Name z pz] kt pt] (.Tuple [aa, bb, cc] k2 pt2) pos) (sPar3 i j l v) :=
  ⟨PS.imp (ps_par3 hc hN hi hj hl hij hil hjl hx hy hz ha.pa hw hs) fun D σ H h => by
    obtain ⟨c, F, ad, e, Po, rel, q, n, r, x, bk, ct⟩ := h
    refine ⟨c, F, ad, e, _, _, rel, q, fun vs H1 F1 ad1 e1 rs x1 p1 rel1 r1 q1 => ?_, x⟩
    obtain ⟨ra, rb, rd, rfl, q2⟩ := q1
    obtain ⟨v, w, u, rfl, h1, h2, h3⟩ := rv3 r1
    exact ⟨v, w, u, rfl, n _ H1 F1 ad1 _ x1 p1 (Rel.put (e := { e1 with sl := (e1.sl.set i (some ra)).set j (some rb) }) (Rel.put (e := { e1 with sl := e1.sl.set i (some ra) }) (rel1.put h1) h2) h3) q2⟩⟩
end

/-! ### walks -/
/-- what is walked: its items, as long as the guard holds -/
abbrev IX := Env → (List RV → (Env → Prop) → Env → Prop) → (Xc → Env → Prop) → Prop
structure WL (T : Cn) (c : BF) (F0 : Hp) (ad0 : List Addr) (J : It) (all : List RV) (G : Env → Prop) : Prop where
  go : ∀ e σ F H ad i r, Ex F0 F → Px ad0 ad → Rel T c e σ F H ad → G e → all[i]? = some r → J.go i H
  yld : ∀ e σ F H ad i r x H', Ex F0 F → Px ad0 ad → Rel T c e σ F H ad → G e → all[i]? = some r → J.yld i H x H' → ∃ F', Ex F F' ∧ Rel T c e σ F' H' ad ∧ RvR T F' ad r x
  stop : ∀ e σ F H ad, Ex F0 F → Px ad0 ad → Rel T c e σ F H ad → G e → J.stop all.length H
def LI (T : Cn) (W : WX) (t : IX) : TI := fun σ H R => ∃ c F ad e P Rx, Rel T c e σ F H ad ∧ t e P Rx ∧
  (∀ J H' F' ad' e' all G, Ex F F' → Px ad ad' → Rel T c e' σ F' H' ad' → WL T c F' ad' J all G → P all G e' → R J H') ∧ XL T c W F ad Rx
structure DI (T : Cn) (X : Cx) (W : WX) (tg iter : Expr) (t : IX) : Prop where
  pi : PI X tg iter (LI T W t)
def forX (g : GX) (b : SX) (G : Env → Prop) (Po : Post) : List RV → Env → Prop
  | [], e => G e ∧ Po.nx e
  | r :: rs, e => G e ∧ g r e fun e1 => b e1 { nx := forX g b G Po rs, rt := Po.rt, xc := Po.xc, bk := Po.nx, ct := forX g b G Po rs }
def sFor (t : IX) (g : GX) (b : SX) : SX := fun e Po => t e (fun all G e1 => forX g b G Po all e1) Po.xc
def whileX (c : TX) (b : SX) (Po : Post) : Nat → Env → Prop
  | 0, _ => False
  | n + 1, e => c e (fun k e1 => if k = true then b e1 { nx := whileX c b Po n, rt := Po.rt, xc := Po.xc, bk := Po.nx, ct := whileX c b Po n } else Po.nx e1) Po.xc
def sWhile (c : TX) (b : SX) : SX := fun e Po => ∃ n, whileX c b Po n e
section
variable {T : Cn} {X : Cx} {W : WX} {a : Expr} {tc : TX} {t : SX} {g : GX} {ss : List Stmt} {pos : Pos}
theorem ds_while (hp : PassesOwn (model X.prog X.w) X.A X.env X.xe) (hc : DT T X W a tc) (hb : DSs T X W ss t) : DS T X W (.While a ss [] pos) (sWhile tc t) := ⟨PS.imp (ps_while hp hc.pt hb.pss) fun D σ H h => by
  obtain ⟨c, F, ad, e, Po, rel, ⟨n0, q0⟩, n, r, x, bk, ct⟩ := h
  refine ⟨fun m σ1 H1 => ∃ F1 ad1 e1, Ex F F1 ∧ Px ad ad1 ∧ Rel T c e1 σ1 F1 H1 ad1 ∧ whileX tc t Po m e1, ⟨n0, F, ad, e, Ex.refl F, Px.refl ad, rel, q0⟩, ?_⟩
  rintro m σ1 H1 ⟨F1, ad1, e1, x1, p1, rel1, q1⟩
  cases m with
  | zero => exact q1.elim
  | succ m =>
    refine ⟨c, F1, ad1, e1, _, _, rel1, q1, fun k H2 F2 ad2 e2 x2 p2 rel2 q2 => ?_, x.mono x1 p1⟩
    have x12 := x1.trans x2
    have p12 := p1.trans p2
    cases k with
    | true =>
      rw [if_pos rfl] at q2
      dsimp only
      rw [if_pos rfl]
      refine ⟨fun σ3 H3 => ∃ F3 ad3 e3, Ex F F3 ∧ Px ad ad3 ∧ Rel T c e3 σ3 F3 H3 ad3 ∧ whileX tc t Po m e3, fun σ3 H3 h3 => ⟨m, Nat.lt_succ_self m, h3⟩, ?_⟩
      refine ⟨c, F2, ad2, e2, _, rel2, q2, fun σ3 H3 F3 ad3 e3 x3 p3 rel3 q3 => ⟨F3, ad3, e3, x12.trans x3, p12.trans p3, rel3, q3⟩, fun v σ3 H3 F3 ad3 e3 r3 x3 p3 => r v σ3 H3 F3 ad3 e3 r3 (x12.trans x3) (p12.trans p3), x.mono x12 p12,
        fun σ3 H3 F3 ad3 e3 x3 p3 rel3 q3 => n σ3 H3 F3 ad3 e3 (x12.trans x3) (p12.trans p3) rel3 q3, fun σ3 H3 F3 ad3 e3 x3 p3 rel3 q3 => ⟨F3, ad3, e3, x12.trans x3, p12.trans p3, rel3, q3⟩⟩
    | false => exact n σ1 H2 F2 ad2 e2 x12 p12 rel2 q2⟩
theorem ds_for {iter tg : Expr} {ti : IX} (hp : PassesOwn (model X.prog X.w) X.A X.env X.xe) (hc : X.calm = true) (hi : DI T X W tg iter ti) (hg : DG T X tg g) (hb : DSs T X W ss t)
    (hs : ∀ x, foldedSetIterable iter X.env x = pure x := by intro _; rfl) : DS T X W (.For tg iter ss [] pos) (sFor ti g t) := ⟨PS.imp (ps_for hp hc hi.pi hg.pg hb.pss hs) fun D σ H h => by
  obtain ⟨c, F, ad, e, Po, rel, q, n, r, x, bk, ct⟩ := h
  refine ⟨c, F, ad, e, _, _, rel, q, fun J H0 F0 ad0 e0 all G x0 p0 rel0 wl q0 => ?_, x⟩
  refine ⟨fun i m σ1 H1 => ∃ F1 ad1 e1, m + i = all.length ∧ Ex F0 F1 ∧ Px ad0 ad1 ∧ Rel T c e1 σ1 F1 H1 ad1 ∧ forX g t G Po (all.drop i) e1, ⟨all.length, F0, ad0, e0, rfl, Ex.refl F0, Px.refl ad0, rel0, q0⟩, ?_⟩
  rintro i m σ1 H1 ⟨F1, ad1, e1, hm, x1, p1, rel1, q1⟩
  cases hd : all.drop i with
  | nil =>
    rw [hd] at q1
    have hi : i = all.length := by
      have := congrArg List.length hd
      rw [List.length_drop] at this
      have e0 : ([] : List RV).length = 0 := rfl
      omega
    refine .inl ⟨?_, n σ1 H1 F1 ad1 e1 (x0.trans x1) (p0.trans p1) rel1 q1.2⟩
    rw [hi]
    exact wl.stop e1 σ1 F1 H1 ad1 x1 p1 rel1 q1.1
  | cons rr rs =>
    rw [hd] at q1
    have hi : all[i]? = some rr := by
      have := congrArg (fun l => l[0]?) hd
      simpa using this
    have hds : all.drop (i + 1) = rs := by
      have := congrArg List.tail hd
      simpa using this
    have hil : i < all.length := (List.getElem?_eq_some_iff.mp hi).1
    refine .inr ⟨wl.go e1 σ1 F1 H1 ad1 i rr x1 p1 rel1 q1.1 hi, fun σ3 H3 => ∃ F3 ad3 e3, Ex F0 F3 ∧ Px ad0 ad3 ∧ Rel T c e3 σ3 F3 H3 ad3 ∧ forX g t G Po rs e3, fun σ3 H3 ⟨F3, ad3, e3, y1, y2, y3, y4⟩ => ⟨m - 1, by omega, F3, ad3, e3, by omega, y1, y2, y3, by rw [hds]; exact y4⟩, fun v H2 hy => ?_⟩
    obtain ⟨F2, x2, rel2, rv⟩ := wl.yld e1 σ1 F1 H1 ad1 i rr v H2 x1 p1 rel1 q1.1 hi hy
    have x12 := x1.trans x2
    refine ⟨c, F2, ad1, e1, rr, _, rel2, rv, q1.2, fun σ3 H3 F3 ad3 e3 x3 p3 rel3 q3 => ?_⟩
    have x13 := x12.trans x3
    have p13 := p1.trans p3
    refine ⟨c, F3, ad3, e3, _, rel3, q3, fun σ4 H4 F4 ad4 e4 x4 p4 rel4 q4 => ⟨F4, ad4, e4, x13.trans x4, p13.trans p4, rel4, q4⟩, fun v σ4 H4 F4 ad4 e4 r4 x4 p4 => r v σ4 H4 F4 ad4 e4 r4 (x0.trans (x13.trans x4)) (p0.trans (p13.trans p4)), x.mono (x0.trans x13) (p0.trans p13),
      fun σ4 H4 F4 ad4 e4 x4 p4 rel4 q4 => n σ4 H4 F4 ad4 e4 (x0.trans (x13.trans x4)) (p0.trans (p13.trans p4)) rel4 q4, fun σ4 H4 F4 ad4 e4 x4 p4 rel4 q4 => ⟨F4, ad4, e4, x13.trans x4, p13.trans p4, rel4, q4⟩⟩⟩
end
end DL
end
section
set_option Elab.async false
set_option linter.all false
set_option autoImplicit false
set_option maxRecDepth 100000
set_option maxHeartbeats 2000000
/-! DLH: what loops walk: lists, tuples, texts, ranges, enumerate. -/
namespace DL
open PySem PySem.Spec L2
open PyProof.Rows hiding St

/-! ### iter(v) by values -/
def IterR (X : Cx) (tg : Expr) (r : V → Hp → (It → Hp → Prop) → Prop) : Prop :=
  ∀ (pins : List (Addr × Obj)) (s : Shared) (σ : L2.St) (H : Hp) (x : V) (v : Value) (R : It → Hp → Prop), Inv X pins σ H s → RelV x v → r x H R → wpAny (model X.prog X.w) X.A (pyIter v) (PIE X pins σ tg R) X.xe s
def rSeq (K : PySem.W.Frag) (x : V) (H : Hp) (R : It → Hp → Prop) : Prop :=
  (∃ a xs, x = .ref a ∧ SqL K H a xs ∧ R (Itl K a) H) ∨ (∃ a xs, x = .ref a ∧ SqT K H a xs ∧ R (Itt K a) H) ∨ (∃ z, x = .str z ∧ R (Its z) H)
section
variable {X : Cx} {tg : Expr}
theorem iter_seq : IterR X tg (rSeq X.K) := by
  intro pins s σ H x v R I rv h
  rcases h with ⟨a, xs, rfl, hs, q⟩ | ⟨a, xs, rfl, hs, q⟩ | ⟨z, rfl, q⟩
  · obtain rfl : v = Value.ref a := rv
    obtain ⟨its, _, pl, _⟩ := I.list hs
    exact wpAny_pyIter_list pl.isList (pi_one (tk := s.toks) I _ (turn_list a s.heap.objs.size) ⟨_, Heap.get?_push_size _ rfl, rfl, rfl⟩ q)
  · obtain rfl : v = Value.ref a := rv
    obtain ⟨its, _, pl, _⟩ := I.tuple hs
    exact wpAny_pyIter_tuple (show s.heap.IsTuple a its.toArray from pl) (pi_one (tk := s.toks) I _ (turn_tuple a s.heap.objs.size) ⟨_, Heap.get?_push_size _ rfl, rfl, rfl⟩ q)
  · obtain ⟨t, rfl⟩ := rv
    cases hz : z.cps.all (· < 128) with
    | true => exact wpAny_pyIter_ascii hz (pi_one (tk := s.toks) I _ (turn_str _ z t "str_ascii_iterator" (.inl rfl)) ⟨_, Heap.get?_push_size _ rfl, rfl, rfl⟩ q)
    | false => exact wpAny_pyIter_wide hz (pi_one (tk := s.toks) I _ (turn_str _ z t "str_iterator" (.inr rfl)) ⟨_, Heap.get?_push_size _ rfl, rfl, rfl⟩ q)
theorem pi_of {l : Expr} {tl : TE} {r : V → Hp → (It → Hp → Prop) → Prop} (hl : PE X l tl) (hr : IterR X tg r) : PI X tg l (fun σ H R => tl σ H fun x H1 => r x H1 R) :=
  ⟨fun pins s σ H R I h => thn (hl.run pins s σ H _ I h) fun v s1 ⟨x, H1, I1, r1, q1⟩ => hr pins s1 σ H1 x v R I1 r1 q1⟩
end

/-! ### enumerate(text) -/
def ItES (z : Str) : It :=
  ⟨fun i _ => i < z.cps.size, fun i H v H' => ∃ p c, v = .ref p ∧ H p = none ∧ H' = upd H p (.tup [.int (i : Nat), .str ⟨#[c]⟩]) ∧ z.cps[i]? = some c, fun i _ => i = z.cps.size⟩
theorem turn_enumS {P : Program} {w : World} {K : PySem.W.Frag} {elts : List Expr} {kk : Nat} {tpos : Pos} (e it : Addr) (z : Str) (t : Tok) :
    Turn P w K (.Tuple elts kk tpos) (ItES z) [e, it] e (fun i h => (∃ old, IsEnum h e it ((i : Nat) : Int) old) ∧ h.IsStrIter it (strIterType z) z t i ∧ e ≠ it) where
  mem := by simp
  obj := fun i h st b hb => by
    obtain ⟨⟨old, he⟩, ⟨o, ho, hc, hd⟩, _⟩ := st
    have e' : b = e ∨ b = it := by simpa using hb
    rcases e' with q | q
    · rw [q]; exact ⟨_, he, fun v q => nomatch q⟩
    · rw [q]; exact ⟨o, ho, fun v q => by rw [hd] at q; cases q⟩
  keep := fun i h h' st k => let ⟨⟨old, he⟩, ⟨o, ho, r⟩, hne⟩ := st; ⟨⟨old, k e (by simp) _ he⟩, ⟨o, k it (by simp) o ho, r⟩, hne⟩
  item := by
    intro X hP hw hK hc i pins s σ H E I hf st hg
    subst hP hw hK
    obtain ⟨⟨old, he⟩, hit, hne⟩ := st
    have hel : e < s.heap.objs.size := Heap.lt_size he
    have hil : it < s.heap.objs.size := by obtain ⟨_, q, _⟩ := hit; exact Heap.lt_size q
    have D : Draws X.prog X.w X.A.in1 it [it] z.cps.size (fun i v => ∃ c u, z.cps[i]? = some c ∧ v = .str ⟨#[c]⟩ u) (fun i h => h.IsStrIter it (strIterType z) z t i) := by
      unfold strIterType
      split
      · exact Draws.strAscii (A := X.A.in1) (show X.A.in1.handled = none from I.ok.hd hc) it z t
      · exact Draws.strWide (A := X.A.in1) (show X.A.in1.handled = none from I.ok.hd hc) it z t
    refine wpAny_pyNext_enum_itemD D he hit hg hne (by simpa using hne) fun x h' tk hx ho hit' hT hsz hk => ?_
    obtain ⟨c, u, hcx, rfl⟩ := hx
    refine ⟨_, rfl, wpAny_letOwnedTupleGo_enum (s := { s with heap := h', toks := tk + 1 }) ho fun h'' he' sb => ?_⟩
    have hT2 : h''.get? s.heap.objs.size = some { cls := .type "tuple", data := .seq #[.int i tk, .str ⟨#[c]⟩ u] } := (sb.2 _ (Nat.ne_of_gt hel)).trans hT
    have new : ObjOk X.prog X.w (upd H s.heap.objs.size (.tup [.int (i : Nat), .str ⟨#[c]⟩])) h'' s.heap.objs.size (.tup [.int (i : Nat), .str ⟨#[c]⟩]) :=
      ⟨by show 2 ≤ sizeLine; decide, [.int i tk, .str ⟨#[c]⟩ u], .cons ⟨_, rfl⟩ (.cons ⟨_, rfl⟩ .nil), ⟨_, hT2, rfl, _, rfl⟩⟩
    have I1 : Inv X pins σ (upd H s.heap.objs.size (.tup [.int (i : Nat), .str ⟨#[c]⟩])) { s with heap := h'', toks := tk + 1 } :=
      I.turnedNew (ch := [e, it]) (fun b ob hb q => (sb.2 b (fun z => hb (by simp [z]))).trans (hk b ob (fun z => hb (by simp [z])) (fun z => hb (by simp [z])) q)) hf (Nat.le_refl _) new
    refine ⟨.ref s.heap.objs.size, _, I1, rfl, ⟨_, c, rfl, I.hok.fresh (Nat.le_refl _), rfl, hcx⟩, ⟨⟨.str ⟨#[c]⟩ u, ?_⟩, ?_, hne⟩, fun b hb => ?_⟩
    · have e1 : ((i + 1 : Nat) : Int) = (i : Int) + 1 := by omega
      rw [e1]; exact he'
    · obtain ⟨o, q1, q2⟩ := hit'
      exact ⟨o, (sb.2 it (Ne.symm hne)).trans q1, q2⟩
    · have hb' : b < s.heap.objs.size := by
        have e' : b = e ∨ b = it := by simpa using hb
        rcases e' with q | q
        · rw [q]; exact hel
        · rw [q]; exact hil
      rw [upd_ne (Nat.ne_of_lt hb')]
      exact (hf b hb).1
  done := by
    intro X hP hw hK hc i pins s σ H E I hf st hg
    subst hP hw hK
    have hg' : i = z.cps.size := hg
    subst hg'
    obtain ⟨⟨old, he⟩, hit, hne⟩ := st
    obtain ⟨f0, f1, f2, f3, f4, f5⟩ := hf it (by simp)
    have D : Draws X.prog X.w X.A.in1 it [it] z.cps.size (fun i v => ∃ c u, z.cps[i]? = some c ∧ v = .str ⟨#[c]⟩ u) (fun i h => h.IsStrIter it (strIterType z) z t i) := by
      unfold strIterType
      split
      · exact Draws.strAscii (A := X.A.in1) (show X.A.in1.handled = none from I.ok.hd hc) it z t
      · exact Draws.strWide (A := X.A.in1) (show X.A.in1.handled = none from I.ok.hd hc) it z t
    exact wpAny_pyNext_enum_endD D he hit fun h' eb => ⟨rfl, I.turned (t' := s.toks) (fun b o hb q => eb b o hb q) f0 f1 f3 f4 f5⟩
  self := fun A i s Q E st h => let ⟨⟨_, he⟩, _⟩ := st; wpAny_pyIter_enum he h
def iEnumA (K : PySem.W.Frag) (ta : TA) : TI := fun σ H R => ta σ H fun vs H1 => (∃ a xs, vs = [.ref a] ∧ SqL K H1 a xs ∧ R (Ite K a) H1) ∨ (∃ z, vs = [.str z] ∧ R (ItES z) H1)
theorem pi_enumA {X : Cx} {e : Expr} {ta : TA} {p pos tpos : Pos} {elts : List Expr} {kk : Nat} (hg : Gl X "enumerate") (hm : X.mg "enumerate" = none) (ha : PA X [e] ta) (hs : starEach [e] X.env = [(false, eval e X.env)] := by rfl) :
    PI X (.Tuple elts kk tpos) (.Call (.Name "enumerate" p) [e] [] pos) (iEnumA X.K ta) := by
  refine ⟨fun pins s σ H R I h => Call_ (ld_blt I hg hm boot_enumerate (PyProof.Rows.callWith_type1 (thn (ha.run pos pins s σ H _ I h) fun us s1 ⟨vs, H1, I1, r1, q1⟩ => ?_) hs rfl))⟩
  have two : ∀ {h' : Heap} {J : It} {tn : Nat → Heap → Prop}, (∀ b o, s1.heap.get? b = some o → h'.get? b = some o) → Turn X.prog X.w X.K (.Tuple elts kk tpos) J [s1.heap.objs.size + 1, s1.heap.objs.size] (s1.heap.objs.size + 1) tn → tn 0 h' → R J H1 →
      PIE X pins σ (.Tuple elts kk tpos) R (.ref (s1.heap.objs.size + 1)) { s1 with heap := h' } := fun {h' J tn} hk T st q =>
    ⟨s1.heap.objs.size + 1, [s1.heap.objs.size + 1, s1.heap.objs.size], _, _, H1, rfl, I1.kept (t' := s1.toks) hk, T, st, fun b hb => by
      have hle : s1.heap.objs.size ≤ b := by
        have e' : b = s1.heap.objs.size + 1 ∨ b = s1.heap.objs.size := by simpa using hb
        rcases e' with q | q
        · rw [q]; exact Nat.le_add_right _ _
        · rw [q]; exact Nat.le_refl _
      exact I1.fpOk hle (I1.hok.fresh hle), q⟩
  rcases q1 with ⟨a, xs, rfl, hq, q⟩ | ⟨z, rfl, q⟩
  · obtain ⟨u, rfl, ru⟩ := vals1 r1
    obtain rfl : u = Value.ref a := ru
    obtain ⟨its, rv, p', hz⟩ := I1.list hq
    exact call_enumerate_list p'.isList fun h' he hit hsz hk => wpAny_pyIter_enum he (two hk (turn_enum a _ _) ⟨⟨.none, he⟩, hit, Nat.succ_ne_self _⟩ q)
  · obtain ⟨u, rfl, t, rfl⟩ := vals1 r1
    exact call_enumerate_str fun h' he hit hsz hk => wpAny_pyIter_enum he (two hk (turn_enumS _ _ z t) ⟨⟨.none, he⟩, hit, Nat.succ_ne_self _⟩ q)

/-! ### the same by data -/
/-- items, guard -/
def seqI (e : Env) (r : RV) : Option (List RV × (Env → Prop)) := match r with
  | .val (.lst ds) => some (ds.map .val, fun _ => True)
  | .val (.tup ds) => some (ds.map .val, fun _ => True)
  | .val (.str s) => some (s.map fun c => .val (.str [c]), fun _ => True)
  | .val _ => none
  | .ob k => match e.ob[k]? with
    | some (.lst ds) => some (ds.map .val, fun e' => e'.ob[k]? = some (.lst ds))
    | some (.lsr xs) => some (xs, fun e' => e'.ob[k]? = some (.lsr xs))
    | some (.tpr xs) => some (xs, fun e' => e'.ob[k]? = some (.tpr xs))
    | some (.fz (.lst ds)) => some (ds.map .val, fun _ => True)
    | some (.fz (.tup ds)) => some (ds.map .val, fun _ => True)
    | _ => none
@[simp] theorem seqI_lst (e : Env) (ds : List D) : seqI e (.val (.lst ds)) = some (ds.map .val, fun _ => True) := rfl
@[simp] theorem seqI_tup (e : Env) (ds : List D) : seqI e (.val (.tup ds)) = some (ds.map .val, fun _ => True) := rfl
@[simp] theorem seqI_str (e : Env) (s : List Nat) : seqI e (.val (.str s)) = some (s.map fun c => .val (.str [c]), fun _ => True) := rfl
theorem seqI_ob {e : Env} {k : Nat} {ds : List D} (h : e.ob[k]? = some (.lst ds)) : seqI e (.ob k) = some (ds.map .val, fun e' => e'.ob[k]? = some (.lst ds)) := by simp [seqI, h]
def iSeq (t : EX) : IX := fun e P R => t e (fun r e1 => ∃ all G, seqI e1 r = some (all, G) ∧ P all G e1) R
def iR1 (u : AX) : IX := fun e P R => u e (fun rs e1 => ∃ j : Int, rs = [.val (.int j)] ∧ -(2 ^ 62) ≤ j ∧ j < 2 ^ 62 ∧ P ((List.range j.toNat).map fun i : Nat => .val (.int i)) (fun _ => True) e1) R
def iR2 (u : AX) : IX := fun e P R => u e (fun rs e1 => ∃ i j : Int, rs = [.val (.int i), .val (.int j)] ∧ (-(2 ^ 62) ≤ i ∧ i < 2 ^ 62 ∧ -(2 ^ 62) ≤ j ∧ j < 2 ^ 62) ∧ P ((List.range (j - i).toNat).map fun n : Nat => .val (.int (i + n))) (fun _ => True) e1) R
/-- numbered -/
def numd (ds : List D) : List RV := ds.zipIdx.map fun p => .val (.tup [.int (p.2 : Nat), p.1])
def iEn (u : AX) : IX := fun e P R => u e (fun rs e1 => ∃ r, rs = [r] ∧ ((∃ ds, lsD e1 r = some ds ∧ P (numd ds) (fun e' => lsD e' r = some ds) e1) ∨ (∃ z, dv e1 r = some (.str z) ∧ P (numd (z.map fun c => .str [c])) (fun _ => True) e1))) R
section
variable {T : Cn} {X : Cx} {W : WX} {tg l : Expr} {t : EX}
theorem wl_list {c : BF} {F0 : Hp} {ad0 : List Addr} {a : Addr} {all : List RV} {G : Env → Prop}
    (h : ∀ e σ F H ad, Ex F0 F → Px ad0 ad → Rel T c e σ F H ad → G e → ∃ vs, SqL T.K H a vs ∧ RvL T F ad all vs) : WL T c F0 ad0 (Itl T.K a) all G where
  go := fun e σ F H ad i r x p R g hi => by
    obtain ⟨vs, h1, h2⟩ := h e σ F H ad x p R g
    obtain ⟨v, hv, _⟩ := h2.get hi
    exact ⟨vs, v, h1, hv⟩
  yld := fun e σ F H ad i r y H' x p R g hi hy => by
    obtain ⟨vs, h1, h2⟩ := h e σ F H ad x p R g
    obtain ⟨v, hv, hr⟩ := h2.get hi
    obtain ⟨rfl, hy2⟩ := hy
    have := hy2 vs h1
    rw [hv] at this
    cases this
    exact ⟨F, Ex.refl F, R, hr⟩
  stop := fun e σ F H ad x p R g => by
    obtain ⟨vs, h1, h2⟩ := h e σ F H ad x p R g
    exact ⟨vs, h1, Nat.le_of_eq h2.len⟩
theorem wl_tup {c : BF} {F0 : Hp} {ad0 : List Addr} {a : Addr} {all : List RV} {G : Env → Prop}
    (h : ∀ e σ F H ad, Ex F0 F → Px ad0 ad → Rel T c e σ F H ad → G e → ∃ vs, SqT T.K H a vs ∧ RvL T F ad all vs) : WL T c F0 ad0 (Itt T.K a) all G where
  go := fun e σ F H ad i r x p R g hi => by
    obtain ⟨vs, h1, h2⟩ := h e σ F H ad x p R g
    obtain ⟨v, hv, _⟩ := h2.get hi
    exact ⟨vs, v, h1, hv⟩
  yld := fun e σ F H ad i r y H' x p R g hi hy => by
    obtain ⟨vs, h1, h2⟩ := h e σ F H ad x p R g
    obtain ⟨v, hv, hr⟩ := h2.get hi
    obtain ⟨rfl, hy2⟩ := hy
    have := hy2 vs h1
    rw [hv] at this
    cases this
    exact ⟨F, Ex.refl F, R, hr⟩
  stop := fun e σ F H ad x p R g => by
    obtain ⟨vs, h1, h2⟩ := h e σ F H ad x p R g
    exact ⟨vs, h1, Nat.le_of_eq h2.len⟩
theorem rd_sql {K : PySem.W.Frag} {H : Hp} {a : Addr} {vs : List V} (h : Rd H a (.lst vs)) : SqL K H a vs := .inl h
/-- the walk of a sequence -/
theorem seq_ok {c : BF} {e : Env} {σ : L2.St} {F H : Hp} {ad : List Addr} {r : RV} {v : V} {all : List RV} {G : Env → Prop} {R : It → Hp → Prop} (rel : Rel T c e σ F H ad) (hr : RvR T F ad r v) (q : seqI e r = some (all, G)) (k : ∀ J, WL T c F ad J all G → R J H) : rSeq T.K v H R := by
  have lstc : ∀ {ds : List D}, Rep T F (.lst ds) v → all = ds.map .val → rSeq T.K v H R := fun {ds} h e1 => by
    obtain ⟨a, vs, rfl, h1, h2⟩ := rep_lst.mp h
    subst e1
    exact .inl ⟨a, vs, rfl, rd_sql (rel.fh.rd h1), k _ (wl_list fun e σ F2 H2 ad2 x p R2 g => ⟨vs, rd_sql (R2.fh.rd (x.rd h1)), RvL.of (h2.mono x)⟩)⟩
  have tupc : ∀ {ds : List D}, Rep T F (.tup ds) v → all = ds.map .val → rSeq T.K v H R := fun {ds} h e1 => by
    obtain ⟨a, vs, rfl, h1, h2⟩ := rep_tup.mp h
    subst e1
    exact .inr (.inl ⟨a, vs, rfl, rel.fh.sqt h1, k _ (wl_tup fun e σ F2 H2 ad2 x p R2 g => ⟨vs, R2.fh.sqt (x.sqt h1), RvL.of (h2.mono x)⟩)⟩)
  cases r with
  | val d =>
    cases d with
    | lst ds =>
      cases q
      exact lstc hr rfl
    | tup ds =>
      cases q
      exact tupc hr rfl
    | str z =>
      cases q
      obtain rfl := rv_str hr
      refine .inr (.inr ⟨S z, rfl, k _ ?_⟩)
      exact {
        go := fun e σ F H ad i r x p R g hi => by
          have := (List.getElem?_eq_some_iff.mp hi).1
          rw [List.length_map] at this
          show i < z.toArray.size
          simpa using this
        yld := fun e σ F H ad i r y H' x p R g hi hy => by
          obtain ⟨rfl, c', hc, rfl⟩ := hy
          have hc' : z[i]? = some c' := by simpa [S] using hc
          rw [List.getElem?_map, hc'] at hi
          cases hi
          exact ⟨F, Ex.refl F, R, (rep_str (T := T) (F := F)).mpr rfl⟩
        stop := fun e σ F H ad x p R g => by
          show z.toArray.size ≤ _
          simp }
    | _ => cases q
  | ob n =>
    obtain ⟨p, hp, rfl⟩ := hr
    obtain ⟨o, ho, oa⟩ := rel.obs hp
    unfold seqI at q
    dsimp only at q
    rw [ho] at q
    cases o with
    | lst ds =>
      cases q
      obtain ⟨_, _, vs, h1, h2⟩ := oa
      refine .inl ⟨p, vs, rfl, .inl (.inl h1), k _ (wl_list fun e2 σ2 F2 H2 ad2 x px R2 g => ?_)⟩
      have g' : e2.ob[n]? = some (.lst ds) := g
      obtain ⟨_, _, vs2, h3, h4⟩ := R2.ob n _ p g' (px n p hp)
      exact ⟨vs2, .inl (.inl h3), RvL.of h4⟩
    | lsr xs =>
      cases q
      obtain ⟨_, _, vs, h1, h2⟩ := oa
      refine .inl ⟨p, vs, rfl, .inl (.inl h1), k _ (wl_list fun e2 σ2 F2 H2 ad2 x px R2 g => ?_)⟩
      have g' : e2.ob[n]? = some (.lsr all) := g
      obtain ⟨_, _, vs2, h3, h4⟩ := R2.ob n _ p g' (px n p hp)
      exact ⟨vs2, .inl (.inl h3), h4⟩
    | tpr xs =>
      cases q
      obtain ⟨_, _, vs, h1, h2⟩ := oa
      refine .inr (.inl ⟨p, vs, rfl, .inl (.inl h1), k _ (wl_tup fun e2 σ2 F2 H2 ad2 x px R2 g => ?_)⟩)
      have g' : e2.ob[n]? = some (.tpr all) := g
      obtain ⟨_, _, vs2, h3, h4⟩ := R2.ob n _ p g' (px n p hp)
      exact ⟨vs2, .inl (.inl h3), h4⟩
    | fz d =>
      cases d with
      | lst ds =>
        cases q
        exact lstc oa.2 rfl
      | tup ds =>
        cases q
        exact tupc oa.2 rfl
      | _ => cases q
    | _ => cases q
theorem PI.imp {tg l : Expr} {t u : TI} (h : PI X tg l t) (g : ∀ σ H R, u σ H R → t σ H R) : PI X tg l u := ⟨fun pins s σ H R I q => h.run pins s σ H R I (g σ H R q)⟩
theorem di_seq (ha : DE T X W l t) (hK : X.K = T.K := by rfl) : DI T X W tg l (iSeq t) := ⟨PI.imp (pi_of ha.pe iter_seq) fun σ H R h => by
  obtain ⟨c, F, ad, e, P, Rx, rel, q, hq, hx⟩ := h
  refine ⟨c, F, ad, e, _, Rx, rel, q, fun v H1 F1 ad1 e1 r x1 p1 rel1 r1 q1 => ?_, hx⟩
  obtain ⟨all, G, q2, q3⟩ := q1
  rw [hK]
  exact seq_ok rel1 r1 q2 fun J wl => hq J H1 F1 ad1 e1 all G x1 p1 rel1 wl q3⟩
theorem wl_rng {c : BF} {F0 : Hp} {ad0 : List Addr} (lo : Int) (n : Nat) : WL T c F0 ad0 (Itr lo n) ((List.range n).map fun k : Nat => .val (.int (lo + k))) (fun _ => True) where
  go := fun e σ F H ad i r x p R g hi => by
    have := (List.getElem?_eq_some_iff.mp hi).1
    show i < n
    simpa using this
  yld := fun e σ F H ad i r y H' x p R g hi hy => by
    obtain ⟨rfl, rfl⟩ := hy
    have hn : i < n := by
      have := (List.getElem?_eq_some_iff.mp hi).1
      simpa using this
    rw [List.getElem?_map, List.getElem?_range hn] at hi
    cases hi
    exact ⟨F, Ex.refl F, R, (rep_int (T := T) (F := F)).mpr rfl⟩
  stop := fun e σ F H ad x p R g => by
    show n ≤ _
    simp
theorem di_range1 {a : Expr} {u : AX} {p pos : Pos} (hm : X.mg "range" = none) (ha : DA T X W [a] u) (hg : Gl X "range" := by rfl) (hs : starEach [a] X.env = [(false, eval a X.env)] := by rfl) : DI T X W tg (.Call (.Name "range" p) [a] [] pos) (iR1 u) :=
  ⟨PI.imp (pi_range1 hg hm ha.pa hs) fun σ H R h => by
    obtain ⟨c, F, ad, e, P, Rx, rel, q, hq, hx⟩ := h
    refine ⟨c, F, ad, e, _, Rx, rel, q, fun vs H1 F1 ad1 e1 rs x1 p1 rel1 r1 q1 => ?_, hx⟩
    obtain ⟨j, rfl, j1, j2, q2⟩ := q1
    obtain ⟨v, rfl, hv⟩ := rv1 r1
    obtain rfl := rv_int hv
    refine ⟨j, rfl, j1, j2, hq _ H1 F1 ad1 e1 _ _ x1 p1 rel1 ?_ q2⟩
    have w := wl_rng (T := T) (c := c) (F0 := F1) (ad0 := ad1) 0 j.toNat
    simpa using w⟩
theorem di_range2 {a b : Expr} {u : AX} {p pos : Pos} (hm : X.mg "range" = none) (ha : DA T X W [a, b] u) (hg : Gl X "range" := by rfl) (hs : starEach [a, b] X.env = [(false, eval a X.env), (false, eval b X.env)] := by rfl) (hs2 : starEach [b] X.env = [(false, eval b X.env)] := by rfl) :
    DI T X W tg (.Call (.Name "range" p) [a, b] [] pos) (iR2 u) :=
  ⟨PI.imp (pi_range2 hg hm ha.pa hs hs2) fun σ H R h => by
    obtain ⟨c, F, ad, e, P, Rx, rel, q, hq, hx⟩ := h
    refine ⟨c, F, ad, e, _, Rx, rel, q, fun vs H1 F1 ad1 e1 rs x1 p1 rel1 r1 q1 => ?_, hx⟩
    obtain ⟨i, j, rfl, j1, q2⟩ := q1
    obtain ⟨v, w, rfl, hv, hw⟩ := rv2 r1
    obtain rfl := rv_int hv
    obtain rfl := rv_int hw
    exact ⟨i, j, rfl, j1, hq _ H1 F1 ad1 e1 _ _ x1 p1 rel1 (wl_rng i (j - i).toNat) q2⟩⟩
theorem numd_get {ds : List D} {i : Nat} {r : RV} (h : (numd ds)[i]? = some r) : ∃ d, ds[i]? = some d ∧ r = .val (.tup [.int (i : Nat), d]) := by
  unfold numd at h
  rw [List.getElem?_map, List.getElem?_zipIdx] at h
  cases e : ds[i]? with
  | none =>
    rw [e] at h
    cases h
  | some d =>
    rw [e] at h
    simp at h
    exact ⟨d, rfl, h.symm⟩
theorem numd_len (ds : List D) : (numd ds).length = ds.length := by simp [numd]
theorem di_enum {a : Expr} {u : AX} {p pos tpos : Pos} {elts : List Expr} {kk : Nat} (hm : X.mg "enumerate" = none) (ha : DA T X W [a] u) (hK : X.K = T.K := by rfl) (hg : Gl X "enumerate" := by rfl) (hs : starEach [a] X.env = [(false, eval a X.env)] := by rfl) :
    DI T X W (.Tuple elts kk tpos) (.Call (.Name "enumerate" p) [a] [] pos) (iEn u) :=
  ⟨PI.imp (pi_enumA hg hm ha.pa hs) fun σ H R h => by
    obtain ⟨c, F, ad, e, P, Rx, rel, q, hq, hx⟩ := h
    refine ⟨c, F, ad, e, _, Rx, rel, q, fun vs H1 F1 ad1 e1 rs x1 p1 rel1 r1 q1 => ?_, hx⟩
    obtain ⟨r, rfl, q1⟩ := q1
    obtain ⟨v, rfl, hv⟩ := rv1 r1
    have pair : ∀ {e : Env} {σ : L2.St} {F H : Hp} {ad : List Addr} {p : Addr} {x : V} {d : D} {i : Nat}, Rel T c e σ F H ad → H p = none → Rep T F d x →
        ∃ F', Ex F F' ∧ Rel T c e σ F' (upd H p (.tup [.int (i : Nat), x])) ad ∧ RvR T F' ad (.val (.tup [.int (i : Nat), d])) (.ref p) := fun {e σ F H ad p x d i} R hp hr =>
      ⟨upd F p (.tup [.int (i : Nat), x]), Ex.new (R.fh.free hp), R.laid hp, rep_tup.mpr ⟨p, _, rfl, .inl (.inl upd_same), RepL.cons (rep_int.mpr rfl) (RepL.cons (hr.mono (Ex.new (R.fh.free hp))) RepL.nil)⟩⟩
    rcases q1 with ⟨ds, hd, q2⟩ | ⟨z, hz, q2⟩
    · obtain ⟨a, vs, rfl, h1, h2⟩ := lsD_ok rel1 hv hd
      have at_ : ∀ e σ F H ad, Ex F1 F → Px ad1 ad → Rel T c e σ F H ad → lsD e r = some ds → ∃ vs, SqL X.K H a vs ∧ RepL T F ds vs := fun e2 σ2 F2 H2 ad2 x2 p2 R2 g => by
        obtain ⟨a2, vs2, e2', g1, g2⟩ := lsD_ok R2 (hv.mono x2 p2) g
        cases e2'
        exact ⟨vs2, rd_sql g1, g2⟩
      refine .inl ⟨a, vs, rfl, rd_sql h1, hq _ H1 F1 ad1 e1 _ _ x1 p1 rel1 ?_ q2⟩
      exact {
        go := fun e σ F H ad i r x p R g hi => by
          obtain ⟨vs, g1, g2⟩ := at_ e σ F H ad x p R g
          obtain ⟨d, hd, _⟩ := numd_get hi
          obtain ⟨v, hv, _⟩ := g2.get hd
          exact ⟨vs, v, g1, hv⟩
        yld := fun e σ F H ad i r y H' x p R g hi hy => by
          obtain ⟨vs, g1, g2⟩ := at_ e σ F H ad x p R g
          obtain ⟨d, hd, rfl⟩ := numd_get hi
          obtain ⟨v, hv, hr⟩ := g2.get hd
          obtain ⟨q, x', rfl, hn, rfl, hy2⟩ := hy
          have := hy2 vs g1
          rw [hv] at this
          cases this
          exact pair R hn hr
        stop := fun e σ F H ad x p R g => by
          obtain ⟨vs, g1, g2⟩ := at_ e σ F H ad x p R g
          exact ⟨vs, g1, by rw [numd_len, g2.len]; exact Nat.le_refl _⟩ }
    · have hr := dv_ok rel1 hv hz
      obtain rfl := rep_str.mp hr
      refine .inr ⟨S z, rfl, hq _ H1 F1 ad1 e1 _ _ x1 p1 rel1 ?_ q2⟩
      exact {
        go := fun e σ F H ad i r x p R g hi => by
          have := (List.getElem?_eq_some_iff.mp hi).1
          rw [numd_len, List.length_map] at this
          show i < z.toArray.size
          simpa using this
        yld := fun e σ F H ad i r y H' x p R g hi hy => by
          obtain ⟨d, hd, rfl⟩ := numd_get hi
          obtain ⟨q, c', rfl, hn, rfl, hc⟩ := hy
          have hc' : z[i]? = some c' := by simpa [S] using hc
          rw [List.getElem?_map, hc'] at hd
          cases hd
          exact pair R hn (rep_str.mpr rfl)
        stop := fun e σ F H ad x p R g => by
          show _ = z.toArray.size
          rw [numd_len]
          simp }⟩
end
end DL
end
section
set_option Elab.async false
set_option linter.all false
set_option autoImplicit false
set_option maxRecDepth 100000
set_option maxHeartbeats 2000000
/-! DLI: methods of texts and lists, isinstance, repr. -/
namespace DL
open PySem PySem.Spec L2
open PyProof.Rows hiding St

/-! ### methods of built-in types -/
abbrev MX := Env → RV → List RV → (RV → Env → Prop) → Prop
def MeD (T : Cn) (r : V → List V → Hp → VK → Prop) (f : MX) : Prop := ∀ (c : BF) (F : Hp) (ad : List Addr) (e : Env) (σ : L2.St) (H : Hp) (x : V) (xs : List V) (rx : RV) (rs : List RV) (P : RV → Env → Prop) (Q : VK),
  Rel T c e σ F H ad → RvR T F ad rx x → RvL T F ad rs xs → f e rx rs P → QL T c σ F ad P Q → r x xs H Q
/-- the receiver's type -/
def tyStr (e : Env) (r : RV) : Prop := ∃ s, dv e r = some (.str s)
def tyLst (e : Env) (r : RV) : Prop := ∃ ds, lsD e r = some ds
def eM (ty : Env → RV → Prop) (f : MX) (to : EX) (u : AX) : EX := fun e P R => to e (fun r e1 => ty e1 r ∧ u e1 (fun rs e2 => f e2 r rs P) R) R
section
variable {T : Cn} {X : Cx} {W : WX} {o a : Expr} {es : List Expr} {to : EX} {u : AX} {nm : Str} {apos cpos : Pos} {ty id : String} {r : V → List V → Hp → VK → Prop} {f : MX} {tp : Env → RV → Prop}
theorem le_m (htp : ∀ {c : BF} {F : Hp} {ad : List Addr} {e : Env} {σ : L2.St} {H : Hp} {x : V} {rx : RV}, Rel T c e σ F H ad → RvR T F ad rx x → tp e rx → tyV T.K ty x H) (hf : MeD T r f) {σ : L2.St} {H : Hp} {Q : VK} (h : LE T W (eM tp f to u) σ H Q) :
    tBM T.K ty r (LE T W to) (LA T W u) σ H Q := by
  obtain ⟨c, F, ad, e, P, R, rel, q, hq, hx⟩ := h
  refine ⟨c, F, ad, e, _, R, rel, q, fun v H1 F1 ad1 e1 rv x1 p1 rel1 r1 q1 => ⟨htp rel1 r1 q1.1, c, F1, ad1, e1, _, R, rel1, q1.2, fun vs H2 F2 ad2 e2 rs x2 p2 rel2 r2 q2 => ?_, hx.mono x1 p1⟩, hx⟩
  exact hf c F2 ad2 e2 σ H2 v vs rv rs P Q rel2 (r1.mono x2 p2) r2 q2 (hq.mono (x1.trans x2) (p1.trans p2))
theorem de_m (pa : PlainAttrs ty) (slot : Slot ty nm id) (hty : typeOf (.builtin id) = pure (.type "method_descriptor")) (hm : MtR X id r)
    (htp : ∀ {c : BF} {F : Hp} {ad : List Addr} {e : Env} {σ : L2.St} {H : Hp} {x : V} {rx : RV}, Rel T c e σ F H ad → RvR T F ad rx x → tp e rx → tyV T.K ty x H) (hf : MeD T r f) (ho : DE T X W o to) (ha : DA T X W (a :: es) u) (hK : X.K = T.K := by rfl)
    (hbase : attributeBase o nm X.env (eval o X.env) = eval o X.env := by rfl)
    (hfew : ((backTo cpos (starEach (a :: es) X.env)).all (fun x => !x.1) && (backToKw cpos (keywordEach [] X.env)).all (fun x => x.1.isSome) && decide ((a :: es).length + ([] : List Keyword).length + (if ([] : List Keyword).isEmpty then 0 else 1) < 30)) = true := by rfl)
    (hline : (apos.endLine == cpos.line) = true := by rfl) (hs : starEach (a :: es) X.env = (false, eval a X.env) :: starEach es X.env := by rfl) (hplain : (backTo cpos (starEach es X.env)).any (·.1) = false := by rfl) :
    DE T X W (.Call (.Attribute o nm apos) (a :: es) [] cpos) (eM tp f to u) := ⟨PE.imp (pe_bm pa slot hty hm ho.pe ha.pa hbase hfew hline hs hplain) fun σ H Q h => by
  rw [hK]
  exact le_m htp hf h⟩
theorem de_m0 (pa : PlainAttrs ty) (slot : Slot ty nm id) (hty : typeOf (.builtin id) = pure (.type "method_descriptor")) (hm : MtR X id r)
    (htp : ∀ {c : BF} {F : Hp} {ad : List Addr} {e : Env} {σ : L2.St} {H : Hp} {x : V} {rx : RV}, Rel T c e σ F H ad → RvR T F ad rx x → tp e rx → tyV T.K ty x H) (hf : MeD T r f) (ho : DE T X W o to) (hK : X.K = T.K := by rfl)
    (hbase : attributeBase o nm X.env (eval o X.env) = eval o X.env := by rfl) (hline : (apos.endLine == cpos.line) = true := by rfl) :
    DE T X W (.Call (.Attribute o nm apos) [] [] cpos) (eM tp f to aNil) := ⟨PE.imp (pe_bm0 pa slot hty hm ho.pe hbase hline) fun σ H Q h => by
  obtain ⟨c, F, ad, e, P, R, rel, q, hq, hx⟩ := h
  refine ⟨c, F, ad, e, _, R, rel, q, fun v H1 F1 ad1 e1 rv x1 p1 rel1 r1 q1 => ⟨by rw [hK]; exact htp rel1 r1 q1.1, ?_⟩, hx⟩
  exact hf c F1 ad1 e1 σ H1 v [] rv [] P Q rel1 r1 rfl q1.2 (hq.mono x1 p1)⟩
theorem ty_str {c : BF} {F : Hp} {ad : List Addr} {e : Env} {σ : L2.St} {H : Hp} {x : V} {rx : RV} (R : Rel T c e σ F H ad) (h : RvR T F ad rx x) (q : tyStr e rx) : tyV T.K "str" x H := by
  obtain ⟨s, hs⟩ := q
  obtain rfl := rep_str.mp (dv_ok R h hs)
  rfl
theorem ty_lst {c : BF} {F : Hp} {ad : List Addr} {e : Env} {σ : L2.St} {H : Hp} {x : V} {rx : RV} (R : Rel T c e σ F H ad) (h : RvR T F ad rx x) (q : tyLst e rx) : tyV T.K "list" x H := by
  obtain ⟨ds, hs⟩ := q
  obtain ⟨a, vs, rfl, h1, _⟩ := lsD_ok R h hs
  exact .inl ⟨rfl, vs, rd_sql h1⟩
/-! .. of a text alone -/
def mxS (g : List Nat → Option D) : MX := fun e r rs P => ∃ s d, dv e r = some (.str s) ∧ rs = [] ∧ s.length ≤ 5592405 ∧ g s = some d ∧ P (.val d) e
theorem len555 {s : List Nat} (h : s.length ≤ 5592405) : (S s).length ≤ sizeLine := by
  rw [S_len, sizeLine_eq]
  omega
theorem me_s {C : Str → Prop} {g : List Nat → Option D} {g' : Str → V} (hC : ∀ s : List Nat, s.length ≤ 5592405 → C (S s)) (hg : ∀ s d F, g s = some d → Rep T F d (g' (S s))) : MeD T (fun x xs H Q => ∃ a, x = .str a ∧ xs = [] ∧ C a ∧ Q (g' a) H) (mxS g) := by
  intro c F ad e σ H x xs rx rs P Q R hr hl h hq
  obtain ⟨s, d, h1, rfl, h3, h4, q⟩ := h
  obtain rfl := rep_str.mp (dv_ok R hr h1)
  obtain rfl : xs = [] := hl
  exact ⟨S s, rfl, rfl, hC s h3, hq.val R (hg s d F h4) q⟩
def stripX : MX := mxS fun s => some (.str (Txt.strip (S s)).cps.toList)
def lowerX : MX := mxS fun s => some (.str (Txt.lower (S s)).cps.toList)
def upperX : MX := mxS fun s => some (.str (Txt.upper (S s)).cps.toList)
def alnumX : MX := mxS fun s => some (.bl (Txt.isalnum (S s)))
def digitX : MX := mxS fun s => some (.bl (Txt.isdigit (S s)))
def alphaX : MX := mxS fun s => some (.bl (Txt.isalpha (S s)))
theorem de_strip (ho : DE T X W o to) (hK : X.K = T.K := by rfl) (hbase : attributeBase o "strip" X.env (eval o X.env) = eval o X.env := by rfl) (hline : (apos.endLine == cpos.line) = true := by rfl) : DE T X W (.Call (.Attribute o "strip" apos) [] [] cpos) (eM tyStr stripX to aNil) :=
  de_m0 F.plainAttrs_str F.slot_str_strip F.type_str_strip mt_strip ty_str (me_s (fun s h => len555 h) fun s d F h => by cases h; exact rep_str.mpr (by rw [S_of])) ho hK hbase hline
theorem de_isalnum (ho : DE T X W o to) (hK : X.K = T.K := by rfl) (hbase : attributeBase o "isalnum" X.env (eval o X.env) = eval o X.env := by rfl) (hline : (apos.endLine == cpos.line) = true := by rfl) : DE T X W (.Call (.Attribute o "isalnum" apos) [] [] cpos) (eM tyStr alnumX to aNil) :=
  de_m0 F.plainAttrs_str F.slot_str_isalnum F.type_str_isalnum mt_isalnum ty_str (me_s (fun s h => trivial) fun s d F h => by cases h; exact rep_bl.mpr rfl) ho hK hbase hline
theorem de_isdigit (ho : DE T X W o to) (hK : X.K = T.K := by rfl) (hbase : attributeBase o "isdigit" X.env (eval o X.env) = eval o X.env := by rfl) (hline : (apos.endLine == cpos.line) = true := by rfl) : DE T X W (.Call (.Attribute o "isdigit" apos) [] [] cpos) (eM tyStr digitX to aNil) :=
  de_m0 F.plainAttrs_str F.slot_str_isdigit F.type_str_isdigit mt_isdigit ty_str (me_s (fun s h => trivial) fun s d F h => by cases h; exact rep_bl.mpr rfl) ho hK hbase hline
theorem de_isalpha (ho : DE T X W o to) (hK : X.K = T.K := by rfl) (hbase : attributeBase o "isalpha" X.env (eval o X.env) = eval o X.env := by rfl) (hline : (apos.endLine == cpos.line) = true := by rfl) : DE T X W (.Call (.Attribute o "isalpha" apos) [] [] cpos) (eM tyStr alphaX to aNil) :=
  de_m0 F.plainAttrs_str F.slot_str_isalpha F.type_str_isalpha mt_isalpha ty_str (me_s (fun s h => trivial) fun s d F h => by cases h; exact rep_bl.mpr rfl) ho hK hbase hline
/-! .. join, strip(signs) -/
def strsD : List D → Option (List (List Nat))
  | [] => some []
  | .str s :: ds => (strsD ds).map (s :: ·)
  | _ :: _ => none
theorem strsD_eq : ∀ {ds : List D} {ss : List (List Nat)}, strsD ds = some ss → ds = ss.map .str
  | [], _, h => by cases h; rfl
  | d :: ds, ss, h => by
    cases d with
    | str s =>
      rw [strsD] at h
      cases e : strsD ds with
      | none =>
        rw [e] at h
        cases h
      | some r =>
        rw [e] at h
        cases h
        rw [strsD_eq e]
        rfl
    | _ => cases h
@[simp] theorem strsD_map (ss : List (List Nat)) : strsD (ss.map .str) = some ss := by
  induction ss with
  | nil => rfl
  | cons s ss ih => rw [List.map_cons, strsD, ih]; rfl
/-- sep.join(texts) -/
def joinL (a : List Nat) (ss : List (List Nat)) : List Nat := (Txt.join (S a) (ss.map S)).cps.toList
def joinX : MX := fun e r rs P => ∃ a q ds ss, dv e r = some (.str a) ∧ rs = [q] ∧ sqD e q = some ds ∧ strsD ds = some ss ∧ (ss.map List.length).sum + ss.length * a.length ≤ 16777216 ∧ P (.val (.str (joinL a ss))) e
theorem de_join (ho : DE T X W o to) (ha : DA T X W (a :: es) u) (hK : X.K = T.K := by rfl) (hbase : attributeBase o "join" X.env (eval o X.env) = eval o X.env := by rfl)
    (hfew : ((backTo cpos (starEach (a :: es) X.env)).all (fun x => !x.1) && (backToKw cpos (keywordEach [] X.env)).all (fun x => x.1.isSome) && decide ((a :: es).length + ([] : List Keyword).length + (if ([] : List Keyword).isEmpty then 0 else 1) < 30)) = true := by rfl)
    (hline : (apos.endLine == cpos.line) = true := by rfl) (hs : starEach (a :: es) X.env = (false, eval a X.env) :: starEach es X.env := by rfl) (hplain : (backTo cpos (starEach es X.env)).any (·.1) = false := by rfl) :
    DE T X W (.Call (.Attribute o "join" apos) (a :: es) [] cpos) (eM tyStr joinX to u) :=
  de_m F.plainAttrs_str F.slot_str_join F.type_str_join mt_join ty_str (by
    rw [hK]
    intro c F ad e σ H x xs rx rs P Q R hr hl h hq
    obtain ⟨s, q, ds, ss, h1, rfl, h2, h3, h4, q1⟩ := h
    obtain rfl := rep_str.mp (dv_ok R hr h1)
    obtain ⟨v, rfl, hv⟩ := rv1 hl
    obtain ⟨p, vs, rfl, hp, hs⟩ := sqD_ok R hv h2
    have e1 := strsD_eq h3
    subst e1
    have e2 := repL_strs hs
    subst e2
    refine ⟨S s, p, ss.map S, rfl, rfl, by rw [List.map_map]; exact hp, ?_, hq.val R (rep_str.mpr (by rw [joinL, S_of])) q1⟩
    rw [List.map_map, List.length_map, S_len, show (fun x : Str => x.length) ∘ S = List.length from funext fun s => S_len s]
    exact h4) ho ha hK hbase hfew hline hs hplain
def stripCX : MX := fun e r rs P => ∃ a q b, dv e r = some (.str a) ∧ rs = [q] ∧ dv e q = some (.str b) ∧ a.length ≤ 5592405 ∧ P (.val (.str (Txt.stripChars (S a) (S b)).cps.toList)) e
theorem de_stripC (ho : DE T X W o to) (ha : DA T X W (a :: es) u) (hK : X.K = T.K := by rfl) (hbase : attributeBase o "strip" X.env (eval o X.env) = eval o X.env := by rfl)
    (hfew : ((backTo cpos (starEach (a :: es) X.env)).all (fun x => !x.1) && (backToKw cpos (keywordEach [] X.env)).all (fun x => x.1.isSome) && decide ((a :: es).length + ([] : List Keyword).length + (if ([] : List Keyword).isEmpty then 0 else 1) < 30)) = true := by rfl)
    (hline : (apos.endLine == cpos.line) = true := by rfl) (hs : starEach (a :: es) X.env = (false, eval a X.env) :: starEach es X.env := by rfl) (hplain : (backTo cpos (starEach es X.env)).any (·.1) = false := by rfl) :
    DE T X W (.Call (.Attribute o "strip" apos) (a :: es) [] cpos) (eM tyStr stripCX to u) :=
  de_m F.plainAttrs_str F.slot_str_strip F.type_str_strip mt_stripChars ty_str (by
    intro c F ad e σ H x xs rx rs P Q R hr hl h hq
    obtain ⟨s, q, b, h1, rfl, h2, h3, q1⟩ := h
    obtain rfl := rep_str.mp (dv_ok R hr h1)
    obtain ⟨v, rfl, hv⟩ := rv1 hl
    obtain rfl := rep_str.mp (dv_ok R hv h2)
    exact ⟨S s, S b, rfl, rfl, len555 h3, hq.val R (rep_str.mpr (by rw [S_of])) q1⟩) ho ha hK hbase hfew hline hs hplain
/-! .. list.append -/
/-- a list of the state, with an item more; data only, or objects too -/
def appX : MX := fun e r rs P => ∃ k q, r = .ob k ∧ rs = [q] ∧ ((∃ ds d, e.ob[k]? = some (.lst ds) ∧ dv e q = some d ∧ ds.length < sizeLine ∧ P (.val .non) { e with ob := e.ob.set k (.lst (ds ++ [d])) }) ∨
  (∃ ds d ob', e.ob[k]? = some (.lst ds) ∧ fzR 9 e.ob q = some (d, ob') ∧ ob'[k]? = some (.lst ds) ∧ ds.length < sizeLine ∧ P (.val .non) ⟨e.sl, ob'.set k (.lst (ds ++ [d]))⟩) ∨
  (∃ xs, e.ob[k]? = some (.lsr xs) ∧ xs.length < sizeLine ∧ P (.val .non) { e with ob := e.ob.set k (.lsr (xs ++ [q])) }))
def tyLs (e : Env) (r : RV) : Prop := ∃ k, r = .ob k ∧ ((∃ ds, e.ob[k]? = some (.lst ds)) ∨ ∃ xs, e.ob[k]? = some (.lsr xs))
theorem ty_ls {c : BF} {F : Hp} {ad : List Addr} {e : Env} {σ : L2.St} {H : Hp} {x : V} {rx : RV} (R : Rel T c e σ F H ad) (h : RvR T F ad rx x) (q : tyLs e rx) : tyV T.K "list" x H := by
  obtain ⟨k, rfl, hk⟩ := q
  obtain ⟨p, hp, rfl⟩ := h
  rcases hk with ⟨ds, hk⟩ | ⟨ds, hk⟩
  · obtain ⟨_, _, vs, h1, _⟩ := R.ob k _ p hk hp
    exact .inl ⟨rfl, vs, .inl (.inl h1)⟩
  · obtain ⟨_, _, vs, h1, _⟩ := R.ob k _ p hk hp
    exact .inl ⟨rfl, vs, .inl (.inl h1)⟩
theorem me_app : MeD T rAppend appX := by
  intro c F ad e σ H x xs rx rs P Q R hr hl h hq
  obtain ⟨k, q, rfl, rfl, h⟩ := h
  obtain ⟨y, rfl, hy⟩ := rv1 hl
  obtain ⟨p, hp, rfl⟩ := hr
  rcases h with ⟨ds, d, hk, hd, hz, q1⟩ | ⟨ds, d, ob', hk, hd, hk', hz, q1⟩ | ⟨zs, hk, hz, q1⟩
  · obtain ⟨n1, n2, vs, h1, h2⟩ := R.ob k _ p hk hp
    refine ⟨p, vs, y, rfl, rfl, h1, by rw [h2.len]; exact hz, ?_⟩
    have R2 := R.set (u := .lst (vs ++ [y])) (o' := .lst (ds ++ [d])) hk rfl hp ⟨n1, n2, _, upd_same, h2.append (RepL.cons (dv_ok R hy hd) RepL.nil)⟩
    exact hq.val R2 (rep_non.mpr rfl) q1
  · obtain ⟨sl, ob⟩ := e
    obtain ⟨F1, x1, R1, g1⟩ := fzR_ok 9 R hd
    obtain ⟨n1, n2, vs, h1, h2⟩ := R1.ob k _ p hk' hp
    refine ⟨p, vs, y, rfl, rfl, h1, by rw [h2.len]; exact hz, ?_⟩
    have R2 := R1.set (u := .lst (vs ++ [y])) (o' := .lst (ds ++ [d])) hk' rfl hp ⟨n1, n2, _, upd_same, h2.append (RepL.cons (g1 y hy) RepL.nil)⟩
    exact (hq.mono x1 (Px.refl ad)).val R2 (rep_non.mpr rfl) q1
  · obtain ⟨n1, n2, vs, h1, h2⟩ := R.ob k _ p hk hp
    refine ⟨p, vs, y, rfl, rfl, h1, by rw [h2.len]; exact hz, ?_⟩
    have R2 := R.set (u := .lst (vs ++ [y])) (o' := .lsr (zs ++ [q])) hk rfl hp ⟨n1, n2, _, upd_same, RvL.append h2 ⟨y, [], rfl, hy, rfl⟩⟩
    exact hq.val R2 (rep_non.mpr rfl) q1
theorem de_append (ho : DE T X W o to) (ha : DA T X W (a :: es) u) (hK : X.K = T.K := by rfl) (hbase : attributeBase o "append" X.env (eval o X.env) = eval o X.env := by rfl)
    (hfew : ((backTo cpos (starEach (a :: es) X.env)).all (fun x => !x.1) && (backToKw cpos (keywordEach [] X.env)).all (fun x => x.1.isSome) && decide ((a :: es).length + ([] : List Keyword).length + (if ([] : List Keyword).isEmpty then 0 else 1) < 30)) = true := by rfl)
    (hline : (apos.endLine == cpos.line) = true := by rfl) (hs : starEach (a :: es) X.env = (false, eval a X.env) :: starEach es X.env := by rfl) (hplain : (backTo cpos (starEach es X.env)).any (·.1) = false := by rfl) :
    DE T X W (.Call (.Attribute o "append" apos) (a :: es) [] cpos) (eM tyLs appX to u) :=
  de_m F.plainAttrs_list F.slot_list_append F.type_list_append mt_append ty_ls me_app ho ha hK hbase hfew hline hs hplain

/-! ### repr -/
/-- how long the text of it is at most -/
def D.wid : D → Nat
  | .non => 5
  | .bl _ => 5
  | .int _ => 2000
  | .str s => 10 * s.length + 2
  | .lst xs => 2 + widL xs
  | .tup xs => 3 + widL xs
  | _ => 0
where widL : List D → Nat
  | [] => 0
  | d :: ds => d.wid + 2 + widL ds
/-- repr can tell it -/
def shows : D → Bool := fun d => PyData.showable d.py
def reprL (d : D) : List Nat := (PyData.shown d.py).cps.toList
def reprX : BX := fun e rs P => ∃ r d, rs = [r] ∧ rd e r = some d ∧ Lay 60 d ∧ shows d = true ∧ (PyData.shown d.py).length ≤ sizeLine ∧ P (.val (.str (reprL d))) e
def rRepr (K : PySem.W.Frag) : List V → Hp → VK → Prop := fun xs H Q => ∃ v d, xs = [v] ∧ Dp K H v d ∧ d.canLay0 = true ∧ d.depth ≤ 60 ∧ PyData.showable d = true ∧ (PyData.shown d).length ≤ sizeLine ∧ Q (.str (PyData.shown d)) H
theorem call_repr (hu : U X) (hg : X.A.guards = some []) : CallR X (.builtin "repr") (rRepr X.K) := by
  intro pins s σ H xs us Q I rl h
  obtain ⟨v, d, rfl, hd, hl, hn, hs, hz, q⟩ := h
  obtain ⟨w, rfl, rw1⟩ := vals1 rl
  have hu' : X.A.units + 100 < cLine := hu
  cases v with
  | non =>
    cases hd
    cases rw1
    exact PySem.P.repr_of_none ⟨.str _, H, I.tok _, ⟨_, rfl⟩, by rw [PyData.shown] at q; exact q⟩
  | bl b =>
    cases hd
    cases rw1
    exact PySem.P.repr_of_bool ⟨.str _, H, I.tok _, ⟨_, rfl⟩, by rw [PyData.shown] at q; exact q⟩
  | int i =>
    cases hd
    obtain ⟨t, rfl⟩ := rw1
    rw [PyData.showable] at hs
    exact PySem.P.repr_of_int (of_decide_eq_true hs) ⟨.str _, H, I.tok _, ⟨_, rfl⟩, by rw [PyData.shown] at q; exact q⟩
  | str z =>
    cases hd
    obtain ⟨t, rfl⟩ := rw1
    exact PySem.P.repr_of_str ⟨.str _, H, I.tok _, ⟨_, rfl⟩, by rw [PyData.shown] at q; exact q⟩ (by rw [PyData.shown] at hz; exact hz)
  | ref p =>
    obtain rfl : w = Value.ref p := rw1
    obtain ⟨as, rr⟩ := Dp.reads I d _ _ hd rfl
    exact repr_of_reads' rr hs (PyData.noDict_hsm (PyData.hasDict_of_canLay d hl)) hg (by omega) (fun b o z => z) (fun h' t tk k => ⟨.str _, H, I.kept k, ⟨t, rfl⟩, q⟩) hz
  | _ => cases hd
theorem de_repr {x : Expr} {p : Pos} (hu : U X) (hgd : X.A.guards = some []) (hm : X.mg "repr" = none) (ha : DA T X W (a :: es) u) (hK : X.K = T.K := by rfl) (hg : Gl X "repr" := by rfl) : DE T X W (.Call (.Name "repr" p) (a :: es) [] cpos) (eB reprX u) :=
  de_B (call_repr hu hgd) (by
    rw [hK]
    intro c F ad e σ H xs rs P Q R hl h hq
    obtain ⟨r, d, rfl, h1, h2, h3, h4, q⟩ := h
    obtain ⟨v, rfl, hv⟩ := rv1 hl
    obtain ⟨F1, x1, x2, hr⟩ := rd_ok R hv h1
    obtain ⟨g1, g2⟩ := lay_py h2
    exact ⟨v, d.py, rfl, dp_of h2 hr x2, g1, g2, h3, h4, hq.val R (rep_str.mpr (by rw [reprL, S_of])) q⟩) hg hm rfl ha
end
end DL
end
section
set_option Elab.async false
set_option linter.all false
set_option autoImplicit false
set_option maxRecDepth 100000
set_option maxHeartbeats 2000000
/-! DLJ: isinstance of built-in types; list comprehensions. -/
namespace DL
open PySem PySem.Spec L2
open PyProof.Rows hiding St

/-! ### isinstance(x, T), T a built-in type -/
def D.ty : D → Option String
  | .non => some "NoneType"
  | .bl _ => some "bool"
  | .int _ => some "int"
  | .str _ => some "str"
  | .lst _ => some "list"
  | .tup _ => some "tuple"
  | .dic _ => some "dict"
  | _ => none
def tyOf (e : Env) : RV → Option String
  | .val d => d.ty
  | .ob k => match e.ob[k]? with
    | some (.fz d) => d.ty
    | some (.lst _) => some "list"
    | some (.lsr _) => some "list"
    | some (.tpr _) => some "tuple"
    | some (.dic _) => some "dict"
    | _ => none
@[simp] theorem tyOf_val (e : Env) (d : D) : tyOf e (.val d) = d.ty := rfl
section
variable {T : Cn} {X : Cx} {W : WX} {a : Expr} {t : EX} {pos : Pos}
theorem ty_rep {F H : Hp} {d : D} {v : V} {n : String} (x : Ex F H) (h : Rep T F d v) (q : d.ty = some n) : TyX T.K H v (.type n) := by
  cases d with
  | non =>
    cases q
    rw [rep_non.mp h]
    exact .base .non
  | bl b =>
    cases q
    rw [rep_bl.mp h]
    exact .base (.bl b)
  | int b =>
    cases q
    rw [rep_int.mp h]
    exact .base (.int b)
  | str b =>
    cases q
    rw [rep_str.mp h]
    exact .base (.str _)
  | lst xs =>
    cases q
    obtain ⟨p, vs, rfl, h1, _⟩ := rep_lst.mp h
    rcases x.rd h1 with h2 | ⟨o, h2⟩
    · exact .base (.lst h2)
    · exact .base (.frz h2)
  | tup xs =>
    cases q
    obtain ⟨p, vs, rfl, h1, _⟩ := rep_tup.mp h
    rcases x.sqt h1 with (h2 | ⟨o, h2⟩) | ⟨o, its, n, h2, h3, _⟩
    · exact .base (.tup h2)
    · exact .fTuple h2
    · exact .kTuple h2 h3
  | dic xs =>
    cases q
    obtain ⟨p, rfl, ⟨gs, h1, _⟩ | ⟨gs, h1, _⟩⟩ := rep_dic.mp h
    · exact .base (.dK (x _ _ h1))
    · exact .base (.dT (x _ _ h1))
  | _ => cases q
theorem ty_ok {c : BF} {e : Env} {σ : L2.St} {F H : Hp} {ad : List Addr} {r : RV} {v : V} {n : String} (R : Rel T c e σ F H ad) (h : RvR T F ad r v) (q : tyOf e r = some n) : TyX T.K H v (.type n) := by
  cases r with
  | val d => exact ty_rep R.fh h q
  | ob k =>
    obtain ⟨p, hp, rfl⟩ := h
    obtain ⟨o, ho, oa⟩ := R.obs hp
    unfold tyOf at q
    dsimp only at q
    rw [ho] at q
    cases o with
    | fz d => exact ty_rep R.fh oa.2 q
    | lst ds =>
      cases q
      obtain ⟨_, _, vs, h1, _⟩ := oa
      exact .base (.lst h1)
    | lsr ds =>
      cases q
      obtain ⟨_, _, vs, h1, _⟩ := oa
      exact .base (.lst h1)
    | tpr ds =>
      cases q
      obtain ⟨_, _, vs, h1, _⟩ := oa
      exact .base (.tup h1)
    | dic ds =>
      cases q
      obtain ⟨_, _, ⟨gs, h1, _⟩ | ⟨gs, h1, _⟩⟩ := oa
      · exact .base (.dK h1)
      · exact .base (.dT h1)
    | ins k fs => cases q
def isiX (n : String) (t : EX) : EX := fun e P R => t e (fun r e1 => ∃ m b, tyOf e1 r = some m ∧ kitB m n = some b ∧ P (.val (.bl b)) e1) R
theorem de_isi {n : Str} {ty : String} {p p2 : Pos} (hm : X.mg "isinstance" = none) (hm2 : X.mg n = none) (hv : bootBuiltins n = some (.type ty)) (ha : DE T X W a t) (hK : X.K = T.K := by rfl) (hg : Gl X "isinstance" := by rfl) (hg2 : Gl X n := by rfl)
    (hn : n ≠ "__name__" := by decide) (hdb : (n == ("__debug__" : Str)) = false := by decide) (he : starEach (a :: [.Name n p2]) X.env = (false, eval a X.env) :: starEach [.Name n p2] X.env := by rfl) (he2 : starEach (.Name n p2 :: []) X.env = (false, eval (.Name n p2) X.env) :: starEach [] X.env := by rfl)
    (hpl : (backTo pos (starEach [.Name n p2] X.env)).any (·.1) = false := by rfl) :
    DE T X W (.Call (.Name "isinstance" p) [a, .Name n p2] [] pos) (isiX ty t) :=
  ⟨PE.imp (pe_callB (call_isi (X := X)) hg hm rfl (pa_cons ha.pe (pa_cons (pe_bltn hg2 hm2 hv (v := .ty ty) rfl hn hdb) pa_nil he2) he) (by decide) (by decide) he hpl) fun σ H Q h => by
    obtain ⟨c, F, ad, e, P, R, rel, q, hq, hx⟩ := h
    refine ⟨c, F, ad, e, _, R, rel, q, fun v H1 F1 ad1 e1 r x1 p1 rel1 r1 q1 => ?_, hx⟩
    obtain ⟨m, b, h1, h2, h3⟩ := q1
    refine ⟨v, .ty ty, .type m, .type ty, b, rfl, .ty ty, ?_, kit_ty h2, (hq.mono x1 p1).val rel1 (rep_bl.mpr rfl) h3⟩
    rw [hK]
    exact ty_ok rel1 r1 h1⟩
end

/-! ### list comprehensions -/
def wipeE (sl : List (Option RV)) : List Nat → List (Option RV)
  | [] => sl
  | v :: vs => (wipeE sl vs).set v none
theorem wipeE_length (sl : List (Option RV)) : ∀ vs : List Nat, (wipeE sl vs).length = sl.length
  | [] => rfl
  | v :: vs => by rw [wipeE, List.length_set, wipeE_length sl vs]
theorem wipeE_some {sl : List (Option RV)} {i : Nat} {r : RV} : ∀ {vs : List Nat}, (wipeE sl vs)[i]? = some (some r) → sl[i]? = some (some r) ∧ i ∉ vs
  | [], h => ⟨h, by simp⟩
  | v :: vs, h => by
    rw [wipeE] at h
    by_cases hv : v = i
    · subst hv
      by_cases hl : v < (wipeE sl vs).length
      · rw [List.getElem?_set_self hl] at h
        cases h
      · rw [List.getElem?_eq_none (by rw [List.length_set]; omega)] at h
        cases h
    · rw [List.getElem?_set_ne hv] at h
      obtain ⟨h1, h2⟩ := wipeE_some h
      exact ⟨h1, by simp [h2, Ne.symm hv]⟩
theorem wipe_set {σ : L2.St} {i : Nat} {x : Option V} : ∀ {vs : List Nat}, i ∈ vs → wipe (σ.set i x) vs = wipe σ vs
  | [], h => by simp at h
  | v :: vs, h => by
    rw [wipe, wipe]
    by_cases hi : i ∈ vs
    · rw [wipe_set hi]
    · have e : v = i := by
        rcases List.mem_cons.mp h with q | q
        · exact q.symm
        · exact absurd q hi
      subst e
      have g : ∀ {us : List Nat}, v ∉ us → wipe (σ.set v x) us = (wipe σ us).set v x := by
        intro us
        induction us with
        | nil => intro _; rfl
        | cons u us ih =>
          intro hn
          have hn' : v ≠ u ∧ v ∉ us := by simpa using hn
          rw [wipe, wipe, ih hn'.2, List.set_comm _ _ hn'.1]
      rw [g hi, List.set_set]
/-- the new list gets an item -/
def putL (k : Nat) (ob : List OD) (y : RV) (Z : List OD → Prop) : Prop :=
  (∃ ds d, ob[k]? = some (.lst ds) ∧ dv ⟨[], ob⟩ y = some d ∧ ds.length < sizeLine ∧ Z (ob.set k (.lst (ds ++ [d])))) ∨
  (∃ ds d ob', ob[k]? = some (.lst ds) ∧ fzR 9 ob y = some (d, ob') ∧ ob'[k]? = some (.lst ds) ∧ ds.length < sizeLine ∧ Z (ob'.set k (.lst (ds ++ [d])))) ∨
  (∃ xs, ob[k]? = some (.lsr xs) ∧ xs.length < sizeLine ∧ Z (ob.set k (.lsr (xs ++ [y]))))
def compX (vs : List Nat) (g : GX) (tt : TX) (te : EX) (G : Env → Prop) (sl : List (Option RV)) (k : Nat) (Z : List OD → Prop) : List RV → List OD → Prop
  | [], ob => G ⟨sl, ob⟩ ∧ Z ob
  | r :: rs, ob => G ⟨sl, ob⟩ ∧ g r ⟨wipeE sl vs, ob⟩ fun e2 => tt e2 (fun b e3 => if b = true then te e3 (fun y e4 => putL k e4.ob y (compX vs g tt te G sl k Z rs)) (fun _ _ => False) else compX vs g tt te G sl k Z rs e3.ob) (fun _ _ => False)
def eLc (t : IX) (g : GX) (tt : TX) (te : EX) (vs : List Nat) : EX := fun e P R => t e (fun all G e1 => ∃ o0, (o0 = OD.lst [] ∨ o0 = OD.lsr []) ∧
  compX vs g tt te G e1.sl e1.ob.length (fun ob => P (.ob e1.ob.length) ⟨e1.sl, ob⟩) all (e1.ob ++ [o0])) R
def tYesX : TX := fun e P _ => P true e
/-- targets that touch the slots vs only -/
def LGw (T : Cn) (vs : List Nat) (g : GX) : TG := fun v σ H Q => ∃ c F ad e r P, Rel T c e σ F H ad ∧ RvR T F ad r v ∧ g r e P ∧ ∀ σ' H' F' ad' e', Ex F F' → Px ad ad' → Rel T c e' σ' F' H' ad' → wipe σ' vs = wipe σ vs → P e' → Q σ' H'
def LGws (T : Cn) (vs : List Nat) (g : GXs) : TGs := fun us σ H Q => ∃ c F ad e rs P, Rel T c e σ F H ad ∧ RvL T F ad rs us ∧ g rs e P ∧ ∀ σ' H' F' ad' e', Ex F F' → Px ad ad' → Rel T c e' σ' F' H' ad' → wipe σ' vs = wipe σ vs → P e' → Q σ' H'
structure DGw (T : Cn) (X : Cx) (vs : List Nat) (tg : Expr) (g : GX) : Prop where
  pg : PG X tg (LGw T vs g)
structure DGws (T : Cn) (X : Cx) (vs : List Nat) (tgs : List Expr) (g : GXs) : Prop where
  pgs : PGs X tgs (LGws T vs g)
structure DTs (T : Cn) (X : Cx) (W : WX) (ifs : List Expr) (t : TX) : Prop where
  pts : PTs X ifs (LT T W t)
abbrev W0 : WX := fun _ _ _ _ => False
theorem takes_W0 {X : Cx} : Takes X W0 := fun _ _ ⟨_, _, _, _, _, _, _, _, _, _, _, _, _, _, _, _, w⟩ => w.elim
theorem xl_no {T : Cn} {c : BF} {W : WX} {F : Hp} {ad : List Addr} : XL T c W F ad (fun _ _ => False) := fun _ _ _ _ _ _ _ _ _ _ _ _ q => q.elim
section
variable {T : Cn} {X : Cx} {W : WX} {vs : List Nat}
theorem dgw_name (i : Nat) {x : Str} {pos : Pos} (hN : X.N.Nodup) (hi : X.N[i]? = some x := by rfl) (hx : Loc X.env.scope x := by first | exact Or.inl rfl | exact Or.inr rfl) (hf : X.fn x = true ∨ X.env.scope.names.lookup x = some .local := by first | exact .inl rfl | exact .inr rfl) (hv : i ∈ vs := by decide) :
    DGw T X vs (.Name x pos) (gNm i) :=
  ⟨PG.imp (pg_name hN hi hx hf) fun v σ H Q h => by
    obtain ⟨c, F, ad, e, r, P, rel, rr, q, k⟩ := h
    exact k _ H F ad _ (Ex.refl F) (Px.refl ad) (rel.put rr) (wipe_set hv) q⟩
theorem dgws_nil : DGws T X vs [] gsNil := ⟨PGs.imp pgs_nil fun v σ H Q h => by
  obtain ⟨c, F, ad, e, rs, P, rel, rr, ⟨rfl, q⟩, k⟩ := h
  exact ⟨rr, k σ H F ad e (Ex.refl F) (Px.refl ad) rel rfl q⟩⟩
theorem dgws_cons {e : Expr} {es : List Expr} {g : GX} {u : GXs} (h1 : DGw T X vs e g) (h2 : DGws T X vs es u) (hs : (assignEach (e :: es) X.env).map (·.2) = assign e X.env :: (assignEach es X.env).map (·.2) := by rfl) : DGws T X vs (e :: es) (gsCons g u) :=
  ⟨PGs.imp (pgs_cons h1.pg h2.pgs hs) fun v σ H Q h => by
    obtain ⟨c, F, ad, e, rs, P, rel, rr, ⟨r, qs, rfl, q⟩, k⟩ := h
    obtain ⟨x, xs, e0, rx, rxs⟩ := rr
    refine ⟨x, xs, e0, c, F, ad, e, r, _, rel, rx, q, fun σ' H' F' ad' e' x1 p1 rel1 w1 q1 => ?_⟩
    exact ⟨c, F', ad', e', qs, P, rel1, rxs.mono x1 p1, q1, fun σ2 H2 F2 ad2 e2 x2 p2 rel2 w2 => k σ2 H2 F2 ad2 e2 (x1.trans x2) (p1.trans p2) rel2 (w2.trans w1)⟩⟩
theorem dgw_tup {es : List Expr} {k n : Nat} {u : GXs} {pos : Pos} (hc : X.calm = true) (h : DGws T X vs es u) (hK : X.K = T.K := by rfl)
    (hn : (assignEach es X.env).length = n := by rfl) (hst : (assignEach es X.env).findIdx? (·.1) = none := by rfl) : DGw T X vs (.Tuple es k pos) (gTp n u) :=
  ⟨PG.imp (pg_tup hc h.pgs hn hst) fun v σ H Q h => by
    obtain ⟨c, F, ad, e, r, P, rel, rr, ⟨rs, e1, e2, q⟩, k⟩ := h
    obtain ⟨a, vs, ev, hs, hv⟩ := tpI_ok rel rr e1
    refine ⟨a, vs, ev, ?_, hv.len.trans e2, c, F, ad, e, rs, P, rel, hv, q, k⟩
    rw [hK]
    exact hs⟩
theorem PTs.imp {es : List Expr} {t u : TT} (h : PTs X es t) (g : ∀ σ H Q, u σ H Q → t σ H Q) : PTs X es u := ⟨fun pins s σ H Q I q => h.run pins s σ H Q I (g σ H Q q)⟩
theorem dts_nil : DTs T X W [] tYesX := ⟨PTs.imp pts_nil fun σ H Q h => by
  obtain ⟨c, F, ad, e, P, R, rel, q, hq, hx⟩ := h
  exact hq true H F ad e (Ex.refl F) (Px.refl ad) rel q⟩
theorem dts_one {a : Expr} {t : TX} (h : DT T X W a t) : DTs T X W [a] t := ⟨pts_one h.pt⟩
theorem rel_wipe {c : BF} {sl : List (Option RV)} {ob : List OD} {σ : L2.St} {F H : Hp} {ad : List Addr} (R : Rel T c ⟨sl, ob⟩ σ F H ad) (vs : List Nat) : Rel T c ⟨wipeE sl vs, ob⟩ (wipe σ vs) F H ad := by
  refine R.slots (by rw [wipeE_length, wipe_length]; exact R.len) fun i r h => ?_
  obtain ⟨h1, h2⟩ := wipeE_some h
  obtain ⟨v, hv, hr⟩ := R.sl i r h1
  exact ⟨v, by rw [wipe_out h2]; exact hv, hr⟩
theorem putL_ok {c : BF} {sl : List (Option RV)} {ob : List OD} {σ : L2.St} {F H : Hp} {ad : List Addr} {k : Nat} {y : RV} {v : V} {Z : List OD → Prop} {p : Addr} (R : Rel T c ⟨sl, ob⟩ σ F H ad) (hy : RvR T F ad y v) (hp : ad[k]? = some p) (h : putL k ob y Z) :
    ∃ acc F' ob', H p = some (.lst acc) ∧ acc.length < sizeLine ∧ Ex F F' ∧ Rel T c ⟨sl, ob'⟩ σ F' (upd H p (.lst (acc ++ [v]))) ad ∧ Z ob' := by
  rcases h with ⟨ds, d, hk, hd, hz, q1⟩ | ⟨ds, d, ob', hk, hd, hk', hz, q1⟩ | ⟨zs, hk, hz, q1⟩
  · obtain ⟨n1, n2, ws, h1, h2⟩ := R.ob k _ p hk hp
    have R2 := R.set (u := .lst (ws ++ [v])) (o' := .lst (ds ++ [d])) hk rfl hp ⟨n1, n2, _, upd_same, h2.append (RepL.cons (dv_ok (e := ⟨[], ob⟩) R.bare hy hd) RepL.nil)⟩
    exact ⟨ws, F, _, h1, by rw [h2.len]; exact hz, Ex.refl F, R2, q1⟩
  · obtain ⟨F1, x1, R1, g1⟩ := fzR_ok 9 R hd
    obtain ⟨n1, n2, ws, h1, h2⟩ := R1.ob k _ p hk' hp
    have R2 := R1.set (u := .lst (ws ++ [v])) (o' := .lst (ds ++ [d])) hk' rfl hp ⟨n1, n2, _, upd_same, h2.append (RepL.cons (g1 v hy) RepL.nil)⟩
    exact ⟨ws, F1, _, h1, by rw [h2.len]; exact hz, x1, R2, q1⟩
  · obtain ⟨n1, n2, ws, h1, h2⟩ := R.ob k _ p hk hp
    have R2 := R.set (u := .lst (ws ++ [v])) (o' := .lsr (zs ++ [y])) hk rfl hp ⟨n1, n2, _, upd_same, RvL.append h2 ⟨v, [], rfl, hy, rfl⟩⟩
    exact ⟨ws, F, _, h1, by rw [h2.len]; exact hz, Ex.refl F, R2, q1⟩
theorem le_lc {ti : IX} {g : GX} {tt : TX} {te : EX} {σ : L2.St} {H : Hp} {Q : VK} (h : LE T W (eLc ti g tt te vs) σ H Q) : tLc (LI T W ti) (LGw T vs g) (LT T W0 tt) (LE T W0 te) vs σ H Q := by
  obtain ⟨c, F, ad, e, P, R, rel, q, hq, hx⟩ := h
  refine ⟨c, F, ad, e, _, R, rel, q, fun J H0 F0 ad0 e0 all G x0 p0 rel0 wl q0 => fun L hL => ?_, hx⟩
  obtain ⟨o0, ho, q0⟩ := q0
  obtain ⟨sl, ob0⟩ := e0
  have hal : ad0.length = ob0.length := rel0.adl
  have relL : Rel T c ⟨sl, ob0 ++ [o0]⟩ σ F0 (upd H0 L (.lst [])) (ad0 ++ [L]) := by
    refine rel0.push hL ?_
    have fL := rel0.fh.free hL
    have bL := rel0.bh.free hL
    rcases ho with rfl | rfl
    · exact ⟨fL, bL, [], upd_same, RepL.nil⟩
    · exact ⟨fL, bL, [], upd_same, rfl⟩
  have atL : (ad0 ++ [L])[ob0.length]? = some L := by rw [← hal]; simp
  refine ⟨fun i m H1 => ∃ F1 ad1 ob, m + i = all.length ∧ Ex F0 F1 ∧ Px (ad0 ++ [L]) ad1 ∧ Rel T c ⟨sl, ob⟩ σ F1 H1 ad1 ∧ compX vs g tt te G sl ob0.length (fun ob => P (.ob ob0.length) ⟨sl, ob⟩) (all.drop i) ob,
    ⟨all.length, F0, ad0 ++ [L], ob0 ++ [o0], rfl, Ex.refl F0, Px.refl _, relL, q0⟩, ?_⟩
  rintro i m H1 ⟨F1, ad1, ob, hm, x1, p1, rel1, q1⟩
  have p01 : Px ad0 ad1 := (Px.push ad0 L).trans p1
  have atL1 : ad1[ob0.length]? = some L := p1 _ _ atL
  cases hd : all.drop i with
  | nil =>
    rw [hd] at q1
    have hi : i = all.length := by
      have := congrArg List.length hd
      rw [List.length_drop] at this
      have e0 : ([] : List RV).length = 0 := rfl
      omega
    refine .inl ⟨?_, ?_⟩
    · rw [hi]
      exact wl.stop _ σ F1 H1 ad1 x1 p01 rel1 q1.1
    · exact (hq.mono x0 p0).mono x1 p01 _ H1 F1 ad1 _ (.ob ob0.length) (Ex.refl F1) (Px.refl ad1) rel1 ⟨L, atL1, rfl⟩ q1.2
  | cons rr rs =>
    rw [hd] at q1
    have hi : all[i]? = some rr := by
      have := congrArg (fun l => l[0]?) hd
      simpa using this
    have hds : all.drop (i + 1) = rs := by
      have := congrArg List.tail hd
      simpa using this
    have hil : i < all.length := (List.getElem?_eq_some_iff.mp hi).1
    refine .inr ⟨wl.go _ σ F1 H1 ad1 i rr x1 p01 rel1 q1.1 hi, fun H3 => ∃ F3 ad3 ob3, Ex F0 F3 ∧ Px (ad0 ++ [L]) ad3 ∧ Rel T c ⟨sl, ob3⟩ σ F3 H3 ad3 ∧ compX vs g tt te G sl ob0.length (fun ob => P (.ob ob0.length) ⟨sl, ob⟩) rs ob3,
      fun H3 ⟨F3, ad3, ob3, y1, y2, y3, y4⟩ => ⟨m - 1, by omega, F3, ad3, ob3, by omega, y1, y2, y3, by rw [hds]; exact y4⟩, fun v H2 hy => ?_⟩
    obtain ⟨F2, x2, rel2, rv⟩ := wl.yld _ σ F1 H1 ad1 i rr v H2 x1 p01 rel1 q1.1 hi hy
    have x12 := x1.trans x2
    refine ⟨c, F2, ad1, _, rr, _, rel_wipe rel2 vs, rv, q1.2, fun σ3 H3 F3 ad3 e3 x3 p3 rel3 w3 q3 => ⟨?_, c, F3, ad3, e3, _, _, rel3, q3, fun b H4 F4 ad4 e4 x4 p4 rel4 q4 => ?_, xl_no⟩⟩
    · rw [w3]
      have hw : ∀ us : List Nat, (∀ u ∈ us, u ∈ vs) → wipe (wipe σ vs) us = wipe σ vs := by
        intro us
        induction us with
        | nil => intro _; rfl
        | cons u us ih =>
          intro hu
          rw [wipe, ih fun z hz => hu z (List.mem_cons_of_mem _ hz)]
          have hu1 := hu u List.mem_cons_self
          apply List.ext_getElem?
          intro j
          by_cases hj : u = j
          · subst hj
            by_cases hl : u < (wipe σ vs).length
            · rw [List.getElem?_set_self hl]
              cases hz : (wipe σ vs)[u]? with
              | none => rw [List.getElem?_eq_none_iff] at hz; omega
              | some z =>
                cases z with
                | none => rfl
                | some z => exact absurd hu1 (wipe_some hz).2
            · rw [List.getElem?_eq_none (by rw [List.length_set]; omega), List.getElem?_eq_none (by omega)]
          · rw [List.getElem?_set_ne hj]
      exact hw vs fun u hu => hu
    · have x14 := (x12.trans x3).trans x4
      have p14 := (p1.trans p3).trans p4
      -- the state behind the turn: the old names, the new objects
      have again : ∀ {ob5 : List OD} {F5 H5 : Hp} {ad5 : List Addr} {sl5 : List (Option RV)} {σ5 : L2.St}, Rel T c ⟨sl5, ob5⟩ σ5 F5 H5 ad5 → Ex F1 F5 → Px ad1 ad5 → Rel T c ⟨sl, ob5⟩ σ F5 H5 ad5 := fun {ob5 F5 H5 ad5 sl5 σ5} R5 xx pp =>
        R5.slots rel1.len fun i r hh => by
          obtain ⟨v, hv, hr⟩ := rel1.sl i r hh
          exact ⟨v, hv, hr.mono xx pp⟩
      cases b with
      | true =>
        rw [if_pos rfl] at q4
        dsimp only
        rw [if_pos rfl]
        refine ⟨c, F4, ad4, e4, _, _, rel4, q4, fun y H5 F5 ad5 e5 r5 x5 p5 rel5 rr5 q5 => ?_, xl_no⟩
        obtain ⟨sl5, ob5⟩ := e5
        obtain ⟨acc, F6, ob6, g1, g2, g3, g4, g5⟩ := putL_ok rel5 rr5 (p5 _ _ (p14 _ _ atL)) q5
        exact ⟨acc, g1, g2, F6, ad5, ob6, (x14.trans x5).trans g3, p14.trans p5, again g4 (((x2.trans x3).trans x4).trans (x5.trans g3)) ((p3.trans p4).trans p5), g5⟩
      | false =>
        obtain ⟨sl4, ob4⟩ := e4
        exact ⟨F4, ad4, ob4, x14, p14, again rel4 ((x2.trans x3).trans x4) (p3.trans p4), q4⟩
theorem de_lc {elt tg iter : Expr} {ifs : List Expr} {scope : Scope} {own : List (Str × Nat)} {pos : Pos} {ti : IX} {g : GX} {tt : TX} {te : EX} (hc : X.calm = true) (hN : X.N.Nodup) (hi : DI T X W tg iter ti) (ok : BlkOk X.N X.env.scope scope own) (hv : own.map (·.2) = vs := by rfl)
    (hg : ∀ (s : Shared) (H : Hp) (C : Addr) (cl : List (Str × Addr)) (fp : List Addr), DGw T (X.blk s H scope (compEnvC scope cl C X.env) fp) vs tg g) (ht : ∀ (s : Shared) (H : Hp) (C : Addr) (cl : List (Str × Addr)) (fp : List Addr), DTs T (X.blk s H scope (compEnvC scope cl C X.env) fp) W0 ifs tt)
    (he : ∀ (s : Shared) (H : Hp) (C : Addr) (cl : List (Str × Addr)) (fp : List Addr), DE T (X.blk s H scope (compEnvC scope cl C X.env) fp) W0 elt te) (hs : ∀ x, foldedSetIterable iter X.env x = pure x := by intro _; rfl) :
    DE T X W (.ListComp elt [⟨tg, iter, ifs, 0⟩] scope pos) (eLc ti g tt te vs) := by
  subst hv
  exact ⟨PE.imp (pe_lc hc hN hi.pi ok (fun s H C cl fp => (hg s H C cl fp).pg) (fun s H C cl fp => (ht s H C cl fp).pts) (fun s H C cl fp => (he s H C cl fp).pe) hs) fun σ H Q h => le_lc h⟩
theorem ds_setLc (i : Nat) {y : Str} {py : Pos} {elt tg iter : Expr} {ifs : List Expr} {scope : Scope} {own : List (Str × Nat)} {pos spos : Pos} {ti : IX} {g : GX} {tt : TX} {te : EX} (hc : X.calm = true) (hN : X.N.Nodup) (hi : DI T X W tg iter ti) (ok : BlkOk X.N X.env.scope scope own)
    (hsw : swapsWith (.ListComp elt [⟨tg, iter, ifs, 0⟩] scope pos) (some (.Name y py)) spos.line X.env = pure true) (hv : own.map (·.2) = vs := by rfl) (hy : X.N[i]? = some y := by rfl) (hyl : X.env.scope.names.lookup y = some .local := by rfl)
    (hg : ∀ (s : Shared) (H : Hp) (C : Addr) (cl : List (Str × Addr)) (fp : List Addr), DGw T (X.blk s H scope (compEnvC scope cl C X.env) fp) vs tg g) (ht : ∀ (s : Shared) (H : Hp) (C : Addr) (cl : List (Str × Addr)) (fp : List Addr), DTs T (X.blk s H scope (compEnvC scope cl C X.env) fp) W0 ifs tt)
    (he : ∀ (s : Shared) (H : Hp) (C : Addr) (cl : List (Str × Addr)) (fp : List Addr), DE T (X.blk s H scope (compEnvC scope cl C X.env) fp) W0 elt te) (hs : ∀ x, foldedSetIterable iter X.env x = pure x := by intro _; rfl) :
    DS T X W (.Assign [.Name y py] (.ListComp elt [⟨tg, iter, ifs, 0⟩] scope pos) spos) (sAsg (eLc ti g tt te vs) (gNm i)) := by
  subst hv
  exact ⟨PS.imp (ps_setLc hc hN hy hyl hsw hi.pi ok (fun s H C cl fp => (hg s H C cl fp).pg) (fun s H C cl fp => (ht s H C cl fp).pts) (fun s H C cl fp => (he s H C cl fp).pe) hs) fun D σ H h => by
    obtain ⟨c, F, ad, e, Po, rel, q, n, r, x, bk, ct⟩ := h
    exact le_lc ⟨c, F, ad, e, _, _, rel, q, fun v H1 F1 ad1 e1 rr x1 p1 rel1 r1 q1 => n _ H1 F1 ad1 _ x1 p1 (rel1.put r1) q1, x⟩⟩
end
end DL
end
section
set_option Elab.async false
set_option linter.all false
set_option autoImplicit false
set_option maxRecDepth 100000
set_option maxHeartbeats 2000000
/-! DLK: exceptions of own classes; the head's facts; the law's end. -/
namespace DL
open PySem PySem.Spec L2
open PyProof.Rows hiding St

/-! ### own exception classes, made -/
/-- __init__ stores its parameters in the fields fs, in this order -/
def spI (C : Addr) (fs : List Str) : Sp := fun vs H Q _ => ∃ a ws, vs = .ref a :: ws ∧ ws.length = fs.length ∧ H a = some (exo a C none) ∧
  ∀ d, H d = none → d ≠ a → Q .non (upd (upd H d (exd d (fs.zip ws).reverse)) a (exo a C (some d)))
section
variable {P : Program} {w : World} {K : PySem.W.Frag} {mg : Str → Option Value} {base : Heap} {f C : Addr} {fd : FuncData} {N ps : List Str} {name qual : Str} {params : Arguments} {body : List Stmt} {scope : Scope} {f1 f2 f3 : Str}
theorem spI_len {n : Nat} {fs : List Str} (h : fs.length + 1 = n) : ∀ vs H Q E, spI C fs vs H Q E → vs.length = n := fun vs H Q E ⟨a, ws, e1, e2, _⟩ => by
  rw [e1, ← h, ← e2]
  rfl
theorem upd_swap {H : Hp} {a d : Addr} {u v u' : HO} (h : d ≠ a) : upd (upd (upd H d u) a v) d u' = upd (upd H d u') a v := by
  funext b
  unfold upd
  by_cases h1 : b = d
  · subst h1
    simp [h]
  · by_cases h2 : b = a
    · subst h2
      simp [h1]
    · simp [h1, h2]
theorem init1 (T : OexC K C) (n1 : PySem.W.findIn K (.ref C) f1 = some none) (F : FunD K name qual params body scope [] [] f fd) (S : FnScope N ps scope) (hp : 2 = ps.length) (hN : N.length = 2)
    (hb : ∀ (cdv : Value) (A : Around) (outer : List PySem.Env) (s : Shared) (H : Hp) (E : XK), PSs (cxOf (L2.CX P w) P w K mg base N qual scope f cdv A outer s H E) body (tOst K f1 (tVar 0) (tVar 1))) :
    FnOk P w K mg base (L2.CX P w) 1 f fd ps (spI C [f1]) := by
  refine F.ok S (spI_len hp) fun cdv A outer s H vs Q E hr h => ⟨_, hb cdv A outer s H E, ?_⟩
  obtain ⟨a, ws, rfl, hl, ha, q⟩ := h
  match ws, hl with
  | [y], _ =>
    have e0 : L2.start N [.ref a, y] = [some (.ref a), some y] := by simp [L2.start, hN]
    rw [e0]
    exact ⟨y, rfl, .ref a, rfl, a, C, rfl, T, n1, .inl ⟨ha, fun dx h1 h2 => q dx h1 h2⟩⟩
theorem init2 (T : OexC K C) (n1 : PySem.W.findIn K (.ref C) f1 = some none) (n2 : PySem.W.findIn K (.ref C) f2 = some none) (F : FunD K name qual params body scope [] [] f fd) (S : FnScope N ps scope) (hp : 3 = ps.length) (hN : N.length = 3)
    (hb : ∀ (cdv : Value) (A : Around) (outer : List PySem.Env) (s : Shared) (H : Hp) (E : XK), PSs (cxOf (L2.CX P w) P w K mg base N qual scope f cdv A outer s H E) body (tSeq (tOst K f1 (tVar 0) (tVar 1)) (tOst K f2 (tVar 0) (tVar 2)))) :
    FnOk P w K mg base (L2.CX P w) 1 f fd ps (spI C [f1, f2]) := by
  refine F.ok S (spI_len hp) fun cdv A outer s H vs Q E hr h => ⟨_, hb cdv A outer s H E, ?_⟩
  obtain ⟨a, ws, rfl, hl, ha, q⟩ := h
  match ws, hl with
  | [y, z], _ =>
    have e0 : L2.start N [.ref a, y, z] = [some (.ref a), some y, some z] := by simp [L2.start, hN]
    rw [e0]
    refine ⟨y, rfl, .ref a, rfl, a, C, rfl, T, n1, .inl ⟨ha, fun dx h1 h2 => ⟨z, rfl, .ref a, rfl, a, C, rfl, T, n2, .inr ⟨dx, [(f1, y)], upd_same, ?_, (by decide : 1 ≤ 900), ?_⟩⟩⟩⟩
    · rw [upd_ne h2, upd_same]
    · rw [upd_swap h2]
      exact q dx h1 h2
theorem init3 (T : OexC K C) (n1 : PySem.W.findIn K (.ref C) f1 = some none) (n2 : PySem.W.findIn K (.ref C) f2 = some none) (n3 : PySem.W.findIn K (.ref C) f3 = some none) (F : FunD K name qual params body scope [] [] f fd) (S : FnScope N ps scope) (hp : 4 = ps.length) (hN : N.length = 4)
    (hb : ∀ (cdv : Value) (A : Around) (outer : List PySem.Env) (s : Shared) (H : Hp) (E : XK), PSs (cxOf (L2.CX P w) P w K mg base N qual scope f cdv A outer s H E) body (tSeq (tOst K f1 (tVar 0) (tVar 1)) (tSeq (tOst K f2 (tVar 0) (tVar 2)) (tOst K f3 (tVar 0) (tVar 3))))) :
    FnOk P w K mg base (L2.CX P w) 1 f fd ps (spI C [f1, f2, f3]) := by
  refine F.ok S (spI_len hp) fun cdv A outer s H vs Q E hr h => ⟨_, hb cdv A outer s H E, ?_⟩
  obtain ⟨a, ws, rfl, hl, ha, q⟩ := h
  match ws, hl with
  | [y, z, u], _ =>
    have e0 : L2.start N [.ref a, y, z, u] = [some (.ref a), some y, some z, some u] := by simp [L2.start, hN]
    rw [e0]
    refine ⟨y, rfl, .ref a, rfl, a, C, rfl, T, n1, .inl ⟨ha, fun dx h1 h2 => ⟨z, rfl, .ref a, rfl, a, C, rfl, T, n2, .inr ⟨dx, [(f1, y)], upd_same, ?_, (by decide : 1 ≤ 900), u, rfl, .ref a, rfl, a, C, rfl, T, n3, .inr ⟨dx, [(f2, z), (f1, y)], ?_, ?_, (by decide : 2 ≤ 900), ?_⟩⟩⟩⟩⟩
    · rw [upd_ne h2, upd_same]
    · rw [upd_swap h2, upd_same]
    · rw [upd_swap h2, upd_ne h2, upd_same]
    · rw [upd_swap h2, upd_swap h2]
      exact q dx h1 h2
end
/-- the class of number c stores the fields fl -/
structure ExcK (T : Cn) (P : Program) (w : World) (base : Heap) (c : Nat) (fl : List Nat) : Prop where
  all : ∃ (C fI : Addr) (fd : FuncData) (ps : List Str), T.mg (T.nm c) = some (.ref C) ∧ OexC T.K C ∧ PySem.W.findIn T.K (.ref C) "__init__" = some (some (.ref fI)) ∧ PySem.W.typeIn T.K (.ref fI) = some (.type "function") ∧
    FnOk P w T.K T.mg base (L2.CX P w) 1 fI fd ps (spI C (fl.map T.nm)) ∧ Binds T.K fd ps [] ∧ (fl.map T.nm).Nodup
def allFrz : List RV → List Bool := List.map fun _ => true
/-- raise C(..) -/
def sRaise (c : Nat) (fl : List Nat) (u : AX) : SX := fun e Po => u e (fun rs e1 => rs.length ≤ 900 ∧ ∃ ds ob', frz (allFrz rs) e1.ob rs = some (ds.map .val, ob') ∧ ds.length = fl.length ∧ Po.xc ⟨c, fl.zip ds⟩ ⟨e1.sl, ob'⟩) Po.xc
section
variable {T : Cn} {X : Cx} {W : WX} {a : Expr} {es : List Expr} {u : AX} {pos pos' p : Pos} {x : Str}
theorem rvl_vals {F : Hp} {ad : List Addr} : ∀ {ds : List D} {vs : List V}, RvL T F ad (ds.map .val) vs → RepL T F ds vs
  | [], _, h => repL_nil.mpr h
  | d :: ds, _, ⟨v, q, h0, h1, h2⟩ => by
    subst h0
    exact RepL.cons h1 (rvl_vals h2)
theorem lookup_rev {α β : Type} [BEq α] [LawfulBEq α] {k : α} {v : β} : ∀ {l : List (α × β)}, (l.map (·.1)).Nodup → (k, v) ∈ l → l.reverse.lookup k = some v
  | [], _, h => by simp at h
  | (a, b) :: l, nd, h => by
    have nd' : a ∉ l.map (·.1) ∧ (l.map (·.1)).Nodup := List.nodup_cons.mp nd
    rw [List.reverse_cons, List.lookup_append]
    rcases List.mem_cons.mp h with e | h2
    · cases e
      have hn : l.reverse.lookup k = none := by
        rw [List.lookup_eq_none_iff]
        intro q hq
        have hq2 : q ∈ l := by simpa using hq
        have : k ≠ q.1 := fun e => nd'.1 (e ▸ List.mem_map_of_mem hq2)
        simpa using this
      rw [hn]
      simp
    · rw [lookup_rev nd'.2 h2]
      rfl
theorem repX_zip {F : Hp} {gs : List (Str × V)} : ∀ {fl : List Nat} {ds : List D} {vs : List V}, RepL T F ds vs → ds.length = fl.length → (∀ f v, (f, v) ∈ (fl.map T.nm).zip vs → gs.lookup f = some v) → RepX T F (fl.zip ds) gs
  | [], ds, vs, _, _, _ => by
    rw [List.zip_nil_left]
    exact repX_nil
  | f :: fl, [], vs, _, e, _ => by simp at e
  | f :: fl, d :: ds, vs, h, e, g => by
    obtain ⟨v, q, rfl, h1, h2⟩ := repL_cons.mp h
    rw [List.zip_cons_cons]
    refine repX_cons.mpr ⟨⟨v, g _ _ (by simp), h1⟩, repX_zip h2 (by simpa using e) fun f' v' hm => g f' v' ?_⟩
    rw [List.map_cons, List.zip_cons_cons]
    exact List.mem_cons_of_mem _ hm
theorem ds_raise {c : Nat} {fl : List Nat} (E : ExcK T X.prog X.w X.base c fl) (hc : X.calm = true) (hr : Room 2 X.A) (tk : Takes X W) (ha : DA T X W (a :: es) u) (hx : T.nm c = x := by rfl) (hfl : fl ≠ [] := by decide) (hg : Gl X x := by rfl) (hK : X.K = T.K := by rfl) (hM : X.mg = T.mg := by rfl)
    (hdb : (x == ("__debug__" : Str)) = false := by decide) (he : starEach (a :: es) X.env = (false, eval a X.env) :: starEach es X.env := by rfl) (hpl : (backTo pos (starEach es X.env)).any (·.1) = false := by rfl) :
    DS T X W (.Raise (some (.Call (.Name x p) (a :: es) [] pos)) none pos') (sRaise c fl u) := by
  obtain ⟨C, fI, fd, ps, hC, O, iC, tI, FI, hB, nd⟩ := E.all
  subst hx
  rw [← hM] at hC
  have FI' : FnOk X.prog X.w X.K X.mg X.base (L2.CX X.prog X.w) 1 fI fd ps (spI C (fl.map T.nm)) := by
    rw [hK, hM]
    exact FI
  rw [← hK] at O iC tI hB
  have pm := pmk_oex (p := p) O iC tI FI' hr hB (.nil : Vals [] []) (fun _ _ _ _ _ _ _ ⟨_, _, _, _, _, _, _, _, _, _, _, _, z⟩ => z.elim) hg hC ha.pa hdb he hpl
  refine ⟨PS.imp (ps_raise hc tk pm) fun D σ H h => ?_⟩
  obtain ⟨c0, F, ad, e, Po, rel, q, n, r, x, bk, ct⟩ := h
  refine ⟨c0, F, ad, e, _, _, rel, q, fun vs H1 F1 ad1 e1 rs x1 p1 rel1 r1 q1 => ?_, x⟩
  obtain ⟨hl, ds, ob', h1, h2, h3⟩ := q1
  obtain ⟨sl, ob⟩ := e1
  obtain ⟨F2, x2, rel2, g2⟩ := frz_ok _ rel1 h1
  have hv := rvl_vals (g2 vs r1)
  refine ⟨by rw [r1.len]; omega, fun a' ha' => ⟨a', vs, by rw [List.append_nil], by rw [hv.len, h2, List.length_map], upd_same, fun d hd hda => ?_⟩⟩
  have hd1 : H1 d = none := by rwa [upd_ne hda] at hd
  refine ⟨rfl, d, _, upd_same, by rw [upd_ne hda, upd_same], hd1, ?_⟩
  have eH : upd (del (upd (upd (upd H1 a' (exo a' C none)) d (exd d ((fl.map T.nm).zip vs).reverse)) a' (exo a' C (some d))) a') d (.xd ((fl.map T.nm).zip vs).reverse) = upd H1 d (.xd ((fl.map T.nm).zip vs).reverse) := by
    funext b
    unfold upd del
    by_cases hb1 : b = d
    · simp [hb1]
    · by_cases hb2 : b = a'
      · subst hb2
        simp [hb1, ha']
      · simp [hb1, hb2]
  rw [eH]
  have rel3 := rel2.laid (u := .xd ((fl.map T.nm).zip vs).reverse) hd1
  have xn : Ex F2 (upd F2 d (.xd ((fl.map T.nm).zip vs).reverse)) := Ex.new (rel2.fh.free hd1)
  refine x (.ref C) (some d) σ _ _ ad1 ⟨sl, ob'⟩ ⟨c, fl.zip ds⟩ (x1.trans (x2.trans xn)) p1 rel3 ⟨C, by rw [← hM]; exact hC, rfl, .inr ⟨d, _, rfl, upd_same, ?_⟩⟩ h3
  refine repX_zip (hv.mono xn) h2 fun f v hm => lookup_rev ?_ hm
  rw [List.map_fst_zip (by rw [hv.len, h2, List.length_map]; exact Nat.le_refl _)]
  exact nd
end

/-! ### try .. except C as n -/
def ClsIs (T : Cn) (cls : Value) (c : Nat) : Prop := ∃ C, T.mg (T.nm c) = some (.ref C) ∧ cls = .ref C
/-- isA: does the clause take the class -/
def sTryAs (T : Cn) (i : Nat) (isA : Nat → Option Bool) (b : SX) (h : Addr → Value → Option Addr → SX) : SX := fun e Po => b e { Po with xc := fun x e1 => ∃ k, isA x.c = some k ∧
  (if k = true then (∀ a cls d dd, ClsIs T cls x.c → (x.fs ≠ [] → d = some dd) → h a cls d { e1 with sl := e1.sl.set i (some (.val (.exn a dd x.c x.fs))) }
    { nx := fun e2 => Po.nx { e2 with sl := e2.sl.set i none }, rt := Po.rt, xc := fun _ _ => False, bk := fun e2 => Po.bk { e2 with sl := e2.sl.set i none }, ct := fun e2 => Po.ct { e2 with sl := e2.sl.set i none } })
  else Po.xc x e1) }
section
variable {T : Cn} {X : Cx} {W : WX}
theorem Rel.unput {c : BF} {e : Env} {σ : L2.St} {F H : Hp} {ad : List Addr} (R : Rel T c e σ F H ad) (i : Nat) : Rel T c { e with sl := e.sl.set i none } (σ.set i none) F H ad := by
  refine R.slots (by rw [List.length_set, List.length_set]; exact R.len) fun j r h => ?_
  by_cases hj : i = j
  · subst hj
    by_cases hl : i < e.sl.length
    · rw [List.getElem?_set_self hl] at h
      cases h
    · rw [List.getElem?_eq_none (by rw [List.length_set]; omega)] at h
      cases h
  · rw [List.getElem?_set_ne hj] at h
    rw [List.getElem?_set_ne hj]
    exact R.sl j r h
theorem ds_tryAs (i : Nat) {x n : Str} {cv : Value} {body suite : List Stmt} {b₀ : Stmt} {np pos pos' : Pos} {b : SX} {h : Addr → Value → Option Addr → SX} {isA : Nat → Option Bool} (hN : X.N.Nodup) (hc : Names X x cv) (tk : Takes X W)
    (hA : ∀ c k, isA c = some k → ∀ C, T.mg (T.nm c) = some (.ref C) → PySem.W.exmOne T.K (.ref C) cv = some k)
    (hb : ∀ (W' : WX) (pn : List (Addr × Obj)) (xe : Value → Shared → Prop), Takes (X.tr pn xe) W' → PassesOwn (model X.prog X.w) X.A X.env xe → DSs T (X.tr pn xe) W' body b)
    (hsu : ∀ (a : Addr) (oe : Obj) (cls : Value) (d : Option Addr) (pn : List (Addr × Obj)), Zc cls d oe → (∃ vs, oe.data = .fields vs) → DSs T (X.suite a ((a, oe) :: pn)) W0 (b₀ :: suite) (h a cls d))
    (hs : X.stack = X.env :: X.outer := by rfl) (hf : X.env.frame = some X.env.locals := by rfl) (hi : X.N[i]? = some n := by rfl) (hln : X.env.kindOf n = some .local := by rfl) (hK : X.K = T.K := by rfl) :
    DS T X W (.Try body [.ExceptHandler (some (.Name x np)) (some n) (b₀ :: suite) pos'] [] [] pos) (sTryAs T i isA b h) :=
  ⟨PS.imp (ps_try_as hs hf hN hi hln hc tk (tb := fun W' => LS T W' b) (ts := fun a cls d => LS T W0 (h a cls d)) (fun W' pn xe t p => (hb W' pn xe t p).pss) (fun a oe cls d pn z f => (hsu a oe cls d pn z f).pss)) fun D σ H hh => by
    obtain ⟨c0, F, ad, e, Po, rel, q, nx, rt, xl, bk, ct⟩ := hh
    refine ⟨c0, F, ad, e, _, rel, q, nx, rt, ?_, bk, ct⟩
    intro cls d σ' H' F' ad' e' xx x1 p1 rel1 xr q1
    obtain ⟨k, hk, q2⟩ := q1
    obtain ⟨C, hC, rfl, hf2⟩ := xr
    have hex := hA _ _ hk C hC
    rw [← hK] at hex
    refine ⟨k, hex, fun ek a ha => ?_, fun ek => ?_⟩
    · subst ek
      rw [if_pos rfl] at q2
      have go : ∀ dd, (xx.fs ≠ [] → d = some dd) → Rep T F' (.exn a dd xx.c xx.fs) (.ref a) → _ := fun dd h1 h2 =>
        (⟨c0, F', ad', _, _, rel1.put (i := i) (r := .val (.exn a dd xx.c xx.fs)) h2, q2 a (.ref C) d dd ⟨C, hC, rfl⟩ h1,
          fun σ2 H2 F2 ad2 e2 x2 p2 rel2 q3 => nx _ H2 F2 ad2 _ (x1.trans x2) (p1.trans p2) (rel2.unput i) q3,
          fun v σ2 H2 F2 ad2 e2 r2 x2 p2 rel2 rr q3 => rt v σ2 H2 F2 ad2 e2 r2 (x1.trans x2) (p1.trans p2) rel2 rr q3, xl_no,
          fun σ2 H2 F2 ad2 e2 x2 p2 rel2 q3 => bk _ H2 F2 ad2 _ (x1.trans x2) (p1.trans p2) (rel2.unput i) q3,
          fun σ2 H2 F2 ad2 e2 x2 p2 rel2 q3 => ct _ H2 F2 ad2 _ (x1.trans x2) (p1.trans p2) (rel2.unput i) q3⟩ :
          LS T W0 (h a (.ref C) d) { nx := fun σ' H' => D.nx (σ'.set i none) H', rt := D.rt, bk := fun σ' H' => D.bk (σ'.set i none) H', ct := fun σ' H' => D.ct (σ'.set i none) H' } (σ'.set i (some (.ref a))) H')
      rcases hf2 with hnil | ⟨dd, gs, hd, hF, hX⟩
      · exact go 0 (fun z => absurd hnil z) (rep_exn.mpr ⟨rfl, .inl hnil⟩)
      · exact go dd (fun _ => hd) (rep_exn.mpr ⟨rfl, .inr ⟨gs, hF, hX⟩⟩)
    · subst ek
      rw [if_neg Bool.false_ne_true] at q2
      exact xl (.ref C) d σ' H' F' ad' e' xx x1 p1 rel1 ⟨C, hC, rfl, hf2⟩ q2⟩
/-- n.f in the suite -/
def eXf (T : Cn) (a : Addr) (cls : Value) (d : Option Addr) (cs : List Nat) (f : Nat) (t : EX) : EX := fun e P R => t e (fun r e1 => ∃ dd c fs v, r = .val (.exn a dd c fs) ∧ ClsIs T cls c ∧ d = some dd ∧ c ∈ cs ∧ fs.lookup f = some v ∧ P (.val v) e1) R
theorem de_xf {a : Addr} {oe : Obj} {cls : Value} {d : Option Addr} {pn : List (Addr × Obj)} {e : Expr} {t : EX} {pos : Pos} {n : Str} {cs : List Nat} {f : Nat} (hz : Zc cls d oe) (hf : ∃ vs, oe.data = .fields vs)
    (hcs : ∀ c ∈ cs, ∀ C, T.mg (T.nm c) = some (.ref C) → XfC T.K C ∧ PySem.W.findIn T.K (.ref C) (T.nm f) = some none) (he : DE T (X.suite a ((a, oe) :: pn)) W0 e t) (hn : T.nm f = n := by rfl) (hK : X.K = T.K := by rfl)
    (hb : attributeBase e n X.env (eval e X.env) = eval e X.env := by rfl) : DE T (X.suite a ((a, oe) :: pn)) W0 (.Attribute e n pos) (eXf T a cls d cs f t) := ⟨⟨fun pins s σ H Q I h => by
  obtain ⟨c0, F, ad, en, P, R, rel, q, hq, hx⟩ := h
  subst hn
  -- the class is looked at first: only then its facts are known
  refine attr_of hb (thn (he.pe.run pins s σ H (fun v H1 => ∃ F1 ad1 e1 r, Ex F F1 ∧ Px ad ad1 ∧ Rel T c0 e1 σ F1 H1 ad1 ∧ RvR T F1 ad1 r v ∧ ∃ dd c fs w, r = .val (.exn a dd c fs) ∧ ClsIs T cls c ∧ d = some dd ∧ c ∈ cs ∧ fs.lookup f = some w ∧ P (.val w) e1) I
    ⟨c0, F, ad, en, _, R, rel, q, fun v H1 F1 ad1 e1 r x1 p1 rel1 r1 q1 => ⟨F1, ad1, e1, r, x1, p1, rel1, r1, q1⟩, hx⟩) fun u s1 hh => ?_)
  obtain ⟨v, H1, I1, rv, F1, ad1, e1, r, x1, p1, rel1, r1, dd, c, fs, w, rfl, ⟨C, hC, hcl⟩, hd, hc, hl, hP⟩ := hh
  obtain ⟨XC, hno⟩ := hcs c hc C hC
  rw [← hK] at XC hno
  obtain ⟨rfl, hfs⟩ := rep_exn.mp (show Rep T F1 (.exn a dd c fs) v from r1)
  obtain rfl : u = Value.ref a := rv
  rcases hfs with hnil | ⟨gs, hF, hX⟩
  · rw [hnil] at hl
    cases hl
  · obtain ⟨z, hz1, hz2⟩ := hX.get hl
    subst hcl hd
    obtain ⟨ha, _⟩ := I1.pin (a, oe) (List.mem_append_left _ List.mem_cons_self)
    obtain ⟨ws, hw⟩ := hf
    obtain ⟨mA, hns, hr⟩ : ObjOk X.prog X.w H1 s1.heap dd (.xd gs) := I1.hok dd _ (rel1.fh _ _ hF)
    obtain ⟨od, ho, hlk⟩ := lookIn_ns hns
    obtain ⟨y, hy, ry⟩ := RelO.some_of (v := z) (o := mA (T.nm f)) (by rw [← hz1]; exact hr (T.nm f))
    have J : PySem.W.InstAt s1.heap a oe C (some od) := ⟨ha, hz.1, by unfold PySem.W.notCls; rw [hw] <;> rfl, by rw [hz.2]; exact ho⟩
    exact HandSPX.exc_get I1.kIn J XC.ga XC.gg XC.exC (PySem.W.findObj_own XC.hdC hno rfl (by rw [hlk, hy])) (handed_of ry) ⟨z, H1, I1.tok _, ry, (hq.mono x1 p1).val rel1 hz2 hP⟩⟩⟩
end
end DL
end
section
set_option Elab.async false
set_option linter.all false
set_option autoImplicit false
set_option maxRecDepth 100000
set_option maxHeartbeats 2000000
/-! DLL: isinstance of a caught error; the head's facts; the law's end. -/
namespace PySem.W
open PySem PySem.Spec PySem.Calls PyProof.Rows
/-- as the library's rule for a caught error's class, the error having its own dict -/
theorem exnClass {prog : Program} {w : World} {A : Around} {E : Value → Shared → Prop} {s : Shared} {K : Frag} {x D : Addr} {ox : Obj} {dct : Option Obj} {Z : Option Value → Shared → Prop} (c1 : findIn K (.ref D) "__getattribute__" = some (some (.builtin "BaseException.__getattribute__")))
    (c2 : findIn K (.ref D) "__getattr__" = some none) (c3 : subIn K (.ref D) (.type "BaseException") = some true) (c4 : hasDictIn K D = true) (c5 : findIn K (.ref D) "__class__" = some (some (.builtin "object.__class__")))
    (c6 : specialIn K (.builtin "object.__class__") "__get__" = some (some (.builtin "getset_descriptor.__get__"))) (c7 : takesIn K (.builtin "object.__class__") = some true) (c8 : mroIn K D (.type "object") = some true)
    (kin : K.In s.heap) (inst : InstAt s.heap x ox D dct) (fin : Z (some (.ref D)) { s with toks := s.toks + 1 }) : wpAny (model prog w) A (getAttr? (.ref x) "__class__") Z E s := by
  have found : findObj K D dct "__class__" = some (.bind (.builtin "getset_descriptor.__get__") (.builtin "object.__class__")) := by
    obtain ⟨cd, hcd⟩ := Option.isSome_iff_exists.mp (show (clsIn K D).isSome = true by obtain ⟨cd, hc, _⟩ := any_some c4; rw [hc]; rfl)
    unfold findObj
    rw [hcd, Option.bind_some, c5, Option.bind_some]
    simp [c6, c7]
  obtain ⟨hp, gn, dr, tk, ost⟩ := s
  have l0 := inst.type (M := model prog w)
  have l1 := looks_findIn (M := model prog w) kin c1
  have l2 := looks_findIn (M := model prog w) kin c2
  have l3 := looks_find (M := model prog w) kin inst found
  have isB : Looks (model prog w) hp (isInstance (.ref x) (.type "BaseException")) true := l0.andThen (looks_subIn kin c3)
  have t0 : (false && onTheHeap (Value.builtin "BaseException.__getattribute__")) = false := rfl
  have t2 : (Value.builtin "BaseException.__getattribute__" == Value.builtin "object.__getattribute__") = false := by decide +kernel
  have t1 : (onTheHeap (Value.ref D) && Value.builtin "BaseException.__getattribute__" == Value.builtin "object.__getattribute__") = false := by rw [t2]; rfl
  unfold getAttr? getAttrBy? getAttrBy
  refine wpAny_bind (wpAny_mkText (wpAny_bind (wpAny_attempt (wpAny_holding (wpAny_bind (l0.at (wpAny_bind (l1.at ?_))))))))
  show wpAny _ _ (if (onTheHeap (Value.ref D) && Value.builtin "BaseException.__getattribute__" == Value.builtin "object.__getattribute__") = true then _ else _) _ _ _
  rw [t1, if_neg Bool.false_ne_true]
  unfold getAttrByItsOwn hookBefore
  refine wpAny_bind ?_
  rw [if_pos (show onTheHeap (Value.ref D) = true from rfl)]
  refine l2.at (wpAny_bind (wpAny_attempt (wpAny_holding ?_)))
  unfold callGetattribute
  rw [t0, if_neg Bool.false_ne_true]
  unfold boundAndCalled
  rw [PySem.F.excAttr_ValueError.ga.bind (.ref x)]
  refine wpAny_bind (wpAny_pure ?_)
  show wpAny _ _ (call (.builtin "BaseException.__getattribute__") [.ref x, .str "__class__" tk]) _ _ _
  refine wpAny_call (codeAny_call_builtin PySem.F.excAttr_ValueError.ga.plain PySem.F.entry_bexc_ga ?_)
  refine @check_slot (model prog w) _ _ ⟨hp, gn, dr, tk + 1, ost⟩ "BaseException.__getattribute__" "BaseException" "__getattribute__" (.ref x) [.str "__class__" tk] [] _ (by decide +kernel) (by decide +kernel) isB (PySem.F.args_bexc_ga (.ref x) (.str "__class__" tk)) ?_
  unfold Builtin.«object.__getattribute__»
  refine wpAny_bind (wpAny_of_eq (a := ((Value.ref x : Value), [Value.str "__class__" tk])) (by first | rfl | (simp only [slotArgs]; rfl)) ?_)
  refine wpAny_bind (wpAny_pure (wpAny_bind (l0.at (wpAny_bind (l3.at ?_)))))
  show wpAny _ _ (holding [Value.builtin "object.__class__"] (call (.builtin "getset_descriptor.__get__") [.builtin "object.__class__", .ref x, .ref D]) >>= ret) _ _ _
  refine wpAny_bind (wpAny_holding (wpAny_call (class_get (s := ⟨hp, gn, dr, tk + 1, ost⟩) (ox := ox) (od := dct) kin inst c8 (wpAny_pure ?_))))
  show wpAny _ _ (handedOut (.ref D)) _ _ _
  rw [handedOut_of (v := .ref D) rfl]
  first
    | exact wpAny_pure (wpAny_pure fin)
    | exact wpAny_pure fin
    | exact wpAny_pure (wpAny_bind (wpAny_pure (wpAny_pure fin)))
end PySem.W
namespace DL
open PySem PySem.Spec L2
open PyProof.Rows hiding St

theorem kit_exn {K : PySem.W.Frag} {x D : Addr} {ox : Obj} (C : ExcC K D) : PySem.W.KitX K (.ref x) (.ref D) (fun h => ∃ od, PySem.W.InstAt h x ox D od) where
  ty := fun _ _ _ ⟨_, I⟩ => I.type
  it := fun M h X ⟨od, I⟩ => by
    obtain ⟨cd, hc, _⟩ := PySem.W.any_some C.hd
    unfold PySem.W.clsIn at hc
    split at hc
    · rename_i c1 d1 cd1 sl1 ho
      intro A1 Q1 E1 s1 k q
      unfold isType loadHead
      exact wpAny_bind (wpAny_loadPart (k _ _ (X _ _ ho)) (wpAny_pure q))
    · cases hc
  ne := fun h tp dd its n sl X htp => (PySem.W.handS_kitx_exc (x := x) (ox := ox) C.hg C.hk C.hs C.hd C.ha C.hn C.ht C.hm).ne h tp dd its n sl X htp
  ca := fun X ⟨_, I⟩ k => PySem.W.exnClass C.hg C.hk C.hs C.hd C.ha C.hn C.ht C.hm X I k
/-- isinstance(n, C2) in the suite; ans: the answer for each class that may have been caught -/
def eXi (T : Cn) (a : Addr) (cls : Value) (d : Option Addr) (ans : Nat → Option Bool) (t : EX) : EX := fun e P R => t e (fun r e1 => ∃ dd c fs b, r = .val (.exn a dd c fs) ∧ ClsIs T cls c ∧ fs ≠ [] ∧ d = some dd ∧ ans c = some b ∧ P (.val (.bl b)) e1) R
def rIsX (K : PySem.W.Frag) (a : Addr) (oe : Obj) : List V → Hp → VK → Prop := fun xs H Q => ∃ (D : Addr) (d : Option Addr) (c : V) (cv : Value) (b : Bool), ExcC K D ∧ Zc (.ref D) d oe ∧ (∀ dd, d = some dd → ∃ gs, H dd = some (.xd gs)) ∧ xs = [.ref a, c] ∧ (∀ u, RelV c u → u = cv) ∧ PySem.W.kitOne K (.ref D) cv = some b ∧ Q (.bl b) H
theorem call_isX {X : Cx} {a : Addr} {oe : Obj} {pn : List (Addr × Obj)} (hf : ∃ vs, oe.data = .fields vs) : CallR (X.suite a ((a, oe) :: pn)) (.builtin "isinstance") (rIsX X.K a oe) := by
  intro pins s σ H xs us Q I r h
  obtain ⟨D, d, c, cv, b, C, hz, hdd, rfl, hcv, e, q⟩ := h
  obtain ⟨u1, u2, rfl, r1, r2⟩ := vals2 r
  obtain rfl : u1 = Value.ref a := r1
  have ec := hcv _ r2
  subst ec
  obtain ⟨hget, _⟩ := I.pin (a, oe) (List.mem_append.mpr (.inl List.mem_cons_self))
  obtain ⟨ws, hw⟩ := hf
  have J : ∃ od, PySem.W.InstAt s.heap a oe D od := by
    have hn : PySem.W.notCls oe = true := by unfold PySem.W.notCls; rw [hw]
    cases hd : oe.dict with
    | none => exact ⟨none, hget, hz.1, hn, by rw [hd]; trivial⟩
    | some dd =>
      obtain ⟨gs, hg⟩ := hdd dd (by rw [← hz.2, hd])
      obtain ⟨mA, hns, _⟩ : ObjOk X.prog X.w H s.heap dd (.xd gs) := I.hok dd _ hg
      obtain ⟨od, ho, _⟩ := lookIn_ns hns
      exact ⟨some od, hget, hz.1, hn, by rw [hd]; exact ho⟩
  exact PySem.W.kia_one (kit_exn C) I.kIn J e (fun z => nomatch z) fun tk => ⟨.bl b, H, I.kept (t' := tk) fun _ _ z => z, rfl, q⟩
theorem de_isX {T : Cn} {X : Cx} {a : Addr} {oe : Obj} {cls : Value} {d : Option Addr} {pn : List (Addr × Obj)} {e : Expr} {t : EX} {p p2 pos : Pos} {y : Str} {C2 : Addr} {ans : Nat → Option Bool} (hz : Zc cls d oe) (hf : ∃ vs, oe.data = .fields vs)
    (hans : ∀ c b, ans c = some b → ∀ C, T.mg (T.nm c) = some (.ref C) → ExcC T.K C ∧ PySem.W.kitOne T.K (.ref C) (.ref C2) = some b) (he : DE T (X.suite a ((a, oe) :: pn)) W0 e t) (hm : X.mg "isinstance" = none) (hm2 : X.mg y = some (.ref C2)) (hK : X.K = T.K := by rfl) (hg : Gl X "isinstance" := by rfl) (hg2 : Gl X y := by rfl)
    (hdb : (y == ("__debug__" : Str)) = false := by decide) (hst : starEach (e :: [.Name y p2]) X.env = (false, eval e X.env) :: starEach [.Name y p2] X.env := by rfl) (hst2 : starEach (.Name y p2 :: []) X.env = (false, eval (.Name y p2) X.env) :: starEach [] X.env := by rfl)
    (hpl : (backTo pos (starEach [.Name y p2] X.env)).any (·.1) = false := by rfl) : DE T (X.suite a ((a, oe) :: pn)) W0 (.Call (.Name "isinstance" p) [e, .Name y p2] [] pos) (eXi T a cls d ans t) :=
  ⟨PE.imp (pe_callB (X := X.suite a ((a, oe) :: pn)) (call_isX (X := X) hf) hg hm rfl (pa_cons he.pe (pa_cons (pe_glob (X := X.suite a ((a, oe) :: pn)) hg2 hm2 (v := .ref C2) rfl hdb) pa_nil hst2) hst) (by decide) (by decide) hst hpl) fun σ H Q h => by
    obtain ⟨c0, F, ad, en, P, R, rel, q, hq, hx⟩ := h
    refine ⟨c0, F, ad, en, _, R, rel, q, fun v H1 F1 ad1 e1 r x1 p1 rel1 r1 q1 => ?_, hx⟩
    obtain ⟨dd, c, fs, b, rfl, ⟨C, hC, hcl⟩, hne, hd, hb, hP⟩ := q1
    obtain ⟨EC, hk⟩ := hans c b hb C hC
    obtain ⟨rfl, hfs⟩ := rep_exn.mp (show Rep T F1 (.exn a dd c fs) v from r1)
    rcases hfs with hnil | ⟨gs, hF, hX⟩
    · exact absurd hnil hne
    · subst hcl hd
      rw [← hK] at EC hk
      exact ⟨C, some dd, .ref C2, .ref C2, b, EC, hz, fun d2 h2 => by cases h2; exact ⟨gs, rel1.fh _ _ hF⟩, rfl, fun u hu => hu, hk, (hq.mono x1 p1).val rel1 (rep_bl.mpr rfl) hP⟩⟩

/-! ### the head's facts -/
/-- every object that the facts are about, but lists (the script may stand at none of them) -/
def frL (g : Addr → Option Obj) (as : List Addr) : PySem.W.Frag := (He.frG g as).filter fun p => match p.2.cls with
  | .type n => n != "list"
  | _ => true
theorem mem_look {α β : Type} [BEq α] [LawfulBEq α] {k : α} {v : β} : ∀ {l : List (α × β)}, l.lookup k = some v → (k, v) ∈ l
  | [], h => by simp at h
  | (a, b) :: l, h => by
    rw [List.lookup_cons] at h
    split at h
    · rename_i e
      cases h
      rw [beq_iff_eq.mp e]
      exact List.mem_cons_self
    · exact List.mem_cons_of_mem _ (mem_look h)
theorem mem_frG {g : Addr → Option Obj} {a : Addr} {o : Obj} : ∀ {as : List Addr}, (a, o) ∈ He.frG g as → g a = some o
  | [], h => by simp [He.frG] at h
  | b :: r, h => by
    unfold He.frG at h
    obtain ⟨c, _, hc⟩ := List.mem_filterMap.mp h
    cases e : g c with
    | none =>
      rw [e] at hc
      cases hc
    | some ob =>
      rw [e] at hc
      cases hc
      exact e
theorem frL_in {as : List Addr} {h : Heap} : (frL h.get? as).In h := fun a o e => by
  unfold frL at e
  exact mem_frG (as := as) (List.mem_filter.mp (mem_look e)).1
theorem frL_nol {g : Addr → Option Obj} {as : List Addr} {a : Addr} {o : Obj} (e : (frL g as).lookup a = some o) : o.cls ≠ .type "list" := fun hc => by
  unfold frL at e
  have := (List.mem_filter.mp (mem_look e)).2
  dsimp only at this
  rw [hc] at this
  exact absurd this (by decide)
abbrev Fk := PySem.W.Frag → Bool
def obsF (fa : List Fk) (fn : List He.DefD) (K : PySem.W.Frag) : He.AlD := ((fa.all fun f => f K) && fn.all fun d => d.ok K, fn.map fun d => He.fnW K d.at_)
def SaysF (fa : List Fk) (fn : List He.DefD) (K : PySem.W.Frag) : Prop := obsF fa fn K = He.valD fn
def NoL (K : PySem.W.Frag) : Prop := ∀ a o, K.lookup a = some o → o.cls ≠ .type "list"
def obsFG (n : Nat) (fa : List Fk) (fn : List He.DefD) (g : Addr → Option Obj) : He.AlD := obsF fa fn (frL g (He.asD g n))
def hookF (n : Nat) (fa : List Fk) (fn : List He.DefD) : PySem.W.Hook where
  α := He.AlD
  obs := fun s => obsFG n fa fn s.heap.get?
  val := fun _ => He.valD fn
  says := fun _ h => ∃ K : PySem.W.Frag, K.In h ∧ NoL K ∧ SaysF fa fn K
  of := fun _ _ e => ⟨_, frL_in, fun _ _ q => frL_nol q, e⟩
  keeps := fun _ _ _ ⟨K, hK, nl, c⟩ k => ⟨K, PySem.W.Frag.In.keeps hK k, nl, c⟩
theorem obsFG_eq {n : Nat} {fa : List Fk} {fn : List He.DefD} {g : Addr → Option Obj} {s : Shared} (h : ∀ a, g a = s.heap.get? a) : obsFG n fa fn g = (hookF n fa fn).obs s := by
  have e : g = s.heap.get? := funext h
  rw [e]
  rfl
section
variable {fa : List Fk} {fn : List He.DefD} {K : PySem.W.Frag}
theorem SaysF.fact (c : SaysF fa fn K) (i : Nat) {f : Fk} (h : fa[i]? = some f := by rfl) : f K = true :=
  List.all_eq_true.mp (He.ba (show ((fa.all fun f => f K) && fn.all fun d => d.ok K) = true from congrArg (fun z : He.AlD => z.1) c)).1 f (List.mem_of_getElem? h)
theorem SaysF.def_ (c : SaysF fa fn K) (i : Nat) {d : He.DefD} (h : fn[i]? = some d := by rfl) : ∃ fd, FunD K d.name d.qual d.params d.body d.scope (d.dvs K) (d.kws K) (He.fAd K d.at_) fd := by
  have c2 := (He.ba (show ((fa.all fun f => f K) && fn.all fun d => d.ok K) = true from congrArg (fun z : He.AlD => z.1) c)).2
  have e2 : (fn.map fun d => He.fnW K d.at_)[i]? = (fn.map He.DefD.val)[i]? := by rw [show fn.map (fun d => He.fnW K d.at_) = fn.map He.DefD.val from congrArg (fun z : He.AlD => z.2) c]
  rw [List.getElem?_map, List.getElem?_map, h] at e2
  exact He.DefD.funD (Option.some.inj e2) (List.all_eq_true.mp c2 d (List.mem_of_getElem? h))
end
/-- facts as tests -/
def fGlo (x : Str) : Fk := fun K => (He.Fa.glo x).ok K
def fFree (x : Str) : Fk := fun K => (He.Fa.free x).ok K
def fFa (f : He.Fa) : Fk := fun K => f.ok K
/-- an own exception class over ValueError with an own __init__ -/
def oexB (K : PySem.W.Frag) (C : Addr) : Bool := match K.lookup C with
  | some ⟨.type "type", _, .cls cd, sl⟩ => (match cd.mro, sl.toList with
    | .ref C' :: bm, [_, _, _, _, some (.builtin n), _] => C' == C && (n == "ValueError.__new__" && (!cd.hasDel && (cd.hasDict && PySem.HandSPX.refsVE bm)))
    | _, _ => false)
  | _ => false
def fOex (x : Str) : Fk := fun K => oexB K (He.ga K x) && (He.eqO (PySem.W.findIn K (.ref (He.ga K x)) "__setattr__") (some (some (.builtin "object.__setattr__"))) && (decide (PySem.W.subIn K (.ref (He.ga K x)) (.type "BaseException") = some true) &&
  (decide (PySem.W.typeIn K (.ref (He.ga K x)) = some (.type "type")) && (PySem.W.keepIn K (.ref (He.ga K x)) && (He.eqO (PySem.W.findIn K (.ref (He.ga K x)) "__init__") (some (some (.ref (He.ma K (He.ga K x) "__init__")))) &&
    decide (PySem.W.typeIn K (.ref (He.ma K (He.ga K x) "__init__")) = some (.type "function")))))))
theorem oexB_ok {K : PySem.W.Frag} {C : Addr} (h : oexB K C = true) : ∃ nm q N bs bm sn sub ab col dd k0 k1 k2 k3 k5, K.lookup C = some (excClassObj nm q C N bs bm true sn sub ab col dd k0 k1 k2 k3 k5 "ValueError.__new__") ∧ PySem.HandSPX.refsVE bm = true := by
  unfold oexB at h
  split at h
  · rename_i dd cd sl ho
    split at h
    · rename_i C' bm k0 k1 k2 k3 n k5 hm hs
      simp only [Bool.and_eq_true, beq_iff_eq, Bool.not_eq_true'] at h
      obtain ⟨h1, h2, h3, h4, h5⟩ := h
      subst h1 h2
      obtain ⟨nm, bs, mro, ns, qn, hd, sn, sub, ab, col, del⟩ := cd
      dsimp only at hm h3 h4
      subst hm h3 h4
      obtain ⟨l⟩ := sl
      dsimp only at hs
      subst hs
      exact ⟨nm, qn, ns, bs, bm, sn, sub, ab, col, dd, k0, k1, k2, k3, k5, ho, h5⟩
    · cases h
  · cases h
theorem fOex_ok {K : PySem.W.Frag} {x : Str} (h : fOex x K = true) : OexC K (He.ga K x) ∧ PySem.W.findIn K (.ref (He.ga K x)) "__init__" = some (some (.ref (He.ma K (He.ga K x) "__init__"))) ∧ PySem.W.typeIn K (.ref (He.ma K (He.ga K x) "__init__")) = some (.type "function") := by
  obtain ⟨h1, h⟩ := He.ba h
  obtain ⟨h2, h⟩ := He.ba h
  obtain ⟨h3, h⟩ := He.ba h
  obtain ⟨h4, h⟩ := He.ba h
  obtain ⟨h5, h⟩ := He.ba h
  obtain ⟨h6, h7⟩ := He.ba h
  exact ⟨⟨oexB_ok h1, He.eqO_ok h2, of_decide_eq_true h3, of_decide_eq_true h4, h5⟩, He.eqO_ok h6, of_decide_eq_true h7⟩
def fXf (x : Str) : Fk := fun K => xfB K (He.ga K x)
def fExm (x y : Str) (b : Bool) : Fk := fun K => decide (PySem.W.exmOne K (.ref (He.ga K x)) (.ref (He.ga K y)) = some b)
def fKit (x y : Str) (b : Bool) : Fk := fun K => decide (PySem.W.kitOne K (.ref (He.ga K x)) (.ref (He.ga K y)) = some b)
def fNoat (x f : Str) : Fk := fun K => He.eqO (PySem.W.findIn K (.ref (He.ga K x)) f) (some none)
def fExcC (x : Str) : Fk := fun K => He.eqO (PySem.W.findIn K (.ref (He.ga K x)) "__getattribute__") (some (some (.builtin "BaseException.__getattribute__"))) && (He.eqO (PySem.W.findIn K (.ref (He.ga K x)) "__getattr__") (some none) &&
  (decide (PySem.W.subIn K (.ref (He.ga K x)) (.type "BaseException") = some true) && (PySem.W.hasDictIn K (He.ga K x) && (He.eqO (PySem.W.findIn K (.ref (He.ga K x)) "__class__") (some (some (.builtin "object.__class__"))) &&
    (He.eqO (PySem.W.specialIn K (.builtin "object.__class__") "__get__") (some (some (.builtin "getset_descriptor.__get__"))) && (decide (PySem.W.takesIn K (.builtin "object.__class__") = some true) && decide (PySem.W.mroIn K (He.ga K x) (.type "object") = some true)))))))
theorem fExcC_ok {K : PySem.W.Frag} {x : Str} (h : fExcC x K = true) : ExcC K (He.ga K x) := by
  obtain ⟨h1, h⟩ := He.ba h
  obtain ⟨h2, h⟩ := He.ba h
  obtain ⟨h3, h⟩ := He.ba h
  obtain ⟨h4, h⟩ := He.ba h
  obtain ⟨h5, h⟩ := He.ba h
  obtain ⟨h6, h⟩ := He.ba h
  obtain ⟨h7, h8⟩ := He.ba h
  exact ⟨He.eqO_ok h1, He.eqO_ok h2, of_decide_eq_true h3, h4, He.eqO_ok h5, He.eqO_ok h6, of_decide_eq_true h7, of_decide_eq_true h8⟩

/-! ### the law's end -/
/-- True, at every script of n numbers at most -/
def fxLaw (n : Nat) : FX := fun rs ob P _ => ∃ ns : List Int, ns.length ≤ n ∧ rs = [.val (.lst (ns.map .int))] ∧ ob = [] ∧ P (.val (.bl true)) []
theorem lawG {P : Program} {w : World} {T : Cn} {mb : Str → Option Value} {k n : Nat} {fa a : Addr} {fd : FuncData} {x : Str} {s₁ : Shared} {vs : List Value} {ns : List Int} (KX : T.K.In s₁.heap) (nl : NoL T.K) (hns : s₁.heap.Ns mainGlobals T.mg) (hb : s₁.heap.Ns builtinsNs mb)
    (hbb : ∀ x : Str, x ≠ "__name__" → mb x = bootBuiltins x) (hlim : s₁.heap.NoLimit) (hg : s₁.gens = #[]) (ha : s₁.heap.get? a = some { cls := .type "list", data := .seq vs.toArray }) (hi : IntsAre vs ns) (hl : ns.length ≤ n) (hn : n ≤ sizeLine) (hr : Room k callerA)
    (F : ∀ base : Heap, T.K.In base → base.Ns mainGlobals T.mg → FnG T P w base k fa fd [x] (fxLaw n)) (hbind : ∀ (s : Shared) (u : Value), BindsTo s fd ⟨[u], []⟩ [(x, u)]) :
    codeAny (model P w) callerA (.call (.ref fa) ⟨[.ref a], []⟩) (fun r s' => r = .ok (.ret (.bool true)) ∧ PySem.OldK s₁.heap s'.heap ∧ s'.os = s₁.os ∧ AllBare s'.gens) s₁ := by
  have rv := vals_ints hi
  have hka : T.K.lookup a = none := by
    cases e : T.K.lookup a with
    | none => rfl
    | some o =>
      have := nl a o e
      have e2 := KX a o e
      rw [ha] at e2
      cases e2
      exact absurd rfl this
  -- only the script is told
  let H : Hp := fun b => if b = a then some (.frz { cls := .type "list", data := .seq vs.toArray } (.lst (ns.map V.int))) else none
  have Ha : H a = some (.frz { cls := .type "list", data := .seq vs.toArray } (.lst (ns.map V.int))) := if_pos rfl
  have Hn : ∀ {b : Addr}, b ≠ a → H b = none := fun h => if_neg h
  have only : ∀ {b : Addr} {u : HO}, H b = some u → b = a ∧ u = .frz { cls := .type "list", data := .seq vs.toArray } (.lst (ns.map V.int)) := fun {b u} h => by
    by_cases e : b = a
    · subst e
      rw [Ha] at h
      cases h
      exact ⟨rfl, rfl⟩
    · rw [Hn e] at h
      cases h
  have hok : HOk P w H s₁.heap := fun b u h => by
    obtain ⟨rfl, rfl⟩ := only h
    exact ⟨ha, by rw [List.length_map]; omega, vs, _, rv, ha⟩
  have keepB : ∀ {b : Addr} {o : Obj}, s₁.heap.get? b = some o → b ≠ a → (hidT s₁.heap H).get? b = some o := fun e n => hidT_get e (Hn n)
  have dictB : ∀ {b : Addr} {o : Obj} {es : Array DictEntry} {ep : Nat}, s₁.heap.get? b = some o → o.data = .dict es ep → b ≠ a := fun {b o es ep} e d q => by
    subst q
    rw [ha] at e
    cases e
    cases (show Data.seq vs.toArray _ = Data.dict es ep from d)
  have nsB : ∀ {b : Addr} {m : Str → Option Value}, s₁.heap.Ns b m → (hidT s₁.heap H).Ns b m := fun {b m} ⟨o, es, ep, e, d, r⟩ => ⟨o, es, ep, keepB e (dictB e d), d, r⟩
  have kinB : T.K.In (hidT s₁.heap H) := fun b o e => keepB (KX b o e) fun q => by
    subst q
    rw [hka] at e
    cases e
  have mod : Mod T.K T.mg (hidT s₁.heap H) := ⟨kinB, nsB hns, ⟨mb, nsB hb, hbb⟩, let ⟨mc, h1, h2⟩ := hlim; ⟨mc, nsB h1, h2⟩⟩
  have env : Env0 P w T.K T.mg (hidT s₁.heap H) callerA [] s₁ H := ⟨rfl, mod, fun b o e => of_hidT e, Nat.le_of_eq (hidT_size _ _), trivial, fun b q => absurd (show b ∈ ([] : List Addr) from q) (by simp), hok, .of_eq hg⟩
  have rel : Rel T ⟨H, H, []⟩ ⟨[], []⟩ [] H H [] := ⟨rfl, Ex.refl H, Ex.refl H, Ex.refl H, fun _ _ h => .inl h, rfl, List.nodup_nil, Px.refl _, fun k o p h1 _ => by simp at h1, fun i r h => by simp at h⟩
  have rep : Rep T H (.lst (ns.map .int)) (.ref a) := rep_lst.mpr ⟨a, ns.map V.int, rfl, .inr ⟨_, Ha⟩, RepL.ints⟩
  have want : spF T (fxLaw n) [.ref a] H (fun v _ => v = .bl true) (fun _ _ _ => False) :=
    ⟨_, H, [], [.val (.lst (ns.map .int))], [], fun r _ => r = .val (.bl true), fun _ _ => False, rel, ⟨_, _, rfl, rep, rfl⟩, ⟨ns, hl, rfl, rfl, rfl⟩, fun v H' F' ad' ob' r _ _ _ hr _ _ q => by
      subst q
      exact rv_bl hr, fun _ _ _ _ _ _ _ _ _ _ _ _ q => q⟩
  refine codeAny_mono ((F _ kinB (nsB hns)).run callerA [] s₁ H ⟨[.ref a], []⟩ [.ref a] [.ref a] _ _ hr rfl env (hbind s₁ (.ref a)) (.cons rfl .nil) want) fun res s' h => ?_
  match res, h with
  | .error ex, ⟨_, _, _, _, _, _, _, _, _, _, _, _, z⟩ => exact z.elim
  | .ok (.ret u), ⟨v, H', os, bare, un, hok', ru, q⟩ =>
    have q' : v = .bl true := q
    subst q'
    obtain rfl : u = Value.bool true := ru
    refine ⟨rfl, PySem.OldK.of_keep fun b o e => ?_, os, bare⟩
    by_cases hba : b = a
    · subst hba
      obtain ⟨e1, _⟩ := hok' b _ (un.frzs b _ _ Ha)
      rw [ha] at e
      cases e
      exact e1
    · exact un.keep b o e (Hn hba) (by intro z; exact absurd (show b ∈ ([] : List Addr) from z) (by simp)) (by simp)
theorem walkG {l : PySem.W.OpenLaw} {n k : Nat} {q : Program} {loose : List Str} {XP : (Str → Option Value) → Heap → Prop} {YP : World → Heap → Prop} {d : DefRec} {x : Str} (hn : l.most = some n) (hn2 : n ≤ sizeLine) (hdf : d.params.defaults = []) (hr : Room k callerA)
    (F : ∀ (w : World) (mg : Str → Option Value) (fa : Addr) (h : Heap), YP w h → h.Ns mainGlobals mg → mg d.name = some (.ref fa) →
      ∃ (K : PySem.W.Frag) (fd : FuncData) (nm : Nat → Str), K.In h ∧ NoL K ∧ (∀ (s : Shared) (u : Value), BindsTo s fd ⟨[u], []⟩ [(x, u)]) ∧ ∀ base : Heap, K.In base → base.Ns mainGlobals mg → FnG ⟨K, mg, nm⟩ l.prog w base k fa fd [x] (fxLaw n)) :
    PySem.W.WalkO q loose XP YP l.row.toRowW d [] (fun f vs => PySem.call f vs) := by
  refine Att.attach_call hn hdf fun w s₀ s₁ mg mb fa o pm cd doc a vs ns G Y ho hd hcd hmg hobj hints hlen hg => ?_
  obtain ⟨K, fd, nm, KX, nl, hb, hF⟩ := F w mg fa _ Y G.T.g hmg
  exact lawG (T := ⟨K, mg, nm⟩) KX nl G.T.g G.T.b G.T.builtins G.T.nolimit hg hobj hints hlen hn2 hr hF hb
end DL
end
section
set_option Elab.async false
set_option linter.all false
set_option autoImplicit false
set_option maxRecDepth 100000
set_option maxHeartbeats 2000000
/-! DLM: what the printed walks use: defs by name, constants by name, truth, small rules. -/
namespace DL
open PySem PySem.Spec L2
open PyProof.Rows hiding St

/-- the module's name x is a def that keeps fx, its last parameters' defaults dd -/
structure GFn (T : Cn) (P : Program) (w : World) (base : Heap) (k : Nat) (x : Str) (n : Nat) (dd : List D) (fx : FX) : Prop where
  all : ∃ (a : Addr) (fd : FuncData) (ps : List Str) (dvs : List V) (ds : List Value), T.mg x = some (.ref a) ∧ PySem.W.keepIn T.K (.ref a) = true ∧ FnG T P w base k a fd ps fx ∧ Binds T.K fd ps ds ∧ Vals dvs ds ∧ (∀ F, RepL T F dd dvs) ∧ n + dd.length = ps.length
/-- the module's name x stands for d -/
structure GC (T : Cn) (x : Str) (d : D) : Prop where
  all : ∃ u v, T.mg x = some u ∧ RelV v u ∧ ∀ F, Rep T F d v
section
variable {T : Cn} {X : Cx} {W : WX} {a : Expr} {t : EX} {pos : Pos}
theorem de_callF {k j n : Nat} {fx : FX} {dd : List D} {x : Str} {p pos : Pos} {e : Expr} {es : List Expr} {u : AX} (m : List Bool) (F : GFn T X.prog X.w X.base j x n dd fx) (hr : Room k X.A) (hgd : X.A.guards = some []) (tk : Takes X W) (ha : DA T X W (e :: es) u) (hj : j ≤ k := by decide) (hg : Gl X x := by rfl) (hK : X.K = T.K := by rfl) (hM : X.mg = T.mg := by rfl)
    (hdb : (x == ("__debug__" : Str)) = false := by decide) (he : starEach (e :: es) X.env = (false, eval e X.env) :: starEach es X.env := by rfl) (hpl : (backTo pos (starEach es X.env)).any (·.1) = false := by rfl) :
    DE T X W (.Call (.Name x p) (e :: es) [] pos) (eCall m dd fx u) := by
  obtain ⟨f, fd, ps, dvs, ds, h1, h2, h3, h4, h5, h6, _⟩ := F.all
  exact de_call m h3 (hr.mono hj) hgd tk (by rw [hM]; exact h1) (by rw [hK]; exact h2) (by rw [hK]; exact h4) h5 h6 ha hg hK hM hdb he hpl
theorem de_callF0 {k j : Nat} {fx : FX} {dd : List D} {x : Str} {p pos : Pos} (F : GFn T X.prog X.w X.base j x 0 dd fx) (hr : Room k X.A) (hgd : X.A.guards = some []) (tk : Takes X W) (hj : j ≤ k := by decide) (hg : Gl X x := by rfl) (hK : X.K = T.K := by rfl) (hM : X.mg = T.mg := by rfl)
    (hdb : (x == ("__debug__" : Str)) = false := by decide) : DE T X W (.Call (.Name x p) [] [] pos) (eCall [] dd fx aNil) := by
  obtain ⟨f, fd, ps, dvs, ds, h1, h2, h3, h4, h5, h6, _⟩ := F.all
  exact de_call0 h3 (hr.mono hj) hgd tk (by rw [hM]; exact h1) (by rw [hK]; exact h2) (by rw [hK]; exact h4) h5 h6 hg hK hM hdb
/-- a constant of the module -/
theorem de_gc {x : Str} {d : D} (G : GC T x d) (hg : Gl X x := by rfl) (hM : X.mg = T.mg := by rfl) (hdb : (x == ("__debug__" : Str)) = false := by decide) : DE T X W (.Name x pos) (eD d) := by
  obtain ⟨u, v, h1, h2, h3⟩ := G.all
  exact de_glob (by rw [hM]; exact h1) h2 h3 hg hdb
theorem de_strL {x : Str} {j : Nat} (l : List Nat) (h : x.cps.toList = l := by rfl) : DE T X W (.Constant (.str x) j pos) (eD (.str l)) := by
  subst h
  exact de_str
/-- -e -/
def eNeg (t : EX) : EX := fun e P R => t e (fun r e1 => ∃ i, dv e1 r = some (.int i) ∧ P (.val (.int (-i))) e1) R
theorem de_neg (ha : DE T X W a t) : DE T X W (.UnaryOp .USub a pos) (eNeg t) := ⟨PE.imp (pe_un un_neg ha.pe) fun σ H Q h => by
  obtain ⟨c, F, ad, e, P, R, rel, q, hq, hx⟩ := h
  refine ⟨c, F, ad, e, _, R, rel, q, fun v H1 F1 ad1 e1 r x1 p1 rel1 r1 q1 => ?_, hx⟩
  obtain ⟨i, h1, h2⟩ := q1
  obtain rfl := rep_int.mp (dv_ok rel1 r1 h1)
  exact ⟨i, rfl, (hq.mono x1 p1).val rel1 (rep_int.mpr rfl) h2⟩⟩
/-- a value's truth -/
def D.tru : D → Option Bool
  | .non => some false
  | .bl b => some b
  | .int i => some (i != 0)
  | .str s => some (!s.isEmpty)
  | .lst ds => some (!ds.isEmpty)
  | .tup ds => some (!ds.isEmpty)
  | _ => none
def D.fits : D → Prop
  | .str s => s.length ≤ sizeLine
  | _ => True
def truE (e : Env) : RV → Option Bool
  | .val d => d.tru
  | .ob k => match e.ob[k]? with
    | some (.fz d) => d.tru
    | some (.lst ds) => some (!ds.isEmpty)
    | some (.lsr ds) => some (!ds.isEmpty)
    | some (.tpr ds) => some (!ds.isEmpty)
    | _ => none
def fitE (e : Env) : RV → Prop
  | .val d => d.fits
  | .ob k => match e.ob[k]? with
    | some (.fz d) => d.fits
    | _ => True
def tTru (t : EX) : TX := fun e P R => t e (fun r e1 => ∃ b, truE e1 r = some b ∧ fitE e1 r ∧ P b e1) R
theorem isEmpty_rep {F : Hp} {ds : List D} {vs : List V} (h : RepL T F ds vs) : vs.isEmpty = ds.isEmpty := by
  cases ds with
  | nil => rw [repL_nil.mp h]; rfl
  | cons d ds => obtain ⟨v, r, rfl, _⟩ := repL_cons.mp h; rfl
theorem isEmpty_rv {F : Hp} {ad : List Addr} {ds : List RV} {vs : List V} (h : RvL T F ad ds vs) : vs.isEmpty = ds.isEmpty := by
  cases ds with
  | nil => rw [show vs = [] from h]; rfl
  | cons d ds => obtain ⟨v, r, rfl, _⟩ := h; rfl
theorem tru_rep {F H : Hp} {d : D} {v : V} {b : Bool} (x : Ex F H) (h : Rep T F d v) (q : d.tru = some b) (z : d.fits) : TruV T.K v H b := by
  cases d with
  | non =>
    cases q
    rw [rep_non.mp h]
    rfl
  | bl k =>
    cases q
    rw [rep_bl.mp h]
    rfl
  | int k =>
    cases q
    rw [rep_int.mp h]
    rfl
  | str s =>
    cases q
    rw [rep_str.mp h]
    have z' : s.length ≤ sizeLine := z
    refine ⟨by rw [S_len]; exact z', ?_⟩
    rw [S_len]
    cases s with
    | nil => rfl
    | cons c s =>
      show true = (((c :: s).length : Int) != 0)
      symm
      simp
      omega
  | lst ds =>
    cases q
    obtain ⟨a, vs, rfl, h1, h2⟩ := rep_lst.mp h
    exact .inl ⟨vs, rd_sql (x.rd h1), by rw [isEmpty_rep h2]⟩
  | tup ds =>
    cases q
    obtain ⟨a, vs, rfl, h1, h2⟩ := rep_tup.mp h
    exact .inr (.inl ⟨vs, x.sqt h1, by rw [isEmpty_rep h2]⟩)
  | _ => cases q
theorem tru_ok' {c : BF} {e : Env} {σ : L2.St} {F H : Hp} {ad : List Addr} {r : RV} {v : V} {b : Bool} (R : Rel T c e σ F H ad) (h : RvR T F ad r v) (q : truE e r = some b) (z : fitE e r) : TruV T.K v H b := by
  cases r with
  | val d => exact tru_rep R.fh h q z
  | ob k =>
    obtain ⟨p, hp, rfl⟩ := h
    obtain ⟨o, ho, oa⟩ := R.obs hp
    unfold truE at q
    unfold fitE at z
    dsimp only at q z
    rw [ho] at q z
    cases o with
    | fz d => exact tru_rep R.fh oa.2 q z
    | lst ds =>
      cases q
      obtain ⟨_, _, vs, h1, h2⟩ := oa
      exact .inl ⟨vs, .inl (.inl h1), by rw [isEmpty_rep h2]⟩
    | lsr ds =>
      cases q
      obtain ⟨_, _, vs, h1, h2⟩ := oa
      exact .inl ⟨vs, .inl (.inl h1), by rw [isEmpty_rv h2]⟩
    | tpr ds =>
      cases q
      obtain ⟨_, _, vs, h1, h2⟩ := oa
      exact .inr (.inl ⟨vs, .inl (.inl h1), by rw [isEmpty_rv h2]⟩)
    | _ => cases q
theorem dt_tru (ha : DE T X W a t) (hK : X.K = T.K := by rfl) (he : ∀ whole, isTrue a X.env whole = (do let v ← whole; standAt a.pos; holding [v] (truthy v)) := by intro _; rfl) : DT T X W a (tTru t) :=
  ⟨PT.imp (pt_truth ha.pe he) fun σ H Q h => by
    obtain ⟨c, F, ad, e, P, R, rel, q, hq, hx⟩ := h
    refine ⟨c, F, ad, e, _, R, rel, q, fun v H1 F1 ad1 e1 r x1 p1 rel1 r1 q1 => ?_, hx⟩
    obtain ⟨b, h1, h2, h3⟩ := q1
    exact ⟨b, by rw [hK]; exact tru_ok' rel1 r1 h1 h2, hq b H1 F1 ad1 e1 x1 p1 rel1 h3⟩⟩
end
/-! ### o[i] = v, o a list of data -/
def sSetIx (to ti tv : EX) : SX := fun e Po => tv e (fun v e1 => to e1 (fun o e2 => ti e2 (fun i e3 => ∃ k ds n j d, o = .ob k ∧ e3.ob[k]? = some (.lst ds) ∧ dv e3 i = some (.int n) ∧ ixN ds.length n = some j ∧ dv e3 v = some d ∧
  Po.nx { e3 with ob := e3.ob.set k (.lst (ds.set j d)) }) Po.xc) Po.xc) Po.xc
theorem ds_setIx {T : Cn} {X : Cx} {W : WX} {o i v : Expr} {to ti tv : EX} {pos pos' : Pos} (ho : DE T X W o to) (hi : DE T X W i ti) (hv : DE T X W v tv)
    (ha : ∀ v, assign (.Subscript o i pos') X.env v = (do
      let ov ← holding [v] (eval o X.env)
      let iv ← holding [v, ov] (eval i X.env)
      standAt pos'
      holding [v, ov, iv] (setItem ov iv v); release [v, ov, iv] []) := by intro _; rfl)
    (hs : swapsWithSole [.Subscript o i pos'] v pos.line X.env = pure false := by rfl) (hw : swappedStores [.Subscript o i pos'] v X.env = pure none := by rfl) (h1 : (assignEach [.Subscript o i pos'] X.env).map (·.2) = [assign (.Subscript o i pos') X.env] := by rfl) :
    DS T X W (.Assign [.Subscript o i pos'] v pos) (sSetIx to ti tv) := ⟨PS.imp (ps_asg hv.pe (pg_sub ho.pe hi.pe set_list ha) hs hw h1) fun D σ H h => by
  obtain ⟨c, F, ad, e, Po, rel, q, n, r, x, bk, ct⟩ := h
  refine ⟨c, F, ad, e, _, _, rel, q, fun y H1 F1 ad1 e1 ry x1 p1 rel1 r1 q1 => ?_, x⟩
  refine ⟨c, F1, ad1, e1, _, _, rel1, q1, fun z H2 F2 ad2 e2 rz x2 p2 rel2 r2 q2 => ?_, x.mono x1 p1⟩
  refine ⟨c, F2, ad2, e2, _, _, rel2, q2, fun w H3 F3 ad3 e3 rw x3 p3 rel3 r3 q3 => ?_, x.mono (x1.trans x2) (p1.trans p2)⟩
  obtain ⟨k, ds, m, j, d, rfl, hk, hm, hj, hd, q4⟩ := q3
  obtain ⟨p, hp, rfl⟩ := r2
  have hp3 := p3 _ _ hp
  obtain ⟨n1, n2, vs, g1, g2⟩ := rel3.ob k _ p hk hp3
  have hy := dv_ok rel3 (r1.mono (x2.trans x3) (p2.trans p3)) hd
  obtain rfl := rep_int.mp (dv_ok rel3 r3 hm)
  refine ⟨p, vs, m, j, rfl, rfl, g1, by rw [g2.len]; exact hj, ?_⟩
  have R2 := rel3.set (u := .lst (vs.set j y)) (o' := .lst (ds.set j d)) hk rfl hp3 ⟨n1, n2, _, upd_same, g2.set j hy⟩
  exact n σ _ F3 ad3 _ ((x1.trans x2).trans x3) ((p1.trans p2).trans p3) R2 q4⟩
/-! ### making them from the head's facts -/
section
variable {T : Cn} {P : Program} {w : World} {base : Heap}
/-- no defaults -/
theorem GFn.of {k : Nat} {x : Str} {name qual : Str} {params : Arguments} {body : List Stmt} {scope : Scope} {a : Addr} {fd : FuncData} {ps : List Str} {fx : FX} (F : FunD T.K name qual params body scope [] [] a fd) (hm : T.mg x = some (.ref a)) (G : FnG T P w base k a fd ps fx)
    (h : ∀ (kV doc pm : Value) (an : Option Addr) (cdv ct : Value) (us : List Value), us.length = ps.length → bindArgs (PySem.W.fnOf name qual params body scope .none kV doc pm an cdv ct) ⟨us, []⟩ = pure (ps.zip us)) : GFn T P w base k x ps.length [] fx :=
  ⟨a, fd, ps, [], [], hm, F.kp, G, F.bindsN h, .nil, fun _ => RepL.nil, by simp⟩
theorem GC.int {x : Str} {i : Int} {h : Heap} (X : T.K.In h) (G : h.Ns mainGlobals T.mg) (c : fFa (.int x i) T.K = true) : GC T x (.int i) := by
  obtain ⟨t, e⟩ := He.int_ok X G c
  exact ⟨_, .int i, e, ⟨t, rfl⟩, fun F => rep_int.mpr rfl⟩
theorem GC.str {x z : Str} {l : List Nat} {h : Heap} (X : T.K.In h) (G : h.Ns mainGlobals T.mg) (c : fFa (.str x z) T.K = true) (e : z.cps.toList = l := by rfl) : GC T x (.str l) := by
  obtain ⟨t, e2⟩ := He.str_ok X G c
  subst e
  exact ⟨_, .str z, e2, ⟨t, rfl⟩, fun F => rep_str.mpr (by rw [S_of])⟩
def fTup (x : Str) (vs : List He.Dv) : Fk := fun K => He.tupB K x vs
/-- a tuple of plain constants -/
theorem GC.tup {x : Str} {vs : List He.Dv} {ds : List D} {h : Heap} (X : T.K.In h) (G : h.Ns mainGlobals T.mg) (c0 : fGlo x T.K = true) (c : fTup x vs T.K = true) (hv : ∀ F, RepL T F ds (vs.map (He.Dv.v T.K))) : GC T x (.tup ds) :=
  ⟨_, .ref (He.ga T.K x), He.glo_ok X G c0, rfl, fun F => rep_tup.mpr ⟨_, _, rfl, He.tupB_ok c F, hv F⟩⟩
/-- an exception class -/
theorem ExcK.of {c : Nat} {fl : List Nat} {x : Str} {h : Heap} {name qual : Str} {params : Arguments} {body : List Stmt} {scope : Scope} {fd : FuncData} {ps : List Str} (X : T.K.In h) (G : h.Ns mainGlobals T.mg) (hx : T.nm c = x) (c0 : fGlo x T.K = true) (c1 : fOex x T.K = true)
    (F : FunD T.K name qual params body scope [] [] (He.ma T.K (He.ga T.K x) "__init__") fd) (O : FnOk P w T.K T.mg base (L2.CX P w) 1 (He.ma T.K (He.ga T.K x) "__init__") fd ps (spI (He.ga T.K x) (fl.map T.nm))) (nd : (fl.map T.nm).Nodup)
    (hb : ∀ (kV doc pm : Value) (an : Option Addr) (cdv ct : Value) (us : List Value), us.length = ps.length → bindArgs (PySem.W.fnOf name qual params body scope .none kV doc pm an cdv ct) ⟨us, []⟩ = pure (ps.zip us)) : ExcK T P w base c fl := by
  obtain ⟨h1, h2, h3⟩ := fOex_ok c1
  exact ⟨_, _, fd, ps, by rw [hx]; exact He.glo_ok X G c0, h1, h2, h3, O, F.bindsN hb, nd⟩
end
end DL
end
section
set_option Elab.async false
set_option linter.all false
set_option autoImplicit false
set_option maxRecDepth 100000
set_option maxHeartbeats 2000000
/-! DLN: steps: from what is wanted of a piece to what is wanted of its parts. -/
namespace DL
open PySem PySem.Spec L2
open PyProof.Rows hiding St

section
variable {e : Env} {P : RV → Env → Prop} {R : Xc → Env → Prop} {PB : Bool → Env → Prop} {PA : List RV → Env → Prop} {Po : Post} {t u w : EX} {c d : TX} {s z : SX} {a : AX} {g : GX} {f f' : OX} {i j k : Nat} {r x y : RV}
theorem i_var (h : e.sl[i]? = some (some r)) (q : P r e) : eVar i e P R := ⟨r, h, q⟩
theorem i_d {v : D} (q : P (.val v) e) : eD v e P R := q
theorem i_op2 (h : t e (fun x e1 => u e1 (fun y e2 => f e2 x y P) R) R) : op2 f t u e P R := h
theorem i_val (h : t e (fun r e1 => ∃ b, r = .val (.bl b) ∧ PB b e1) R) : tVal t e PB R := h
theorem i_isb {b : Bool} {Z : Bool → Prop} (h : Z b) : ∃ b', (RV.val (.bl b) : RV) = .val (.bl b') ∧ Z b' := ⟨b, rfl, h⟩
theorem i_tru {b : Bool} {Z : Bool → Prop} (h : truE e r = some b) (z : fitE e r) (q : Z b) : ∃ b', truE e r = some b' ∧ fitE e r ∧ Z b' := ⟨b, h, z, q⟩
theorem i_tTru (h : t e (fun r e1 => ∃ b, truE e1 r = some b ∧ fitE e1 r ∧ PB b e1) R) : tTru t e PB R := h
theorem i_and (h : c e (fun b e1 => if b = true then d e1 PB R else PB false e1) R) : tAndX c d e PB R := h
theorem i_or (h : c e (fun b e1 => if b = true then PB true e1 else d e1 PB R) R) : tOrX c d e PB R := h
theorem i_not (h : c e (fun b e1 => PB (!b) e1) R) : tNotX c e PB R := h
theorem i_yes (h : PB true e) : tYesX e PB R := h
theorem i_eand (h : t e (fun r e1 => ∃ k, r = .val (.bl k) ∧ if k = true then u e1 P R else P (.val (.bl false)) e1) R) : eAnd t u e P R := h
theorem i_eor (h : t e (fun r e1 => ∃ k, r = .val (.bl k) ∧ if k = true then P (.val (.bl true)) e1 else u e1 P R) R) : eOr t u e P R := h
theorem i_enot (h : t e (fun r e1 => ∃ k, r = .val (.bl k) ∧ P (.val (.bl (!k))) e1) R) : eNot t e P R := h
theorem i_eif (h : c e (fun b e1 => if b = true then t e1 P R else u e1 P R) R) : eIf c t u e P R := h
theorem i_neg (h : t e (fun r e1 => ∃ i, dv e1 r = some (.int i) ∧ P (.val (.int (-i))) e1) R) : eNeg t e P R := h
theorem i_neg1 {i : Int} {Z : Int → Prop} (h : dv e r = some (.int i)) (q : Z i) : ∃ i', dv e r = some (.int i') ∧ Z i' := ⟨i, h, q⟩
theorem i_chain (h : t e (fun x e1 => u e1 (fun y e2 => f e2 x y fun z e3 => ∃ k, z = .val (.bl k) ∧ if k = true then w e3 (fun w e4 => f' e4 y w P) R else P (.val (.bl false)) e3) R) R) : eChain f f' t u w e P R := h
theorem i_if1 {A B : Prop} (h : A) : if true = true then A else B := by simpa using h
theorem i_if0 {A B : Prop} (h : B) : if false = true then A else B := by simpa using h
/-! arguments -/
theorem i_nil (h : PA [] e) : aNil e PA R := h
theorem i_cons (h : t e (fun r e1 => a e1 (fun rs e2 => PA (r :: rs) e2) R) R) : aCons t a e PA R := h
theorem i_eB {b : BX} (h : a e (fun rs e1 => b e1 rs P) R) : eB b a e P R := h
theorem i_eM {ty : Env → RV → Prop} {m : MX} (h : t e (fun r e1 => ty e1 r ∧ a e1 (fun rs e2 => m e2 r rs P) R) R) : eM ty m t a e P R := h
theorem i_eLst (h : a e (fun rs e1 => rs.length ≤ sizeLine ∧ P (.ob e1.ob.length) { e1 with ob := e1.ob ++ [match allD e1 rs with | some ds => .lst ds | none => .lsr rs] }) R) : eLst a e P R := h
theorem i_lstD {rs : List RV} {ds : List D} {Z : OD → Prop} (hl : rs.length ≤ sizeLine) (hd : allD e rs = some ds) (h : Z (.lst ds)) : rs.length ≤ sizeLine ∧ Z (match allD e rs with | some ds => .lst ds | none => .lsr rs) := ⟨hl, by rw [hd]; exact h⟩
theorem i_call {m : List Bool} {dd : List D} {fx : FX} (h : a e (fun rs e1 => cal m dd fx rs e1 P R) R) : eCall m dd fx a e P R := h
/-! statements -/
theorem i_seq (h : s e { Po with nx := fun e1 => z e1 Po }) : sSeq s z e Po := h
theorem i_next (h : Po.nx e) : sNext e Po := h
theorem i_brk (h : Po.bk e) : sBreak e Po := h
theorem i_cont (h : Po.ct e) : sCont e Po := h
theorem i_drop (h : t e (fun _ e1 => Po.nx e1) Po.xc) : sDrop t e Po := h
theorem i_ret (h : t e (fun r e1 => Po.rt r e1) Po.xc) : sRet t e Po := h
theorem i_retN (h : Po.rt (.val .non) e) : sRetN e Po := h
theorem i_sIf (h : c e (fun b e1 => if b = true then s e1 Po else z e1 Po) Po.xc) : sIf c s z e Po := h
theorem i_asg (h : t e (fun r e1 => g r e1 Po.nx) Po.xc) : sAsg t g e Po := h
theorem i_gNm {Z : Env → Prop} (h : Z { e with sl := e.sl.set i (some r) }) : gNm i r e Z := h
theorem i_gTp {Z : Env → Prop} {n : Nat} {gs : GXs} {rs : List RV} (h1 : tpI e r = some rs) (h2 : rs.length = n) (h : gs rs e Z) : gTp n gs r e Z := ⟨rs, h1, h2, h⟩
theorem i_gsNil {Z : Env → Prop} (h : Z e) : gsNil [] e Z := ⟨rfl, h⟩
theorem i_gsCons {Z : Env → Prop} {gs : GXs} {rs : List RV} (h : g r e fun e1 => gs rs e1 Z) : gsCons g gs (r :: rs) e Z := ⟨r, rs, rfl, h⟩
theorem i_aug (h : e.sl[i]? = some (some r)) (q : t e (fun y e1 => f e1 r y fun z e2 => Po.nx { e2 with sl := e2.sl.set i (some z) }) Po.xc) : sAug i t f e Po := ⟨r, h, q⟩
theorem i_par (h : a e (fun rs e1 => ∃ x y, rs = [x, y] ∧ Po.nx { e1 with sl := (e1.sl.set i (some x)).set j (some y) }) Po.xc) : sPar i j a e Po := h
theorem i_par2 {Z : RV → RV → Prop} (h : Z x y) : ∃ x' y', ([x, y] : List RV) = [x', y'] ∧ Z x' y' := ⟨x, y, rfl, h⟩
theorem i_par3 (h : a e (fun rs e1 => ∃ x y v, rs = [x, y, v] ∧ Po.nx { e1 with sl := ((e1.sl.set i (some x)).set j (some y)).set k (some v) }) Po.xc) : sPar3 i j k a e Po := h
theorem i_par33 {Z : RV → RV → RV → Prop} (h : Z x y r) : ∃ x' y' r', ([x, y, r] : List RV) = [x', y', r'] ∧ Z x' y' r' := ⟨x, y, r, rfl, h⟩
theorem i_for {ti : IX} (h : ti e (fun all G e1 => forX g s G Po all e1) Po.xc) : sFor ti g s e Po := h
theorem i_setIx (h : w e (fun v e1 => t e1 (fun o e2 => u e2 (fun i e3 => ∃ k ds n j d, o = .ob k ∧ e3.ob[k]? = some (.lst ds) ∧ dv e3 i = some (.int n) ∧ ixN ds.length n = some j ∧ dv e3 v = some d ∧
  Po.nx { e3 with ob := e3.ob.set k (.lst (ds.set j d)) }) Po.xc) Po.xc) Po.xc) : sSetIx t u w e Po := h
theorem i_setIx1 {ds : List D} {n : Int} {v : D} (hk : e.ob[k]? = some (.lst ds)) (hn : dv e x = some (.int n)) (hj : ixN ds.length n = some j) (hv : dv e y = some v) {Z : Nat → List D → Nat → D → Prop} (h : Z k ds j v) :
    ∃ k' ds' n' j' d', (RV.ob k : RV) = .ob k' ∧ e.ob[k']? = some (.lst ds') ∧ dv e x = some (.int n') ∧ ixN ds'.length n' = some j' ∧ dv e y = some d' ∧ Z k' ds' j' d' := ⟨k, ds, n, j, v, rfl, hk, hn, hj, hv, h⟩
theorem i_raise {cn : Nat} {fl : List Nat} (h : a e (fun rs e1 => rs.length ≤ 900 ∧ ∃ ds ob', frz (allFrz rs) e1.ob rs = some (ds.map .val, ob') ∧ ds.length = fl.length ∧ Po.xc ⟨cn, fl.zip ds⟩ ⟨e1.sl, ob'⟩) Po.xc) : sRaise cn fl a e Po := h
/-! walks -/
theorem i_iSeq {Q : List RV → (Env → Prop) → Env → Prop} (h : t e (fun r e1 => ∃ all G, seqI e1 r = some (all, G) ∧ Q all G e1) R) : iSeq t e Q R := h
theorem i_seqI {Z : List RV → (Env → Prop) → Prop} {all : List RV} {G : Env → Prop} (h : seqI e r = some (all, G)) (q : Z all G) : ∃ all' G', seqI e r = some (all', G') ∧ Z all' G' := ⟨all, G, h, q⟩
theorem i_iR1 {Q : List RV → (Env → Prop) → Env → Prop} (h : a e (fun rs e1 => ∃ j : Int, rs = [.val (.int j)] ∧ -(2 ^ 62) ≤ j ∧ j < 2 ^ 62 ∧ Q ((List.range j.toNat).map fun i : Nat => .val (.int i)) (fun _ => True) e1) R) : iR1 a e Q R := h
theorem i_rng1 {Z : Int → Prop} {n : Int} (h1 : -(2 ^ 62) ≤ n) (h2 : n < 2 ^ 62) (h : Z n) : ∃ j : Int, ([.val (.int n)] : List RV) = [.val (.int j)] ∧ -(2 ^ 62) ≤ j ∧ j < 2 ^ 62 ∧ Z j := ⟨n, rfl, h1, h2, h⟩
theorem i_iEn {Q : List RV → (Env → Prop) → Env → Prop} (h : a e (fun rs e1 => ∃ r, rs = [r] ∧ ((∃ ds, lsD e1 r = some ds ∧ Q (numd ds) (fun e' => lsD e' r = some ds) e1) ∨ (∃ z, dv e1 r = some (.str z) ∧ Q (numd (z.map fun c => .str [c])) (fun _ => True) e1))) R) : iEn a e Q R := h
theorem i_enS {A : RV → List D → Prop} {B : RV → List Nat → Prop} {z : List Nat} (h1 : dv e r = some (.str z)) (h : B r z) :
    ∃ r', ([r] : List RV) = [r'] ∧ ((∃ ds, lsD e r' = some ds ∧ A r' ds) ∨ (∃ z, dv e r' = some (.str z) ∧ B r' z)) := ⟨r, rfl, .inr ⟨z, h1, h⟩⟩
theorem i_enL {A : RV → List D → Prop} {B : RV → List Nat → Prop} {z : List D} (h1 : lsD e r = some z) (h : A r z) :
    ∃ r', ([r] : List RV) = [r'] ∧ ((∃ ds, lsD e r' = some ds ∧ A r' ds) ∨ (∃ z, dv e r' = some (.str z) ∧ B r' z)) := ⟨r, rfl, .inl ⟨z, h1, h⟩⟩
/-! operations -/
theorem i_ix2 {C : Int → Int → Prop} {h : Int → Int → D} {m n : Int} (hx : dv e x = some (.int m)) (hy : dv e y = some (.int n)) (hc : C m n) {Z : RV → Env → Prop} (q : Z (.val (h m n)) e) : ix2 C h e x y Z := ⟨m, n, hx, hy, hc, q⟩
theorem i_sub {m n : Int} {Z : RV → Env → Prop} (hx : dv e x = some (.int m)) (hy : dv e y = some (.int n)) (q : Z (.val (.int (m - n))) e) : subX e x y Z := ⟨m, n, hx, hy, trivial, q⟩
theorem i_lt {m n : Int} {Z : RV → Env → Prop} (hx : dv e x = some (.int m)) (hy : dv e y = some (.int n)) (q : Z (.val (.bl (decide (m < n)))) e) : iltX e x y Z := ⟨m, n, hx, hy, trivial, q⟩
theorem i_le {m n : Int} {Z : RV → Env → Prop} (hx : dv e x = some (.int m)) (hy : dv e y = some (.int n)) (q : Z (.val (.bl (decide (m ≤ n)))) e) : ileX e x y Z := ⟨m, n, hx, hy, trivial, q⟩
theorem i_gt {m n : Int} {Z : RV → Env → Prop} (hx : dv e x = some (.int m)) (hy : dv e y = some (.int n)) (q : Z (.val (.bl (decide (n < m)))) e) : igtX e x y Z := ⟨m, n, hx, hy, trivial, q⟩
theorem i_ge {m n : Int} {Z : RV → Env → Prop} (hx : dv e x = some (.int m)) (hy : dv e y = some (.int n)) (q : Z (.val (.bl (decide (n ≤ m)))) e) : igeX e x y Z := ⟨m, n, hx, hy, trivial, q⟩
theorem i_mod {m n : Int} {Z : RV → Env → Prop} (hx : dv e x = some (.int m)) (hy : dv e y = some (.int n)) (hc : 0 < n) (q : Z (.val (.int (m % n))) e) : modX e x y Z := ⟨m, n, hx, hy, hc, q⟩
theorem i_fdiv {m n : Int} {Z : RV → Env → Prop} (hx : dv e x = some (.int m)) (hy : dv e y = some (.int n)) (h0 : 0 < n) (h1 : n < 1073741824) (q : Z (.val (.int (m / n))) e) : fdivX e x y Z := ⟨m, n, hx, hy, ⟨h0, h1⟩, q⟩
theorem i_pow {m n : Int} {Z : RV → Env → Prop} (hx : dv e x = some (.int m)) (hy : dv e y = some (.int n)) (hc : CPow m n) (q : Z (.val (.int (m ^ n.toNat))) e) : powX e x y Z := ⟨m, n, hx, hy, hc, q⟩
theorem i_imul {m n : Int} {Z : RV → Env → Prop} (hx : dv e x = some (.int m)) (hy : dv e y = some (.int n)) (hc : CMul m n) (q : Z (.val (.int (m * n))) e) : imulX e x y Z := ⟨m, n, hx, hy, hc, q⟩
theorem i_addI {m n : Int} {Z : RV → Env → Prop} (hx : dv e x = some (.int m)) (hy : dv e y = some (.int n)) (q : Z (.val (.int (m + n))) e) : addX e x y Z := .inl ⟨m, n, hx, hy, q⟩
theorem i_augI {h : Int → Int → D} {m n : Int} {Z : RV → Env → Prop} (hx : dv e x = some (.int m)) (hy : dv e y = some (.int n)) (q : Z (.val (h m n)) e) : ix2 (fun _ _ => True) h e x y Z := ⟨m, n, hx, hy, trivial, q⟩
end
end DL
end
section
set_option Elab.async false
set_option linter.all false
set_option autoImplicit false
set_option maxRecDepth 100000
set_option maxHeartbeats 2000000
/-! DLO: more steps: texts, lists, calls, ends, comprehensions. -/
namespace DL
open PySem PySem.Spec L2
open PyProof.Rows hiding St

section
variable {e : Env} {P : RV → Env → Prop} {R : Xc → Env → Prop} {Z : RV → Env → Prop} {r x y : RV} {i k : Nat}
@[simp] theorem dv_val' (e : Env) (d : D) : dv e (.val d) = some d := rfl
theorem i_addS {m n : List Nat} (hx : dv e x = some (.str m)) (hy : dv e y = some (.str n)) (hz : m.length + n.length ≤ sizeLine) (q : Z (.val (.str (m ++ n))) e) : addX e x y Z := .inr (.inl ⟨m, n, hx, hy, hz, q⟩)
theorem i_addL {m n : List D} (hx : lsD e x = some m) (hy : lsD e y = some n) (hz : m.length + n.length ≤ sizeLine) (q : Z (.ob e.ob.length) { e with ob := e.ob ++ [.lst (m ++ n)] }) : addX e x y Z := .inr (.inr (.inl ⟨m, n, hx, hy, hz, q⟩))
theorem i_ixL {ds : List D} {n : Int} {d : D} (hx : sqD e x = some ds) (hy : dv e y = some (.int n)) (hd : atI ds n = some d) (q : Z (.val d) e) : ixX e x y Z := .inl ⟨ds, n, d, hx, hy, hd, q⟩
theorem i_ixS {s : List Nat} {n : Int} {c : Nat} (hx : dv e x = some (.str s)) (hy : dv e y = some (.int n)) (hz : s.length ≤ sizeLine) (hd : atI s n = some c) (q : Z (.val (.str [c])) e) : ixX e x y Z := .inr ⟨s, n, c, hx, hy, hz, hd, q⟩
theorem i_eq {a b : D} (hx : rd e x = some a) (hy : rd e y = some b) (la : Lay 60 a) (lb : Lay 60 b) (q : Z (.val (.bl (eqv a b))) e) : eqX false e x y Z := .inl ⟨a, b, hx, hy, la, lb, q⟩
theorem i_ne {a b : D} (hx : rd e x = some a) (hy : rd e y = some b) (la : Lay 60 a) (lb : Lay 60 b) (q : Z (.val (.bl (!eqv a b))) e) : eqX true e x y Z := .inl ⟨a, b, hx, hy, la, lb, q⟩
theorem i_eqS {a b : List Nat} (hx : dv e x = some (.str a)) (hy : dv e y = some (.str b)) (q : Z (.val (.bl (decide (a = b)))) e) : eqX false e x y Z := .inr ⟨a, b, hx, hy, q⟩
theorem i_neS {a b : List Nat} (hx : dv e x = some (.str a)) (hy : dv e y = some (.str b)) (q : Z (.val (.bl (!decide (a = b)))) e) : eqX true e x y Z := .inr ⟨a, b, hx, hy, q⟩
theorem i_inC {c : Nat} {z : List Nat} (hx : dv e x = some (.str [c])) (hy : dv e y = some (.str z)) (q : Z (.val (.bl (decide (c ∈ z)))) e) : inX false e x y Z := .inl ⟨c, z, hx, hy, q⟩
theorem i_ninC {c : Nat} {z : List Nat} (hx : dv e x = some (.str [c])) (hy : dv e y = some (.str z)) (q : Z (.val (.bl (!decide (c ∈ z)))) e) : inX true e x y Z := .inl ⟨c, z, hx, hy, q⟩
theorem i_inL {a d : D} {js : List D} (hx : rd e x = some a) (hy : rd e y = some d) (hi : items d = some js) (la : Lay 59 a) (lb : ∀ j ∈ js, Lay 59 j) (q : Z (.val (.bl (js.any fun z => eqv z a))) e) : inX false e x y Z := .inr ⟨a, d, js, hx, hy, hi, la, lb, q⟩
theorem i_ninL {a d : D} {js : List D} (hx : rd e x = some a) (hy : rd e y = some d) (hi : items d = some js) (la : Lay 59 a) (lb : ∀ j ∈ js, Lay 59 j) (q : Z (.val (.bl (!js.any fun z => eqv z a))) e) : inX true e x y Z := .inr ⟨a, d, js, hx, hy, hi, la, lb, q⟩
theorem i_isN {t : EX} (h : t e (fun r e1 => ∃ d, dv e1 r = some d ∧ P (.val (.bl d.isN)) e1) R) : isNX false t e P R := h
theorem i_notN {t : EX} (h : t e (fun r e1 => ∃ d, dv e1 r = some d ∧ P (.val (.bl (!d.isN))) e1) R) : isNX true t e P R := h
theorem i_isi {t : EX} {n : String} (h : t e (fun r e1 => ∃ m b, tyOf e1 r = some m ∧ kitB m n = some b ∧ P (.val (.bl b)) e1) R) : isiX n t e P R := h
/-! equality of texts and numbers -/
theorem beq_S (a b : List Nat) : (S a == S b) = decide (a = b) := by
  rw [Bool.eq_iff_iff]
  simp only [beq_iff_eq, decide_eq_true_eq]
  exact ⟨S_inj, fun h => by rw [h]⟩
@[simp] theorem eqv_ss (a b : List Nat) : eqv (.str a) (.str b) = decide (a = b) := by
  unfold eqv
  rw [D.py, D.py, PyData.eqv, beq_S]
@[simp] theorem eqv_ii (a b : Int) : eqv (.int a) (.int b) = decide (a = b) := by
  unfold eqv
  rw [D.py, D.py, PyData.eqv]
  rw [Bool.eq_iff_iff]
  simp
theorem pyL_nil : pyL [] = [] := by rw [pyL]
theorem pyL_cons (d : D) (ds : List D) : pyL (d :: ds) = d.py :: pyL ds := by rw [pyL]
@[simp] theorem eqv_nl (ds : List D) : eqv (.lst ds) (.lst []) = ds.isEmpty := by
  unfold eqv
  rw [D.py, D.py, PyData.eqv, pyL_nil]
  cases ds with
  | nil => rw [pyL_nil, PyData.eqvAll]; rfl
  | cons d ds => rw [pyL_cons, PyData.eqvAll]; rfl
theorem eqvAll_strs : ∀ (a b : List (List Nat)), PyData.eqvAll (pyL (a.map D.str)) (pyL (b.map D.str)) = decide (a = b)
  | [], [] => by rw [List.map_nil, pyL_nil, PyData.eqvAll]; rfl
  | [], s :: b => by rw [List.map_nil, List.map_cons, pyL_nil, pyL_cons, PyData.eqvAll]; rfl
  | s :: a, [] => by rw [List.map_nil, List.map_cons, pyL_nil, pyL_cons, PyData.eqvAll]; rfl
  | s :: a, z :: b => by
    rw [List.map_cons, List.map_cons, pyL_cons, pyL_cons, PyData.eqvAll, eqvAll_strs a b, D.py, D.py, PyData.eqv, beq_S]
    rw [Bool.eq_iff_iff]
    simp
@[simp] theorem eqv_strs (a b : List (List Nat)) : eqv (.lst (a.map .str)) (.lst (b.map .str)) = decide (a = b) := by
  unfold eqv
  rw [D.py, D.py, PyData.eqv, eqvAll_strs]
/-- signs that are ones -/
def Cps (s : List Nat) : Prop := ∀ c ∈ s, c < 1114112
theorem lay_str {n : Nat} {s : List Nat} (h : Cps s) : Lay n (.str s) := by
  cases n <;> (unfold Lay; exact h)
theorem lay_int {n : Nat} (i : Int) : Lay n (.int i) := by
  cases n <;> (unfold Lay; trivial)
theorem lay_bl {n : Nat} (i : Bool) : Lay n (.bl i) := by
  cases n <;> (unfold Lay; trivial)
theorem lay_non {n : Nat} : Lay n .non := by
  cases n <;> (unfold Lay; trivial)
theorem lay_strs {n : Nat} {ss : List (List Nat)} (h : ∀ s ∈ ss, Cps s) : Lay (n + 1) (.lst (ss.map .str)) := by
  refine lay_lst fun j hj => ?_
  obtain ⟨s, hs, rfl⟩ := List.mem_map.mp hj
  exact lay_str (h s hs)
theorem cps_small {s : List Nat} (h : s.all (· < 1114112) = true) : Cps s := fun c hc => by
  have := List.all_eq_true.mp h c hc
  simpa using this
theorem cps_app {a b : List Nat} (ha : Cps a) (hb : Cps b) : Cps (a ++ b) := fun c hc => (List.mem_append.mp hc).elim (ha c) (hb c)
/-! a text among texts -/
theorem any_strs (l : List (List Nat)) (s : List Nat) : ((l.map D.str).any fun z => eqv z (.str s)) = decide (s ∈ l) := by
  induction l with
  | nil => rfl
  | cons a l ih =>
    rw [List.map_cons, List.any_cons, ih, eqv_ss]
    by_cases h : s = a
    · subst h
      simp
    · have h' : ¬ a = s := fun e => h e.symm
      simp [h, h']
theorem lay_map {n : Nat} {l : List (List Nat)} (h : ∀ s ∈ l, Cps s) : ∀ j ∈ l.map D.str, Lay n j := fun j hj => by
  obtain ⟨s, hs, rfl⟩ := List.mem_map.mp hj
  exact lay_str (h s hs)
theorem cps_all {l : List (List Nat)} (h : l.all (fun s => s.all (· < 1114112)) = true) : ∀ s ∈ l, Cps s := fun s hs => cps_small (List.all_eq_true.mp h s hs)
theorem i_inT {s : List Nat} (l : List (List Nat)) (hx : rd e x = some (.str s)) (hy : rd e y = some (.tup (l.map .str))) (hs : Cps s) (hl : ∀ z ∈ l, Cps z) (q : Z (.val (.bl (decide (s ∈ l)))) e) : inX false e x y Z :=
  i_inL hx hy rfl (lay_str hs) (lay_map hl) (by rw [any_strs]; exact q)
theorem i_ninT {s : List Nat} (l : List (List Nat)) (hx : rd e x = some (.str s)) (hy : rd e y = some (.tup (l.map .str))) (hs : Cps s) (hl : ∀ z ∈ l, Cps z) (q : Z (.val (.bl (!decide (s ∈ l)))) e) : inX true e x y Z :=
  i_ninL hx hy rfl (lay_str hs) (lay_map hl) (by rw [any_strs]; exact q)
theorem i_inLs {s : List Nat} (l : List (List Nat)) (hx : rd e x = some (.str s)) (hy : rd e y = some (.lst (l.map .str))) (hs : Cps s) (hl : ∀ z ∈ l, Cps z) (q : Z (.val (.bl (decide (s ∈ l)))) e) : inX false e x y Z :=
  i_inL hx hy rfl (lay_str hs) (lay_map hl) (by rw [any_strs]; exact q)
theorem i_ninLs {s : List Nat} (l : List (List Nat)) (hx : rd e x = some (.str s)) (hy : rd e y = some (.lst (l.map .str))) (hs : Cps s) (hl : ∀ z ∈ l, Cps z) (q : Z (.val (.bl (!decide (s ∈ l)))) e) : inX true e x y Z :=
  i_ninL hx hy rfl (lay_str hs) (lay_map hl) (by rw [any_strs]; exact q)
/-! places -/
theorem atI_nat {α : Type} {xs : List α} {n : Nat} {v : α} (h : xs[n]? = some v) : atI xs (n : Int) = some v := by
  have hn : n < xs.length := (List.getElem?_eq_some_iff.mp h).1
  unfold atI ixN
  rw [if_pos (by omega), if_pos (by omega)]
  simpa using h
theorem atI_zero {α : Type} {v : α} {xs : List α} : atI (v :: xs) 0 = some v := atI_nat (n := 0) rfl
theorem atI_last {α : Type} {v : α} {xs : List α} : atI (xs ++ [v]) (-1) = some v := by
  unfold atI ixN
  rw [if_neg (by omega), if_pos (by rw [List.length_append]; simp; omega)]
  have : ((-1 : Int) + ((xs ++ [v]).length : Int)).toNat = xs.length := by
    rw [List.length_append]
    simp
    omega
  rw [this]
  simp
theorem cut_nat {α : Type} (xs : List α) (a b : Nat) (hb : b ≤ xs.length) (hab : a ≤ b) : cut xs (some (a : Int)) (some (b : Int)) = (xs.drop a).take (b - a) := by
  unfold cut
  rw [HT.sIx_nat, HT.sIx_nat, Nat.min_eq_left hb, Nat.min_eq_left (Nat.le_trans hab hb)]
theorem cut_to {α : Type} (xs : List α) (b : Nat) : cut xs none (some (b : Int)) = xs.take b := by
  unfold cut
  rw [HT.sIx_none, HT.sIx_nat, List.drop_zero, Nat.sub_zero]
  by_cases h : b ≤ xs.length
  · rw [Nat.min_eq_left h]
  · rw [Nat.min_eq_right (by omega), List.take_length, List.take_of_length_le (by omega)]
theorem cut_from {α : Type} (xs : List α) (a : Nat) : cut xs (some (a : Int)) none = xs.drop a := by
  unfold cut
  rw [HT.sIx_none, HT.sIx_nat]
  by_cases h : a ≤ xs.length
  · rw [Nat.min_eq_left h]
    exact List.take_of_length_le (by rw [List.length_drop]; exact Nat.le_refl _)
  · rw [Nat.min_eq_right (by omega), List.drop_length, List.drop_of_length_le (by omega), List.take_nil]
theorem i_eSl {t : EX} {tl th : PX} (h : t e (fun x e1 => tl e1 (fun lo e2 => th e2 (fun hi e3 => slX e3 x lo hi P) R) R) R) : eSl t tl th e P R := h
theorem i_pNone {Q : Option Int → Env → Prop} (h : Q none e) : pNone e Q R := h
theorem i_pSome {Q : Option Int → Env → Prop} {t : EX} (h : t e (fun r e1 => ∃ i, dv e1 r = some (.int i) ∧ Q (some i) e1) R) : pSome t e Q R := h
theorem i_int1 {Q : Int → Prop} {n : Int} (h : dv e x = some (.int n)) (q : Q n) : ∃ i, dv e x = some (.int i) ∧ Q i := ⟨n, h, q⟩
theorem i_d1 {Q : D → Prop} {d : D} (h : dv e x = some d) (q : Q d) : ∃ i, dv e x = some i ∧ Q i := ⟨d, h, q⟩
theorem i_slS {s : List Nat} {lo hi : Option Int} (hx : dv e x = some (.str s)) (hz : s.length ≤ sizeLine) (q : Z (.val (.str (cut s lo hi))) e) : slX e x lo hi Z := .inr (.inr ⟨s, hx, hz, q⟩)
theorem i_slL {ds : List D} {lo hi : Option Int} (hx : lsD e x = some ds) (q : Z (.ob e.ob.length) { e with ob := e.ob ++ [.lst (cut ds lo hi)] }) : slX e x lo hi Z := .inl ⟨ds, hx, q⟩
/-! built-ins -/
theorem i_lenS {s : List Nat} (hx : dv e x = some (.str s)) (hz : s.length ≤ sizeLine) (q : Z (.val (.int s.length)) e) : lenX e [x] Z := ⟨x, rfl, .inl ⟨s, hx, hz, q⟩⟩
theorem i_lenL {ds : List D} (hx : sqD e x = some ds) (q : Z (.val (.int ds.length)) e) : lenX e [x] Z := ⟨x, rfl, .inr ⟨ds, hx, q⟩⟩
theorem i_intI {n : Int} (hx : dv e x = some (.int n)) (q : Z (.val (.int n)) e) : intX e [x] Z := ⟨x, rfl, .inl ⟨n, hx, q⟩⟩
theorem i_intS {s : List Nat} {n : Int} (hx : dv e x = some (.str s)) (hn : intText? (S s) = some n) (hz : s.length ≤ 640) (q : Z (.val (.int n)) e) : intX e [x] Z := ⟨x, rfl, .inr (.inr ⟨s, n, hx, hn, hz, q⟩)⟩
theorem i_abs {n : Int} (hx : dv e x = some (.int n)) (q : Z (.val (.int (if n < 0 then -n else n))) e) : absX e [x] Z := ⟨x, n, rfl, hx, q⟩
theorem i_sum {ns : List Int} (hx : lsD e x = some (ns.map D.int)) (q : Z (.val (.int ns.sum)) e) : sumX e [x] Z := ⟨x, ns, rfl, hx, q⟩
theorem i_str {n : Int} (hx : dv e x = some (.int n)) (hz : n.natAbs.log2 < 1920) (q : Z (.val (.str (toString n : Str).cps.toList)) e) : strX e [x] Z := ⟨x, n, rfl, hx, hz, q⟩
theorem i_list {ds : List D} (hx : sqD e x = some ds) (q : Z (.ob e.ob.length) { e with ob := e.ob ++ [.lst ds] }) : listX e [x] Z := ⟨x, ds, rfl, hx, q⟩
theorem i_repr {d : D} (hx : rd e x = some d) (l : Lay 60 d) (hs : shows d = true) (hz : (PyData.shown d.py).length ≤ sizeLine) (q : Z (.val (.str (reprL d))) e) : reprX e [x] Z := ⟨x, d, rfl, hx, l, hs, hz, q⟩
theorem i_join {a : List Nat} {ds : List D} {ss : List (List Nat)} (hx : dv e x = some (.str a)) (hy : sqD e y = some ds) (hs : strsD ds = some ss) (hz : (ss.map List.length).sum + ss.length * a.length ≤ 16777216) (q : Z (.val (.str (joinL a ss))) e) : joinX e x [y] Z :=
  ⟨a, y, ds, ss, hx, rfl, hy, hs, hz, q⟩
theorem i_mxS {g : List Nat → Option D} {s : List Nat} {d : D} (hx : dv e x = some (.str s)) (hz : s.length ≤ 5592405) (hg : g s = some d) (q : Z (.val d) e) : mxS g e x [] Z := ⟨s, d, hx, rfl, hz, hg, q⟩
theorem i_stripC {a b : List Nat} (hx : dv e x = some (.str a)) (hy : dv e y = some (.str b)) (hz : a.length ≤ 5592405) (q : Z (.val (.str (Txt.stripChars (S a) (S b)).cps.toList)) e) : stripCX e x [y] Z := ⟨a, y, b, hx, rfl, hy, hz, q⟩
theorem i_app {ds : List D} {d : D} (hk : e.ob[k]? = some (.lst ds)) (hd : dv e y = some d) (hz : ds.length < sizeLine) (q : Z (.val .non) { e with ob := e.ob.set k (.lst (ds ++ [d])) }) : appX e (.ob k) [y] Z := ⟨k, y, rfl, rfl, .inl ⟨ds, d, hk, hd, hz, q⟩⟩
theorem i_tyS {s : List Nat} {A : Prop} (hx : dv e x = some (.str s)) (q : A) : tyStr e x ∧ A := ⟨⟨s, hx⟩, q⟩
theorem i_tyL {ds : List D} {A : Prop} (hk : e.ob[k]? = some (.lst ds)) (q : A) : tyLs e (.ob k) ∧ A := ⟨⟨k, rfl, .inl ⟨ds, hk⟩⟩, q⟩
theorem cmul_l {i j : Int} (h1 : -18446744073709551616 < i) (h2 : i < 18446744073709551616) : CMul i j := .inl ⟨by simpa using h1, by simpa using h2⟩
theorem cmul_r {i j : Int} (h1 : -18446744073709551616 < j) (h2 : j < 18446744073709551616) : CMul i j := .inr ⟨by simpa using h1, by simpa using h2⟩
theorem cpow {i j : Int} (h1 : 0 ≤ j) (h2 : j ≤ 1000000) (h3 : -18446744073709551616 < i) (h4 : i < 18446744073709551616) : CPow i j := ⟨h1, h2, by omega⟩
/-! branches -/
theorem i_iteD {p : Prop} [Decidable p] {A B : Prop} (h1 : p → A) (h0 : ¬p → B) : if decide p = true then A else B := by
  by_cases h : p
  · rw [decide_eq_true h, if_pos rfl]
    exact h1 h
  · rw [decide_eq_false h, if_neg Bool.false_ne_true]
    exact h0 h
theorem i_iteN {p : Prop} [Decidable p] {A B : Prop} (h1 : ¬p → A) (h0 : p → B) : if (!decide p) = true then A else B := by
  by_cases h : p
  · rw [decide_eq_true h]
    exact h0 h
  · rw [decide_eq_false h]
    exact h1 h
theorem i_ifT {b : Bool} {A B : Prop} (h : b = true) (q : A) : if b = true then A else B := by rw [if_pos h]; exact q
theorem i_ifF {b : Bool} {A B : Prop} (h : b = false) (q : B) : if b = true then A else B := by rw [h, if_neg Bool.false_ne_true]; exact q
theorem i_rt0 {P : RV → List OD → Prop} {R : Xc → List OD → Prop} {n : Nat} {r : RV} (h : fin n P r e) : (endP n P R).rt r e := h
theorem i_nx0 {P : RV → List OD → Prop} {R : Xc → List OD → Prop} {n : Nat} (h : fin n P (.val .non) e) : (endP n P R).nx e := h
theorem i_xc0 {P : RV → List OD → Prop} {R : Xc → List OD → Prop} {n : Nat} {x : Xc} (h : finX n R x e) : (endP n P R).xc x e := h
theorem i_isi1 {n : String} {m : String} {b : Bool} {Z : Bool → Prop} (h1 : tyOf e r = some m) (h2 : kitB m n = some b) (q : Z b) : ∃ m' b', tyOf e r = some m' ∧ kitB m' n = some b' ∧ Z b' := ⟨m, b, h1, h2, q⟩
theorem i_iteB {b : Bool} {A B : Prop} (h1 : b = true → A) (h0 : b = false → B) : if b = true then A else B := by
  cases b with
  | true => exact h1 rfl
  | false => exact h0 rfl
theorem i_iteNB {b : Bool} {A B : Prop} (h1 : b = false → A) (h0 : b = true → B) : if (!b) = true then A else B := by
  cases b with
  | true => exact h0 rfl
  | false => exact h1 rfl
/-! displays -/
theorem i_eTup {a : AX} (h : a e (fun rs e1 => rs.length ≤ sizeLine ∧ match allD e1 rs with
  | some ds => P (.val (.tup ds)) e1
  | none => P (.ob e1.ob.length) { e1 with ob := e1.ob ++ [.tpr rs] }) R) : eTup a e P R := h
theorem i_tupD {rs : List RV} {ds : List D} {A : Prop} (hl : rs.length ≤ sizeLine) (hd : allD e rs = some ds) (h : P (.val (.tup ds)) e) : rs.length ≤ sizeLine ∧ match allD e rs with
  | some ds => P (.val (.tup ds)) e
  | none => A := ⟨hl, by rw [hd]; exact h⟩
theorem i_lst {rs : List RV} {ds : List D} (hd : allD e rs = some ds) (hl : rs.length ≤ sizeLine) (h : P (.ob e.ob.length) { e with ob := e.ob ++ [.lst ds] }) :
    rs.length ≤ sizeLine ∧ P (.ob e.ob.length) { e with ob := e.ob ++ [match allD e rs with | some ds => .lst ds | none => .lsr rs] } := ⟨hl, by rw [hd]; exact h⟩
theorem allD_v (e : Env) (d : D) (rs : List RV) : allD e (.val d :: rs) = (match allD e rs with
  | some ds => some (d :: ds)
  | none => none) := rfl
theorem i_lst0 {Z : OD → Prop} (h : Z (.lst [])) : ([] : List RV).length ≤ sizeLine ∧ Z (.lst []) := ⟨Nat.zero_le _, h⟩
theorem small_line {n : Nat} (h : n ≤ 1000) : n ≤ sizeLine := by
  rw [sizeLine_eq]
  omega
/-! calls -/
theorem fz_nil {m : List Bool} {ob : List OD} : frz m ob [] = some ([], ob) := by rw [frz]
theorem fz_v {b : Bool} {m : List Bool} {ob ob' : List OD} {d : D} {rs qs : List RV} (h : frz m ob rs = some (qs, ob')) : frz (b :: m) ob (.val d :: rs) = some (.val d :: qs, ob') := by
  cases b with
  | true => rw [frz, fzR_val]; dsimp only; rw [h]
  | false => rw [frz, h]
theorem fz_l {m : List Bool} {ob ob' : List OD} {k : Nat} {ds : List D} {rs qs : List RV} (hk : ob[k]? = some (.lst ds)) (h : frz m (ob.set k (.fz (.lst ds))) rs = some (qs, ob')) : frz (true :: m) ob (.ob k :: rs) = some (.val (.lst ds) :: qs, ob') := by
  have e1 : fzR 9 ob (.ob k) = some (.lst ds, ob.set k (.fz (.lst ds))) := by rw [fzR, hk]
  rw [frz, e1]
  dsimp only
  rw [h]
theorem fz_f {m : List Bool} {ob ob' : List OD} {k : Nat} {d : D} {rs qs : List RV} (hk : ob[k]? = some (.fz d)) (h : frz m ob rs = some (qs, ob')) : frz (true :: m) ob (.ob k :: rs) = some (.val d :: qs, ob') := by
  have e1 : fzR 9 ob (.ob k) = some (d, ob) := by rw [fzR, hk]
  rw [frz, e1]
  dsimp only
  rw [h]
theorem fz_k {m : List Bool} {ob ob' : List OD} {k : Nat} {rs qs : List RV} (h : frz m ob rs = some (qs, ob')) : frz (false :: m) ob (.ob k :: rs) = some (.ob k :: qs, ob') := by
  rw [frz, h]
def isV : RV → Bool
  | .val _ => true
  | .ob _ => false
theorem isV_ren {g : Nat → Nat} : ∀ {rs : List RV}, rs.all isV = true → rs.map (RV.ren g) = rs ∧ rs.all (RV.below 0) = true
  | [], _ => ⟨rfl, rfl⟩
  | .val d :: rs, h => by
    obtain ⟨h1, h2⟩ := isV_ren (g := g) (rs := rs) (by simpa [isV] using h)
    refine ⟨by rw [List.map_cons, h1]; rfl, ?_⟩
    rw [List.all_cons, h2]
    rfl
  | .ob k :: rs, h => by simp [isV] at h
theorem below_all {n : Nat} : ∀ {rs : List RV}, rs.all (RV.below 0) = true → rs.all (RV.below n) = true
  | [], _ => rfl
  | r :: rs, h => by
    have h' : r.below 0 = true ∧ rs.all (RV.below 0) = true := by simpa using h
    rw [List.all_cons, below_all h'.2]
    cases r with
    | val d => rfl
    | ob k => simp [RV.below] at h'
/-- only data is passed -/
theorem c_v {m : List Bool} {dd : List D} {fx : FX} {rs rs1 : List RV} {ob1 : List OD} (hf : frz m e.ob rs = some (rs1, ob1)) (hv : rs1.all isV = true)
    (h : fx (rs1 ++ dd.map .val) [] (fun r ob' => P (r.ren (out [] ob1.length)) ⟨e.sl, ob1 ++ ob'.map (OD.ren (out [] ob1.length))⟩) (fun x ob' => R x ⟨e.sl, ob1 ++ ob'.map (OD.ren (out [] ob1.length))⟩)) : cal m dd fx rs e P R := by
  obtain ⟨h1, h2⟩ := isV_ren (g := out [] ob1.length) hv
  refine ⟨rs1, ob1, [], [], rs1, hf, ⟨rfl, List.nodup_nil, fun j o h => by simp at h, h2, h1.symm⟩, ?_⟩
  simpa using h
/-- one object is passed, ahead of data -/
theorem c_o {m : List Bool} {dd : List D} {fx : FX} {rs rs1 : List RV} {ob1 : List OD} {o : OD} (hf : frz m e.ob rs = some (.ob k :: rs1, ob1)) (hv : rs1.all isV = true) (hk : ob1[k]? = some o) (ho : ∀ g, o.ren g = o) (hb : o.below 1 = true)
    (h : fx (.ob 0 :: (rs1 ++ dd.map .val)) [o] (fun r ob' => P (r.ren (out [k] ob1.length)) ⟨e.sl, back [k] ob1 ob'⟩) (fun x ob' => R x ⟨e.sl, back [k] ob1 ob'⟩)) : cal m dd fx rs e P R := by
  obtain ⟨h1, h2⟩ := isV_ren (g := out [k] ob1.length) hv
  refine ⟨.ob k :: rs1, ob1, [k], [o], .ob 0 :: rs1, hf, ⟨rfl, by simp, fun j o' hj => ?_, ?_, ?_⟩, h⟩
  · cases j with
    | zero =>
      cases hj
      exact ⟨hb, k, rfl, by rw [ho]; exact hk⟩
    | succ j => simp at hj
  · rw [List.all_cons, below_all h2]
    rfl
  · rw [List.map_cons, h1]
    rfl
/-! ends -/
theorem fin_v {n : Nat} {PP : RV → List OD → Prop} {d : D} {ob' : List OD} (h : fzR 9 e.ob r = some (d, ob')) (hl : flatN n ob') (q : PP (.val d) (ob'.take n)) : fin n PP r e := .inl ⟨d, ob', h, hl, q⟩
theorem fin_d {PP : RV → List OD → Prop} {d : D} (q : PP (.val d) []) : fin 0 PP (.val d) e := .inl ⟨d, e.ob, fzR_val 9 _ d, fun o ho => by simp at ho, by simpa using q⟩
theorem fin_d1 {PP : RV → List OD → Prop} {d : D} {o : OD} {l : List OD} (hb : o.below 1 = true) (q : PP (.val d) [o]) {sl : List (Option RV)} : fin 1 PP (.val d) ⟨sl, o :: l⟩ := .inl ⟨d, o :: l, fzR_val 9 _ d, fun o' ho => by
  have : o' = o := by simpa using ho
  rw [this]
  exact hb, by simpa using q⟩
theorem fin_l {PP : RV → List OD → Prop} {ds : List D} (hk : e.ob[k]? = some (.lst ds)) (q : PP (.val (.lst ds)) []) : fin 0 PP (.ob k) e := .inl ⟨.lst ds, e.ob.set k (.fz (.lst ds)), by rw [fzR, hk], fun o ho => by simp at ho, by simpa using q⟩
theorem fin_n {PP : RV → List OD → Prop} {ds : List D} (hk : e.ob[k]? = some (.lst ds)) (q : PP (.ob 0) [.lst ds]) : fin 0 PP (.ob k) e := .inr (.inl ⟨k, .lst ds, rfl, Nat.zero_le _, hk, rfl, rfl, fun o ho => by simp at ho, by simpa using q⟩)
theorem finX_0 {RR : Xc → List OD → Prop} {xx : Xc} (q : RR xx []) : finX 0 RR xx e := ⟨fun o ho => by simp at ho, by simpa using q⟩
/-! comprehensions -/
theorem i_eLc {t : IX} {g : GX} {tt : TX} {te : EX} {vs : List Nat} (h : t e (fun all G e1 => ∃ o0, (o0 = OD.lst [] ∨ o0 = OD.lsr []) ∧ compX vs g tt te G e1.sl e1.ob.length (fun ob => P (.ob e1.ob.length) ⟨e1.sl, ob⟩) all (e1.ob ++ [o0])) R) : eLc t g tt te vs e P R := h
theorem i_lcD {A : OD → Prop} (h : A (.lst [])) : ∃ o0, (o0 = OD.lst [] ∨ o0 = OD.lsr []) ∧ A o0 := ⟨_, .inl rfl, h⟩
theorem i_cNil {g : GX} {tt : TX} {te : EX} {vs : List Nat} {G : Env → Prop} {sl : List (Option RV)} {Q : List OD → Prop} {ob : List OD} (hG : G ⟨sl, ob⟩) (h : Q ob) : compX vs g tt te G sl k Q [] ob := ⟨hG, h⟩
theorem i_cCons {g : GX} {tt : TX} {te : EX} {vs : List Nat} {G : Env → Prop} {sl : List (Option RV)} {Q : List OD → Prop} {ob : List OD} {rs : List RV} (hG : G ⟨sl, ob⟩) (h : g r ⟨wipeE sl vs, ob⟩ fun e2 => tt e2 (fun b e3 => if b = true then te e3 (fun y e4 => putL k e4.ob y (compX vs g tt te G sl k Q rs)) (fun _ _ => False) else compX vs g tt te G sl k Q rs e3.ob) (fun _ _ => False)) :
    compX vs g tt te G sl k Q (r :: rs) ob := ⟨hG, h⟩
theorem i_putD {ob : List OD} {Q : List OD → Prop} {ds : List D} {d : D} (hk : ob[k]? = some (.lst ds)) (hd : dv ⟨[], ob⟩ y = some d) (hz : ds.length < sizeLine) (q : Q (ob.set k (.lst (ds ++ [d])))) : putL k ob y Q := .inl ⟨ds, d, hk, hd, hz, q⟩
theorem i_fNil {g : GX} {s : SX} {G : Env → Prop} {Po : Post} (hG : G e) (h : Po.nx e) : forX g s G Po [] e := ⟨hG, h⟩
theorem i_fCons {g : GX} {s : SX} {G : Env → Prop} {Po : Post} {rs : List RV} (hG : G e) (h : g r e fun e1 => s e1 { nx := forX g s G Po rs, rt := Po.rt, xc := Po.xc, bk := Po.nx, ct := forX g s G Po rs }) : forX g s G Po (r :: rs) e := ⟨hG, h⟩
theorem i_while {c : TX} {s : SX} {Po : Post} (n : Nat) (h : whileX c s Po n e) : sWhile c s e Po := ⟨n, h⟩
theorem i_wStep {c : TX} {s : SX} {Po : Post} {n : Nat} (h : c e (fun k e1 => if k = true then s e1 { nx := whileX c s Po n, rt := Po.rt, xc := Po.xc, bk := Po.nx, ct := whileX c s Po n } else Po.nx e1) Po.xc) : whileX c s Po (n + 1) e := h
end
end DL
end
section
set_option Elab.async false
set_option linter.all false
set_option autoImplicit false
set_option maxRecDepth 100000
set_option maxHeartbeats 2000000
/-! DLP: pools of draws, comprehensions that draw. -/
namespace DL
open PySem PySem.Spec L2
open PyProof.Rows hiding St

/-- a pool: what is drawn is anything; b: how often it was drawn from, at most -/
def Pl (b : Nat) (ds : List D) : Prop := ∃ g s n : Int, ds = [.int g, .int s, .int n] ∧ 0 ≤ g ∧ 0 ≤ s ∧ s < 17000000000000000000 ∧ 0 ≤ n ∧ n ≤ b
theorem Pl.mono {b c : Nat} {ds : List D} (h : Pl b ds) (l : b ≤ c) : Pl c ds := by
  obtain ⟨g, s, n, h0, h1, h2, h3, h4, h5⟩ := h
  exact ⟨g, s, n, h0, h1, h2, h3, h4, by omega⟩
/-- a draw: a number below m -/
def fx_pick : FX := fun rs ob P _ => ∃ b ds m, rs = [.ob 0, .val (.int m)] ∧ ob = [.lst ds] ∧ Pl b ds ∧ b < 1000000 ∧ 0 < m ∧ m < 1000000 ∧ ∀ r ds', 0 ≤ r → r < m → Pl (b + 1) ds' → P (.val (.int r)) [.lst ds']
theorem pick_ok {sl : List (Option RV)} {ob : List OD} {k b : Nat} {ds : List D} {m : Int} {P : RV → Env → Prop} {R : Xc → Env → Prop} (h0 : ob[k]? = some (.lst ds)) (hp : Pl b ds) (hb : b < 1000000) (hm : 0 < m) (hm2 : m < 1000000)
    (q : ∀ (r : Nat) ds', (r : Int) < m → Pl (b + 1) ds' → P (.val (.int (r : Nat))) ⟨sl, ob.set k (.lst ds')⟩) : cal [false, true] [] fx_pick [.ob k, .val (.int m)] ⟨sl, ob⟩ P R := by
  refine c_o (fz_k (fz_v fz_nil)) rfl h0 (fun _ => rfl) rfl ⟨b, ds, m, rfl, rfl, hp, hb, hm, hm2, fun r ds' h1 h2 hp' => ?_⟩
  dsimp only
  rw [back_one]
  obtain ⟨n, rfl⟩ := Int.eq_ofNat_of_zero_le h1
  exact q n ds' h2 hp'
/-- a def that draws n times at most from the pool, its first argument -/
def fxDraw (n : Nat) (good : RV → Prop) : FX := fun rs ob P _ => ∃ b ds, rs = [.ob 0] ∧ ob = [.lst ds] ∧ Pl b ds ∧ b + n < 1000000 ∧ ∀ d ds', good (.val d) → Pl (b + n) ds' → P (.val d) [.lst ds']
theorem draw_ok {sl : List (Option RV)} {ob : List OD} {k b n : Nat} {good : RV → Prop} {ds : List D} {P : RV → Env → Prop} {R : Xc → Env → Prop} (h0 : ob[k]? = some (.lst ds)) (hp : Pl b ds) (hb : b + n < 1000000)
    (q : ∀ d ds', good (.val d) → Pl (b + n) ds' → P (.val d) ⟨sl, ob.set k (.lst ds')⟩) : cal [false] [] (fxDraw n good) [.ob k] ⟨sl, ob⟩ P R := by
  refine c_o (fz_k fz_nil) rfl h0 (fun _ => rfl) rfl ⟨b, ds, rfl, rfl, hp, hb, fun d ds' h1 hp' => ?_⟩
  dsimp only
  rw [back_one]
  exact q d ds' h1 hp'
/-- te draws n times at most and gives good data; the pool is the state's object 0 -/
def DrawsTo (te : EX) (sl : List (Option RV)) (n : Nat) (good : D → Prop) : Prop := ∀ (b : Nat) (ds : List D) (ob : List OD) (P : RV → Env → Prop) (R : Xc → Env → Prop), ob[0]? = some (.lst ds) → Pl b ds → b + n < 1000000 →
  (∀ ds' d, Pl (b + n) ds' → good d → P (.val d) ⟨sl, ob.set 0 (.lst ds')⟩) → te ⟨sl, ob⟩ P R
theorem comp_draw {te : EX} {sl : List (Option RV)} {vs : List Nat} {i k n : Nat} {good : D → Prop} {Z : List OD → Prop} (hd : ∀ r, DrawsTo te ((wipeE sl vs).set i (some r)) n good) (hk0 : k ≠ 0) : ∀ (l : List RV) (b : Nat) (ds acc : List D) (ob : List OD),
    ob[0]? = some (.lst ds) → ob[k]? = some (.lst acc) → Pl b ds → b + n * l.length < 1000000 → acc.length + l.length ≤ 100000 →
    (∀ ds' acc', Pl (b + n * l.length) ds' → acc'.length = acc.length + l.length → (∀ d ∈ acc', d ∈ acc ∨ good d) → Z ((ob.set 0 (.lst ds')).set k (.lst acc'))) → compX vs (gNm i) tYesX te (fun _ => True) sl k Z l ob
  | [], b, ds, acc, ob, h0, hk, hp, hb, hz, q => by
    refine i_cNil trivial ?_
    have := q ds acc (hp.mono (by omega)) rfl fun d hd => .inl hd
    have e1 : ob.set 0 (.lst ds) = ob := by
      apply List.ext_getElem?
      intro j
      by_cases hj : 0 = j
      · subst hj
        rw [List.getElem?_set_self (List.getElem?_eq_some_iff.mp h0).1, h0]
      · rw [List.getElem?_set_ne hj]
    have e2 : ob.set k (.lst acc) = ob := by
      apply List.ext_getElem?
      intro j
      by_cases hj : k = j
      · subst hj
        rw [List.getElem?_set_self (List.getElem?_eq_some_iff.mp hk).1, hk]
      · rw [List.getElem?_set_ne hj]
    rw [e1, e2] at this
    exact this
  | r :: l, b, ds, acc, ob, h0, hk, hp, hb, hz, q => by
    rw [List.length_cons, Nat.mul_add] at hb
    rw [List.length_cons] at hz
    refine i_cCons trivial (i_gNm (i_yes (i_if1 (hd r b ds ob _ _ h0 hp (by omega) fun ds1 d hp1 hg => ?_))))
    have hl0 := (List.getElem?_eq_some_iff.mp h0).1
    have hlk := (List.getElem?_eq_some_iff.mp hk).1
    refine i_putD (ds := acc) (d := d) (by rw [List.getElem?_set_ne (Ne.symm hk0)]; exact hk) rfl (by rw [sizeLine_eq]; omega) ?_
    refine comp_draw hd hk0 l (b + n) ds1 (acc ++ [d]) _ ?_ ?_ hp1 (by omega) (by rw [List.length_append]; simp; omega) fun ds' acc' g1 g2 g3 => ?_
    · rw [List.getElem?_set_ne hk0, List.getElem?_set_self hl0]
    · rw [List.getElem?_set_self (by rw [List.length_set]; exact hlk)]
    · have e : ((((ob.set 0 (.lst ds1)).set k (.lst (acc ++ [d]))).set 0 (.lst ds')).set k (.lst acc')) = (ob.set 0 (.lst ds')).set k (.lst acc') := by
        rw [List.set_comm _ _ hk0, List.set_set, List.set_set]
      rw [e]
      refine q ds' acc' (g1.mono (by rw [List.length_cons, Nat.mul_add]; omega)) (by rw [g2, List.length_append, List.length_cons]; simp; omega) fun z hz => ?_
      rcases g3 z hz with h | h
      · rcases List.mem_append.mp h with h | h
        · exact .inl h
        · have : z = d := by simpa using h
          rw [this]
          exact .inr hg
      · exact .inr h
end DL
end
section
set_option Elab.async false
set_option linter.all false
set_option autoImplicit false
set_option maxRecDepth 100000
set_option maxHeartbeats 2000000
/-! DLQ: texts as lists: join, numerals, stripping. -/
namespace DL
open PySem PySem.Spec L2 PySem.NumText
open PyProof.Rows hiding St

/-- texts with a in between -/
def jn (a : List Nat) : List (List Nat) → List Nat
  | [] => []
  | [x] => x
  | x :: y :: r => x ++ a ++ jn a (y :: r)
theorem join_S (a : List Nat) : ∀ ss : List (List Nat), Str.join (S a) (ss.map S) = S (jn a ss)
  | [] => rfl
  | [x] => rfl
  | x :: y :: r => by
    have ih := join_S a (y :: r)
    rw [List.map_cons, List.map_cons, Str.join, jn, ← S_app, ← S_app, ← ih, List.map_cons]
    intro h
    cases h
theorem joinL_eq (a : List Nat) (ss : List (List Nat)) : joinL a ss = jn a ss := by
  unfold joinL Txt.join
  rw [StrLaws.glued_eq_join, join_S, S_list]
theorem jn_nil : ∀ ss : List (List Nat), jn [] ss = ss.flatten
  | [] => rfl
  | [x] => by simp [jn]
  | x :: y :: r => by rw [jn, jn_nil (y :: r)]; simp
theorem join_signs (s : List Nat) : joinL [] (s.map fun c => [c]) = s := by
  rw [joinL_eq, jn_nil]
  induction s with
  | nil => rfl
  | cons c s ih => rw [List.map_cons, List.flatten_cons, ih]; rfl
theorem digitsVal_lt : ∀ (cs : List Nat) (acc : Nat), AllDigits cs → cs.foldl (fun acc c => acc * 10 + (c - 48)) acc < (acc + 1) * 10 ^ cs.length
  | [], acc, _ => by simp
  | c :: cs, acc, h => by
    rw [List.foldl_cons, List.length_cons]
    have ih := digitsVal_lt cs (acc * 10 + (c - 48)) h.tail
    have hc := h.head
    refine Nat.lt_of_lt_of_le ih ?_
    rw [Nat.pow_succ, Nat.mul_comm (10 ^ cs.length) 10, ← Nat.mul_assoc]
    exact Nat.mul_le_mul_right _ (by omega)
/-- str(int(s)) of a numeral -/
theorem num_text {s : List Nat} (h : AllDigits s) (h1 : s ≠ []) (h2 : s.length ≤ 500) : intText? (S s) = some ((digitsVal s : Nat) : Int) ∧ ((digitsVal s : Nat) : Int).natAbs.log2 < 1920 ∧
    (PySem.Str.ofString (toString ((digitsVal s : Nat) : Int))).cps.toList = (match s.dropWhile (· == 48) with
      | [] => [48]
      | c :: r => c :: r) := by
  refine ⟨intText_digits (x := S s) h h1 (by rw [S_len]; omega), ?_, ?_⟩
  · have hlt := digitsVal_lt s 0 h
    have h10 : digitsVal s < 10 ^ 500 := by
      refine Nat.lt_of_lt_of_le hlt ?_
      rw [Nat.zero_add, Nat.one_mul]
      exact Nat.pow_le_pow_right (by decide) h2
    have e : ((digitsVal s : Nat) : Int).natAbs = digitsVal s := rfl
    rw [e]
    by_cases h0 : digitsVal s = 0
    · rw [h0]
      decide
    · refine (Nat.log2_lt h0).mpr (Nat.lt_of_lt_of_le h10 ?_)
      decide +kernel
  · rw [PySem.W.KIN.signs_num, toDigits_all s h]
    have hd : AllDigits (s.dropWhile (· == 48)) := fun c hc => h c ((List.dropWhile_sublist _).subset hc)
    cases e : s.dropWhile (· == 48) with
    | nil => rfl
    | cons c r =>
      rw [e] at hd
      have g : ∀ l : List Nat, AllDigits l → (l.map Char.ofNat).map Char.toNat = l := by
        intro l
        induction l with
        | nil => intro _; rfl
        | cons z l ih =>
          intro hz
          rw [List.map_cons, List.map_cons, ih hz.tail]
          have hz1 := hz.head
          have : ∀ z : Nat, z ≤ 57 → (Char.ofNat z).toNat = z := by decide
          rw [this z hz1.2]
      exact g (c :: r) hd
theorem strip_sub (x y : List Nat) : ∀ c ∈ (Txt.stripChars (S x) (S y)).cps.toList, c ∈ x := fun c hc => by
  unfold Txt.stripChars Txt.stripBy at hc
  split at hc
  · exact hc
  · unfold stripped Builtin.Str.strSub at hc
    have hc' : c ∈ ((S x).cps.extract _ _).toList := hc
    rw [Array.toList_extract] at hc'
    exact List.mem_of_mem_drop (List.mem_of_mem_take hc')
theorem strip_len (x y : List Nat) : (Txt.stripChars (S x) (S y)).cps.toList.length ≤ x.length := by
  unfold Txt.stripChars Txt.stripBy
  split
  · exact Nat.le_refl _
  · unfold stripped Builtin.Str.strSub
    show ((S x).cps.extract _ _).toList.length ≤ _
    rw [Array.toList_extract, List.extract_eq_drop_take]
    exact List.Sublist.length_le ((List.take_sublist _ _).trans (List.drop_sublist _ x))
/-! how long repr's text is -/
theorem shownAll_strs : ∀ ts : List (List Nat), PyData.shownAll (pyL (ts.map D.str)) = ts.map fun s => reprText (S s)
  | [] => by rw [List.map_nil, pyL_nil, PyData.shownAll]; rfl
  | s :: ts => by rw [List.map_cons, pyL_cons, PyData.shownAll, shownAll_strs ts, D.py, PyData.shown]; rfl
theorem shown_strs {ts : List (List Nat)} (h : ∀ s ∈ ts, Cps s) : (PyData.shown (D.lst (ts.map .str)).py).length ≤ 2 + 10 * (ts.map List.length).sum + 4 * ts.length := by
  rw [D.py, PyData.shown, shownAll_strs]
  unfold listText
  have h1 := textFrom_len_le (ts.map fun s => reprText (S s)) 0 "["
  have e1 : (("[" : Str)).length = 1 := by decide
  have e2 : (textFrom 0 "[" (ts.map fun s => reprText (S s)) ++ ("]" : Str)).length = (textFrom 0 "[" (ts.map fun s => reprText (S s))).length + 1 := by
    show (_ ++ _ : Array Nat).size = _
    rw [Array.size_append]
    rfl
  rw [e2]
  rw [e1, List.length_map] at h1
  have h2 : ((ts.map fun s => reprText (S s)).map (·.length)).sum ≤ 10 * (ts.map List.length).sum + 2 * ts.length := by
    clear h1 e2
    induction ts with
    | nil => simp
    | cons s ts ih =>
      have ih' := ih fun z hz => h z (List.mem_cons_of_mem _ hz)
      have hs := StrLaws.reprText_len (S s) fun c hc => Nat.lt_trans (h s List.mem_cons_self c hc) (by decide)
      rw [S_len] at hs
      simp only [List.map_cons, List.sum_cons, List.length_cons]
      simp only [List.map_map] at ih' ⊢
      omega
  omega
theorem shows_strs (ts : List (List Nat)) : shows (.lst (ts.map .str)) = true := by
  unfold shows
  rw [D.py, PyData.showable]
  induction ts with
  | nil => rw [List.map_nil, pyL_nil, PyData.showableAll]
  | cons s ts ih => rw [List.map_cons, pyL_cons, PyData.showableAll, D.py, PyData.showable, ih]; rfl
theorem shows_nat {n : Nat} (h : n < 2 ^ 64) : shows (.int (n : Nat)) = true := by
  unfold shows
  rw [D.py, PyData.showable, decide_eq_true]
  have e : ((n : Nat) : Int).natAbs = n := rfl
  rw [e]
  by_cases h0 : n = 0
  · rw [h0]; decide
  · exact Nat.lt_trans ((Nat.log2_lt h0).mpr h) (by decide)
end DL
end
section
set_option Elab.async false
set_option linter.all false
set_option autoImplicit false
set_option maxRecDepth 100000
set_option maxHeartbeats 2000000
/-! DLR: what an expression gives, as data; its own objects are let go. -/
namespace DL
open PySem PySem.Spec L2
open PyProof.Rows hiding St

def flatB (n : Nat) (ob : List OD) : Bool := (ob.take n).all (OD.below n)
theorem flatB_ok {n : Nat} {ob : List OD} (h : flatB n ob = true) : flatN n ob := fun o ho => List.all_eq_true.mp h o ho
/-- the value changes no more; the objects that were made on the way are let go -/
def eFz (t : EX) : EX := fun e P R => t e (fun r e1 => e1.sl = e.sl ∧ ∃ d ob', fzR 9 e1.ob r = some (d, ob') ∧ flatB e.ob.length ob' = true ∧ P (.val d) ⟨e.sl, ob'.take e.ob.length⟩) R
section
variable {T : Cn} {X : Cx} {W : WX} {a : Expr} {t : EX}
theorem Rel.back {c : BF} {sl : List (Option RV)} {ob ob0 : List OD} {σ : L2.St} {F F0 H H0 : Hp} {ad ad0 : List Addr} (R0 : Rel T c ⟨sl, ob0⟩ σ F0 H0 ad0) (R : Rel T c ⟨sl, ob⟩ σ F H ad) (x : Ex F0 F) (px : Px ad0 ad) (hl : flatN ad0.length ob) : Rel T c ⟨sl, ob.take ad0.length⟩ σ F H ad0 := by
  have R1 := R.first R0.pre px hl
  refine ⟨R.len, R1.fh, R1.f0, R1.bh, R1.fr, R1.adl, R1.adn, R1.pre, R1.ob, fun i r h => ?_⟩
  obtain ⟨v, hv, hr⟩ := R0.sl i r h
  exact ⟨v, hv, hr.mono x (Px.refl _)⟩
theorem le_fz {σ : L2.St} {H : Hp} {Q : VK} (hh : LE T W (eFz t) σ H Q) : LE T W t σ H Q := by
  obtain ⟨c, F, ad, e, P, R, rel, q, hq, hx⟩ := hh
  refine ⟨c, F, ad, e, _, R, rel, q, fun v H1 F1 ad1 e1 r x1 p1 rel1 r1 q1 => ?_, hx⟩
  obtain ⟨hsl, d, ob', h1, h2, h3⟩ := q1
  obtain ⟨sl1, ob1⟩ := e1
  obtain ⟨sl, ob⟩ := e
  obtain rfl : sl1 = sl := hsl
  obtain ⟨F2, x2, rel2, g2⟩ := fzR_ok 9 rel1 h1
  have hal : ad.length = ob.length := rel.adl
  have h2' : flatN ad.length ob' := by rw [hal]; exact flatB_ok h2
  have rel3 := Rel.back rel rel2 (x1.trans x2) p1 h2'
  rw [hal] at rel3
  exact hq v H1 F2 ad _ (.val d) (x1.trans x2) (Px.refl _) rel3 (g2 v r1) h3
theorem de_fz (h : DE T X W a t) : DE T X W a (eFz t) := ⟨PE.imp h.pe fun σ H Q hh => le_fz hh⟩
theorem ds_setLcV {vs : List Nat} (i : Nat) {y : Str} {py : Pos} {elt tg iter : Expr} {ifs : List Expr} {scope : Scope} {own : List (Str × Nat)} {pos spos : Pos} {ti : IX} {g : GX} {tt : TX} {te : EX} (hc : X.calm = true) (hN : X.N.Nodup) (hi : DI T X W tg iter ti) (ok : BlkOk X.N X.env.scope scope own)
    (hsw : swapsWith (.ListComp elt [⟨tg, iter, ifs, 0⟩] scope pos) (some (.Name y py)) spos.line X.env = pure true) (hv : own.map (·.2) = vs := by rfl) (hy : X.N[i]? = some y := by rfl) (hyl : X.env.scope.names.lookup y = some .local := by rfl)
    (hg : ∀ (s : Shared) (H : Hp) (C : Addr) (cl : List (Str × Addr)) (fp : List Addr), DGw T (X.blk s H scope (compEnvC scope cl C X.env) fp) vs tg g) (ht : ∀ (s : Shared) (H : Hp) (C : Addr) (cl : List (Str × Addr)) (fp : List Addr), DTs T (X.blk s H scope (compEnvC scope cl C X.env) fp) W0 ifs tt)
    (he : ∀ (s : Shared) (H : Hp) (C : Addr) (cl : List (Str × Addr)) (fp : List Addr), DE T (X.blk s H scope (compEnvC scope cl C X.env) fp) W0 elt te) (hs : ∀ x, foldedSetIterable iter X.env x = pure x := by intro _; rfl) :
    DS T X W (.Assign [.Name y py] (.ListComp elt [⟨tg, iter, ifs, 0⟩] scope pos) spos) (sAsg (eFz (eLc ti g tt te vs)) (gNm i)) := by
  subst hv
  exact ⟨PS.imp (ps_setLc hc hN hy hyl hsw hi.pi ok (fun s H C cl fp => (hg s H C cl fp).pg) (fun s H C cl fp => (ht s H C cl fp).pts) (fun s H C cl fp => (he s H C cl fp).pe) hs) fun D σ H h => by
    obtain ⟨c, F, ad, e, Po, rel, q, n, r, x, bk, ct⟩ := h
    exact le_lc (le_fz ⟨c, F, ad, e, _, _, rel, q, fun v H1 F1 ad1 e1 rr x1 p1 rel1 r1 q1 => n _ H1 F1 ad1 _ x1 p1 (rel1.put r1) q1, x⟩)⟩
end
section
variable {e : Env} {P : RV → Env → Prop} {R : Xc → Env → Prop} {r : RV} {k : Nat} {t : EX}
theorem i_fz (h : t e (fun r e1 => e1.sl = e.sl ∧ ∃ d ob', fzR 9 e1.ob r = some (d, ob') ∧ flatB e.ob.length ob' = true ∧ P (.val d) ⟨e.sl, ob'.take e.ob.length⟩) R) : eFz t e P R := h
theorem i_fzL {sl0 sl1 : List (Option RV)} {n : Nat} {ob : List OD} {ds : List D} {Z : D → List OD → Prop} (hk : ob[k]? = some (.lst ds)) (hf : flatB n (ob.set k (.fz (.lst ds))) = true) (hs : sl1 = sl0) (q : Z (.lst ds) (ob.set k (.fz (.lst ds)))) :
    sl1 = sl0 ∧ ∃ d ob', fzR 9 ob (.ob k) = some (d, ob') ∧ flatB n ob' = true ∧ Z d ob' := ⟨hs, .lst ds, _, by rw [fzR, hk], hf, q⟩
theorem i_fzLT {n : Nat} {ob : List OD} {ds : List D} {Z : D → List OD → Prop} (hk : ob[k]? = some (.lst ds)) (hf : flatB n (ob.set k (.fz (.lst ds))) = true) (q : Z (.lst ds) (ob.set k (.fz (.lst ds)))) :
    True ∧ ∃ d ob', fzR 9 ob (.ob k) = some (d, ob') ∧ flatB n ob' = true ∧ Z d ob' := ⟨trivial, .lst ds, _, by rw [fzR, hk], hf, q⟩
theorem i_fzVT {n : Nat} {ob : List OD} {d : D} {Z : D → List OD → Prop} (hf : flatB n ob = true) (q : Z d ob) :
    True ∧ ∃ d' ob', fzR 9 ob (.val d) = some (d', ob') ∧ flatB n ob' = true ∧ Z d' ob' := ⟨trivial, d, ob, fzR_val 9 _ _, hf, q⟩
theorem i_fzV {sl0 sl1 : List (Option RV)} {n : Nat} {ob : List OD} {d : D} {Z : D → List OD → Prop} (hf : flatB n ob = true) (hs : sl1 = sl0) (q : Z d ob) :
    sl1 = sl0 ∧ ∃ d' ob', fzR 9 ob (.val d) = some (d', ob') ∧ flatB n ob' = true ∧ Z d' ob' := ⟨hs, d, ob, fzR_val 9 _ _, hf, q⟩
end
end DL
end
section
set_option Elab.async false
set_option linter.all false
set_option autoImplicit false
set_option maxRecDepth 100000
set_option maxHeartbeats 2000000
/-! DLS: at the end of a loop's pass the pass's own names and objects are let go. -/
namespace DL
open PySem PySem.Spec L2
open PyProof.Rows hiding St

def slotB (n : Nat) : Option RV → Bool
  | some (.ob k) => decide (k < n)
  | some (.val _) => true
  | none => true
def goB (vs : List Nat) (n : Nat) (e : Env) : Bool := (wipeE e.sl vs).all (slotB n) && flatB n e.ob
def letGo (vs : List Nat) (n : Nat) (e : Env) : Env := ⟨wipeE e.sl vs, e.ob.take n⟩
def sFr (vs : List Nat) (t : SX) : SX := fun e Po => t e { Po with
  nx := fun e1 => goB vs e.ob.length e1 = true ∧ Po.nx (letGo vs e.ob.length e1)
  ct := fun e1 => goB vs e.ob.length e1 = true ∧ Po.ct (letGo vs e.ob.length e1) }
section
variable {T : Cn} {X : Cx} {W : WX} {t : SX}
theorem Rel.go {c : BF} {e0 e : Env} {σ0 σ : L2.St} {F0 F H0 H : Hp} {ad ad0 : List Addr} {vs : List Nat} (R0 : Rel T c e0 σ0 F0 H0 ad0) (R : Rel T c e σ F H ad) (px : Px ad0 ad) (h : goB vs e0.ob.length e = true) :
    Rel T c (letGo vs e0.ob.length e) σ F H ad0 := by
  unfold goB at h
  rw [Bool.and_eq_true] at h
  obtain ⟨h1, h2⟩ := h
  have hal : ad0.length = e0.ob.length := R0.adl
  have hl : flatN ad0.length e.ob := by rw [hal]; exact flatB_ok h2
  have R1 := R.first R0.pre px hl
  rw [hal] at R1
  refine ⟨?_, R1.fh, R1.f0, R1.bh, R1.fr, R1.adl, R1.adn, R1.pre, R1.ob, fun i r hr => ?_⟩
  · show (wipeE e.sl vs).length = _
    rw [wipeE_length]
    exact R.len
  · have hm := List.all_eq_true.mp h1 _ (List.mem_of_getElem? hr)
    obtain ⟨hs, _⟩ := wipeE_some hr
    obtain ⟨v, hv, rr⟩ := R.sl i r hs
    refine ⟨v, hv, ?_⟩
    cases r with
    | val d => exact rr
    | ob k =>
      obtain ⟨p, hp, e1⟩ := rr
      have hk : k < ad0.length := by rw [hal]; simpa [slotB] using hm
      refine ⟨p, ?_, e1⟩
      have h3 : ad0[k]? = some ad0[k] := List.getElem?_eq_getElem hk
      have h4 := px k _ h3
      rw [h4] at hp
      rw [← hp]
      exact h3
theorem ls_fr {D : _} {σ : L2.St} {H : Hp} {vs : List Nat} (hh : LS T W (sFr vs t) D σ H) : LS T W t D σ H := by
  obtain ⟨c, F, ad, e, Po, rel, q, n, r, x, bk, ct⟩ := hh
  refine ⟨c, F, ad, e, _, rel, q, fun σ' H' F' ad' e' x1 p1 rel1 q1 => ?_, r, x, bk, fun σ' H' F' ad' e' x1 p1 rel1 q1 => ?_⟩
  · exact n σ' H' F' ad _ x1 (Px.refl _) (Rel.go rel rel1 p1 q1.1) q1.2
  · exact ct σ' H' F' ad _ x1 (Px.refl _) (Rel.go rel rel1 p1 q1.1) q1.2
theorem dss_fr {b : List Stmt} (vs : List Nat) (h : DSs T X W b t) : DSs T X W b (sFr vs t) := ⟨PSs.imp h.pss fun D σ H hh => ls_fr hh⟩
end
theorem i_fr {vs : List Nat} {t : SX} {e : Env} {Po : Post} (h : t e { Po with
  nx := fun e1 => goB vs e.ob.length e1 = true ∧ Po.nx (letGo vs e.ob.length e1)
  ct := fun e1 => goB vs e.ob.length e1 = true ∧ Po.ct (letGo vs e.ob.length e1) }) : sFr vs t e Po := h
end DL
end
section
set_option Elab.async false
set_option linter.all false
set_option autoImplicit false
set_option maxRecDepth 100000
set_option maxHeartbeats 2000000
/-! DLT: displays of data that nothing changes; constant ones. -/
namespace DL
open PySem PySem.Spec L2
open PyProof.Rows hiding St

def eLsV (t : AX) : EX := fun e P R => t e (fun rs e1 => rs.length ≤ sizeLine ∧ ∃ ds, allD e1 rs = some ds ∧ P (.val (.lst ds)) e1) R
section
variable {T : Cn} {X : Cx} {W : WX} {a : Expr} {t : EX} {pos : Pos}
theorem de_lsV {es : List Expr} {u : AX} (h : DA T X W es u) : DE T X W (.List es pos) (eLsV u) := ⟨PE.imp (pe_lst h.pa) fun σ H Q h => by
  obtain ⟨c, F, ad, e, P, R, rel, q, hq, hx⟩ := h
  refine ⟨c, F, ad, e, _, R, rel, q, fun vs H1 F1 ad1 e1 rs x1 p1 rel1 r1 q1 => ?_, hx⟩
  obtain ⟨hl, ds, hd, q2⟩ := q1
  refine ⟨by rw [r1.len]; exact hl, fun p hp => ?_⟩
  exact (hq.mono x1 p1).laid rel1 hp (fun x => rep_lst.mpr ⟨p, vs, rfl, .inl upd_same, (allD_ok rel1 r1 hd).mono x⟩) q2⟩
theorem de_kon {d : D} (h : DE T X W a t) (hk : ∀ e P R, P (.val d) e → t e P R) : DE T X W a (eD d) := ⟨PE.imp h.pe fun σ H Q hh => by
  obtain ⟨c, F, ad, e, P, R, rel, q, hq, hx⟩ := hh
  exact ⟨c, F, ad, e, P, R, rel, hk e P R q, hq, hx⟩⟩
end
theorem i_lsV {a : AX} {e : Env} {P : RV → Env → Prop} {R : Xc → Env → Prop} (h : a e (fun rs e1 => rs.length ≤ sizeLine ∧ ∃ ds, allD e1 rs = some ds ∧ P (.val (.lst ds)) e1) R) : eLsV a e P R := h
theorem i_lsV1 {e : Env} {rs : List RV} {ds : List D} {Z : D → Prop} (hl : rs.length ≤ sizeLine) (hd : allD e rs = some ds) (h : Z (.lst ds)) : rs.length ≤ sizeLine ∧ ∃ ds, allD e rs = some ds ∧ Z (.lst ds) := ⟨hl, ds, hd, h⟩
theorem i_exD {x : List D} {Z : List D → Prop} (h : Z x) : ∃ d, some x = some d ∧ Z d := ⟨x, rfl, h⟩
example : ∀ e P R, P (.val (.lst [.str [61], .lst []])) e → (eLsV (aCons (eD (.str [61])) (aCons (eD (.lst [])) aNil))) e P R := fun _ _ _ h => ⟨small_line (by decide), _, rfl, h⟩
end DL
end
section
set_option Elab.async false
set_option linter.all false
set_option autoImplicit false
set_option maxRecDepth 100000
set_option maxHeartbeats 2000000
/-! DMA: readings that are reckoned: what a piece does as a function of the state (Res, SR), and that the text's piece does it. -/
namespace DL
open PySem PySem.Spec L2
open PyProof.Rows hiding St

/-- what an expression comes to -/
inductive Res (α : Type) where
  | ok (a : α) (e : Env) | xc (x : Xc) (e : Env) | no
/-- what a statement comes to -/
inductive SR where
  | nx (e : Env) | rt (r : RV) (e : Env) | xc (x : Xc) (e : Env) | bk (e : Env) | ct (e : Env) | no
abbrev MF (α : Type) := Env → Res α
abbrev ME := MF RV
abbrev MT := MF Bool
abbrev MA := MF (List RV)
abbrev MS := Env → SR
def Res.post {α : Type} (m : Res α) (P : α → Env → Prop) (R : Xc → Env → Prop) : Prop := match m with
  | .ok a e => P a e
  | .xc x e => R x e
  | .no => False
def Res.bind {α β : Type} (m : Res α) (k : α → Env → Res β) : Res β := match m with
  | .ok a e => k a e
  | .xc x e => .xc x e
  | .no => .no
def Res.run {α : Type} (m : Res α) (k : α → Env → SR) : SR := match m with
  | .ok a e => k a e
  | .xc x e => .xc x e
  | .no => .no
def SR.post (m : SR) (Po : Post) : Prop := match m with
  | .nx e => Po.nx e
  | .rt r e => Po.rt r e
  | .xc x e => Po.xc x e
  | .bk e => Po.bk e
  | .ct e => Po.ct e
  | .no => False
def SR.seq (m : SR) (k : Env → SR) : SR := match m with
  | .nx e => k e
  | .rt r e => .rt r e
  | .xc x e => .xc x e
  | .bk e => .bk e
  | .ct e => .ct e
  | .no => .no
def SR.lp (m : SR) (k : Env → SR) : SR := match m with
  | .nx e => k e
  | .ct e => k e
  | .bk e => .nx e
  | .rt r e => .rt r e
  | .xc x e => .xc x e
  | .no => .no
/-- as a reading -/
def pm {α : Type} (m : MF α) : Env → (α → Env → Prop) → (Xc → Env → Prop) → Prop := fun e P R => (m e).post P R
def ps (m : MS) : SX := fun e Po => (m e).post Po
theorem post_bind {α β : Type} {m : Res α} {k : α → Env → Res β} {P : β → Env → Prop} {R : Xc → Env → Prop} : (m.bind k).post P R = m.post (fun a e => (k a e).post P R) R := by cases m <;> rfl
theorem post_run {α : Type} {m : Res α} {k : α → Env → SR} {Po : Post} : (m.run k).post Po = m.post (fun a e => (k a e).post Po) Po.xc := by cases m <;> rfl
theorem post_seq {m : SR} {k : Env → SR} {Po : Post} : (m.seq k).post Po = m.post { Po with nx := fun e => (k e).post Po } := by cases m <;> rfl
theorem post_lp {m : SR} {k : Env → SR} {Po : Post} : (m.lp k).post Po = m.post { nx := fun e => (k e).post Po, rt := Po.rt, xc := Po.xc, bk := Po.nx, ct := fun e => (k e).post Po } := by cases m <;> rfl
theorem Res.post.mono {α : Type} {m : Res α} {P Q : α → Env → Prop} {R S : Xc → Env → Prop} (h : m.post P R) (g : ∀ a e, P a e → Q a e) (f : ∀ x e, R x e → S x e) : m.post Q S := by
  cases m with
  | ok a e => exact g a e h
  | xc x e => exact f x e h
  | no => exact h

section
variable {T : Cn} {X : Cx} {W : WX} {a b c' : Expr} {pos : Pos}
theorem DE.to {t u : EX} (h : DE T X W a t) (g : ∀ e P R, u e P R → t e P R) : DE T X W a u := ⟨PE.imp h.pe fun σ H Q ⟨c, F, ad, e, P, R, rel, q, x⟩ => ⟨c, F, ad, e, P, R, rel, g e P R q, x⟩⟩
theorem DT.to {t u : TX} (h : DT T X W a t) (g : ∀ e P R, u e P R → t e P R) : DT T X W a u := ⟨PT.imp h.pt fun σ H Q ⟨c, F, ad, e, P, R, rel, q, x⟩ => ⟨c, F, ad, e, P, R, rel, g e P R q, x⟩⟩
theorem DW.to {t u : TX} (h : DW T X W a t) (g : ∀ e P R, u e P R → t e P R) : DW T X W a u := ⟨PW.imp h.pw fun σ H Q ⟨c, F, ad, e, P, R, rel, q, x⟩ => ⟨c, F, ad, e, P, R, rel, g e P R q, x⟩⟩
theorem DO.to {o : Option Expr} {t u : PX} (h : DO T X W o t) (g : ∀ e P R, u e P R → t e P R) : DO T X W o u := ⟨⟨fun pins s σ H Q I ⟨c, F, ad, e, P, R, rel, q, x⟩ => h.po.run pins s σ H Q I ⟨c, F, ad, e, P, R, rel, g e P R q, x⟩⟩⟩
theorem DA.to {es : List Expr} {t u : AX} (h : DA T X W es t) (g : ∀ e P R, u e P R → t e P R) : DA T X W es u := ⟨PA.imp h.pa fun σ H Q ⟨c, F, ad, e, P, R, rel, q, x⟩ => ⟨c, F, ad, e, P, R, rel, g e P R q, x⟩, h.hpl, h.he⟩
theorem DS.to {st : Stmt} {t u : SX} (h : DS T X W st t) (g : ∀ e Po, u e Po → t e Po) : DS T X W st u := ⟨PS.imp h.ps fun D σ H ⟨c, F, ad, e, Po, rel, q, x⟩ => ⟨c, F, ad, e, Po, rel, g e Po q, x⟩⟩
theorem DSs.to {st : List Stmt} {t u : SX} (h : DSs T X W st t) (g : ∀ e Po, u e Po → t e Po) : DSs T X W st u := ⟨PSs.imp h.pss fun D σ H ⟨c, F, ad, e, Po, rel, q, x⟩ => ⟨c, F, ad, e, Po, rel, g e Po q, x⟩⟩

/-! ### names, constants -/
def mVar (i : Nat) : ME := fun e => match e.sl[i]? with
  | some (some r) => .ok r e
  | _ => .no
def mD (d : D) : ME := fun e => .ok (.val d) e
theorem me_of {d : D} (h : DE T X W a (eD d)) : DE T X W a (pm (mD d)) := h
theorem me_var (i : Nat) {x : Str} {pos : Pos} (hN : X.N[i]? = some x := by rfl) (hv : Vis X.env.scope x := by first | exact Or.inl rfl | exact Or.inr (Or.inl rfl) | exact Or.inr (Or.inr rfl)) (hd : (x == ("__debug__" : Str)) = false := by decide)
    (hcd : (x == ("__classdict__" : Str)) = false := by decide) : DE T X W (.Name x pos) (pm (mVar i)) :=
  (de_var (T := T) (X := X) (W := W) i (pos := pos) hN hv hd hcd).to fun e P R h => by
    unfold pm mVar at h
    unfold eVar
    split at h
    · rename_i r hr
      exact ⟨r, hr, h⟩
    · exact h.elim
theorem me_int {i : Int} {j : Nat} : DE T X W (.Constant (.int i) j pos) (pm (mD (.int i))) := de_int
theorem me_bl {i : Bool} {j : Nat} : DE T X W (.Constant (.bool i) j pos) (pm (mD (.bl i))) := de_bl
theorem me_non {j : Nat} : DE T X W (.Constant .none j pos) (pm (mD .non)) := de_non
theorem me_strL {x : Str} {j : Nat} (l : List Nat) (h : x.cps.toList = l := by rfl) : DE T X W (.Constant (.str x) j pos) (pm (mD (.str l))) := de_strL l h
theorem me_gc {x : Str} {d : D} (G : GC T x d) (hg : Gl X x := by rfl) (hM : X.mg = T.mg := by rfl) (hdb : (x == ("__debug__" : Str)) = false := by decide) : DE T X W (.Name x pos) (pm (mD d)) := de_gc G hg hM hdb

/-! ### two operands -/
abbrev OM := Env → RV → RV → Res RV
def m2 (g : OM) (ma mb : ME) : ME := fun e => (ma e).bind fun x e1 => (mb e1).bind fun y e2 => g e2 x y
/-- g reckons what f asks -/
def OJ (f : OX) (g : OM) : Prop := ∀ e x y P R, (g e x y).post P R → f e x y P
theorem op2_to {f : OX} {g : OM} {ma mb : ME} (hg : OJ f g) : ∀ e P R, pm (m2 g ma mb) e P R → op2 f (pm ma) (pm mb) e P R := fun e P R h => by
  unfold pm m2 at h
  rw [post_bind] at h
  refine h.mono (fun x e1 h1 => ?_) fun _ _ h => h
  rw [post_bind] at h1
  exact h1.mono (fun y e2 h2 => hg e2 x y P R h2) fun _ _ h => h
theorem me_2 {f : OX} {g : OM} {ma mb : ME} {z : Expr} (h : DE T X W z (op2 f (pm ma) (pm mb))) (hg : OJ f g) : DE T X W z (pm (m2 g ma mb)) := h.to (op2_to hg)

/-! ints -/
def ixM2 (C : Int → Int → Bool) (g : Int → Int → D) : OM := fun e x y => match dv e x, dv e y with
  | some (.int i), some (.int j) => if C i j = true then .ok (.val (g i j)) e else .no
  | _, _ => .no
theorem oj_ix2 {C : Int → Int → Prop} {C' : Int → Int → Bool} {g : Int → Int → D} (hC : ∀ i j, C' i j = true → C i j) : OJ (ix2 C g) (ixM2 C' g) := fun e x y P R h => by
  unfold ixM2 at h
  split at h
  · rename_i i j h1 h2
    split at h
    · rename_i hc
      exact ⟨i, j, h1, h2, hC i j hc, h⟩
    · exact h.elim
  · exact h.elim
def ixM0 (g : Int → Int → D) : OM := fun e x y => match dv e x, dv e y with
  | some (.int i), some (.int j) => .ok (.val (g i j)) e
  | _, _ => .no
theorem oj_ix0 {g : Int → Int → D} : OJ (ix2 (fun _ _ => True) g) (ixM0 g) := fun e x y P R h => by
  unfold ixM0 at h
  split at h
  · rename_i i j h1 h2
    exact ⟨i, j, h1, h2, trivial, h⟩
  · exact h.elim
def subM : OM := ixM0 fun i j => .int (i - j)
def powM : OM := ixM2 (fun i j => decide (0 ≤ j) && decide (j ≤ 1000000) && decide (i.natAbs < 18446744073709551616)) fun i j => .int (i ^ j.toNat)
def modM : OM := ixM2 (fun _ j => decide (0 < j)) fun i j => .int (i % j)
def fdivM : OM := ixM2 (fun _ j => decide (0 < j) && decide (j < 1073741824)) fun i j => .int (i / j)
def imulM : OM := ixM2 (fun i j => decide (-18446744073709551616 < i) && decide (i < 18446744073709551616) || decide (-18446744073709551616 < j) && decide (j < 18446744073709551616)) fun i j => .int (i * j)
def iltM : OM := ixM0 fun i j => .bl (decide (i < j))
def ileM : OM := ixM0 fun i j => .bl (decide (i ≤ j))
def igtM : OM := ixM0 fun i j => .bl (decide (j < i))
def igeM : OM := ixM0 fun i j => .bl (decide (j ≤ i))
theorem oj_pow : OJ powX powM := oj_ix2 fun i j h => by
  simp only [Bool.and_eq_true, decide_eq_true_eq] at h
  exact ⟨h.1.1, h.1.2, h.2⟩
theorem oj_mod : OJ modX modM := oj_ix2 fun i j h => by simpa using h
theorem oj_fdiv : OJ fdivX fdivM := oj_ix2 fun i j h => by
  simp only [Bool.and_eq_true, decide_eq_true_eq] at h
  exact ⟨h.1, h.2⟩
theorem oj_imul : OJ imulX imulM := oj_ix2 fun i j h => by
  simp only [Bool.and_eq_true, Bool.or_eq_true, decide_eq_true_eq] at h
  exact h
def addM : OM := fun e x y => match dv e x, dv e y with
  | some (.int i), some (.int j) => .ok (.val (.int (i + j))) e
  | some (.str i), some (.str j) => if i.length + j.length ≤ 16777216 then .ok (.val (.str (i ++ j))) e else .no
  | some (.tup i), some (.tup j) => if i.length + j.length ≤ 16777216 then .ok (.val (.tup (i ++ j))) e else .no
  | _, _ => match lsD e x, lsD e y with
    | some i, some j => if i.length + j.length ≤ 16777216 then .ok (.ob e.ob.length) { e with ob := e.ob ++ [.lst (i ++ j)] } else .no
    | _, _ => .no
theorem sl16 {n : Nat} (h : n ≤ 16777216) : n ≤ sizeLine := by
  rw [sizeLine_eq]
  exact h
theorem oj_add : OJ addX addM := fun e x y P R h => by
  unfold addM at h
  split at h
  · rename_i i j h1 h2
    exact .inl ⟨i, j, h1, h2, h⟩
  · rename_i i j h1 h2
    split at h
    · rename_i hs
      exact .inr (.inl ⟨i, j, h1, h2, sl16 hs, h⟩)
    · exact h.elim
  · rename_i i j h1 h2
    split at h
    · rename_i hs
      exact .inr (.inr (.inr ⟨i, j, by unfold tpD; rw [h1], by unfold tpD; rw [h2], sl16 hs, h⟩))
    · exact h.elim
  · split at h
    · rename_i i j h1 h2
      split at h
      · rename_i hs
        exact .inr (.inr (.inl ⟨i, j, h1, h2, sl16 hs, h⟩))
      · exact h.elim
    · exact h.elim
theorem me_add {ma mb : ME} (ha : DE T X W a (pm ma)) (hb : DE T X W b (pm mb)) (hK : X.K = T.K := by rfl) : DE T X W (.BinOp a .Add b pos) (pm (m2 addM ma mb)) := me_2 (de_add ha hb hK) oj_add
theorem me_sub {ma mb : ME} (ha : DE T X W a (pm ma)) (hb : DE T X W b (pm mb)) : DE T X W (.BinOp a .Sub b pos) (pm (m2 subM ma mb)) := me_2 (de_sub ha hb) oj_ix0
theorem me_pow {ma mb : ME} (ha : DE T X W a (pm ma)) (hb : DE T X W b (pm mb)) : DE T X W (.BinOp a .Pow b pos) (pm (m2 powM ma mb)) := me_2 (de_pow ha hb) oj_pow
theorem me_mod {ma mb : ME} (ha : DE T X W a (pm ma)) (hb : DE T X W b (pm mb)) : DE T X W (.BinOp a .Mod b pos) (pm (m2 modM ma mb)) := me_2 (de_mod ha hb) oj_mod
theorem me_fdiv {ma mb : ME} (ha : DE T X W a (pm ma)) (hb : DE T X W b (pm mb)) : DE T X W (.BinOp a .FloorDiv b pos) (pm (m2 fdivM ma mb)) := me_2 (de_fdiv ha hb) oj_fdiv
theorem me_imul {ma mb : ME} (ha : DE T X W a (pm ma)) (hb : DE T X W b (pm mb)) : DE T X W (.BinOp a .Mult b pos) (pm (m2 imulM ma mb)) := me_2 (de_imul ha hb) oj_imul
theorem me_cmp {op : CmpOp} {r : R2} {f : OX} {g : OM} {ma mb : ME} (hr : OpR X (compareOp op) r) (ho : OpD T r f) (hg : OJ f g) (ha : DE T X W a (pm ma)) (hb : DE T X W b (pm mb)) (hm : behindInMarks op b = false := by first | rfl | exact nomark _) : DE T X W (.Compare a [op] [b] pos) (pm (m2 g ma mb)) := me_2 (de_cmp hr ho ha hb hm) hg

/-! ### tests -/
def toBl (r : RV) (e : Env) : Res Bool := match r with
  | .val (.bl b) => .ok b e
  | _ => .no
def mVal (m : ME) : MT := fun e => (m e).bind toBl
theorem val_to {m : ME} : ∀ e P R, pm (mVal m) e P R → tVal (pm m) e P R := fun e P R h => by
  unfold pm mVal at h
  rw [post_bind] at h
  refine h.mono (fun r e1 h1 => ?_) fun _ _ h => h
  unfold toBl at h1
  split at h1
  · exact ⟨_, rfl, h1⟩
  · exact h1.elim
theorem mt_2 {f : OX} {g : OM} {ma mb : ME} {z : Expr} (h : DT T X W z (tVal (op2 f (pm ma) (pm mb)))) (hg : OJ f g) : DT T X W z (pm (mVal (m2 g ma mb))) := h.to fun e P R h => by
  have h' := val_to e P R h
  unfold tVal at h' ⊢
  exact op2_to hg e _ R h'
theorem mt_cmp {op : CmpOp} {r : R2} {f : OX} {g : OM} {ma mb : ME} (hr : OpR X (compareOp op) r) (ho : OpD T r f) (hg : OJ f g) (ha : DE T X W a (pm ma)) (hb : DE T X W b (pm mb)) (hm : behindInMarks op b = false := by first | rfl | exact nomark _) : DT T X W (.Compare a [op] [b] pos) (pm (mVal (m2 g ma mb))) := mt_2 (dt_cmp hr ho ha hb hm) hg
def mAnd (t u : MT) : MT := fun e => (t e).bind fun b e1 => if b = true then u e1 else .ok false e1
def mOr (t u : MT) : MT := fun e => (t e).bind fun b e1 => if b = true then .ok true e1 else u e1
def mNot (t : MT) : MT := fun e => (t e).bind fun b e1 => .ok (!b) e1
variable {rest : List Expr} {ta tb : MT}
theorem mw_and1 (h : DT T X W a (pm ta)) : DW T X W (.BoolOp .And [a] pos) (pm ta) := dw_and1 h
theorem mw_or1 (h : DT T X W a (pm ta)) : DW T X W (.BoolOp .Or [a] pos) (pm ta) := dw_or1 h
theorem post_ite {α : Type} {p : Prop} [Decidable p] {m n : Res α} {P : α → Env → Prop} {R : Xc → Env → Prop} : (if p then m else n).post P R = if p then m.post P R else n.post P R := by split <;> rfl
theorem mw_and (h : DT T X W a (pm ta)) (g : DW T X W (.BoolOp .And (b :: rest) pos) (pm tb)) : DW T X W (.BoolOp .And (a :: b :: rest) pos) (pm (mAnd ta tb)) := (dw_and h g).to fun e P R h => by
  unfold pm mAnd at h
  rw [post_bind] at h
  refine h.mono (fun k e1 h1 => ?_) fun _ _ h => h
  rw [post_ite] at h1
  exact h1
theorem mw_or (h : DT T X W a (pm ta)) (g : DW T X W (.BoolOp .Or (b :: rest) pos) (pm tb)) : DW T X W (.BoolOp .Or (a :: b :: rest) pos) (pm (mOr ta tb)) := (dw_or h g).to fun e P R h => by
  unfold pm mOr at h
  rw [post_bind] at h
  refine h.mono (fun k e1 h1 => ?_) fun _ _ h => h
  rw [post_ite] at h1
  exact h1
theorem mt_not (h : DT T X W a (pm ta)) : DT T X W (.UnaryOp .Not a pos) (pm (mNot ta)) := (dt_not h).to fun e P R h => by
  unfold pm mNot at h
  rw [post_bind] at h
  exact h
/-! as values -/
def mAndV (t u : ME) : ME := fun e => (t e).bind fun r e1 => match r with
  | .val (.bl true) => u e1
  | .val (.bl false) => .ok (.val (.bl false)) e1
  | _ => .no
def mOrV (t u : ME) : ME := fun e => (t e).bind fun r e1 => match r with
  | .val (.bl true) => .ok (.val (.bl true)) e1
  | .val (.bl false) => u e1
  | _ => .no
def mNotV (t : ME) : ME := fun e => (t e).bind fun r e1 => match r with
  | .val (.bl k) => .ok (.val (.bl (!k))) e1
  | _ => .no
variable {xa xb xc : ME}
theorem me_one {op : BoolOp} (h : DE T X W a (pm xa)) : DE T X W (.BoolOp op [a] pos) (pm xa) := de_one h
theorem me_and (h : DE T X W a (pm xa)) (g : DE T X W (.BoolOp .And (b :: rest) pos) (pm xb)) : DE T X W (.BoolOp .And (a :: b :: rest) pos) (pm (mAndV xa xb)) := (de_and h g).to fun e P R h => by
  unfold pm mAndV at h
  rw [post_bind] at h
  refine h.mono (fun r e1 h1 => ?_) fun _ _ h => h
  split at h1
  · exact ⟨true, rfl, by rw [if_pos rfl]; exact h1⟩
  · exact ⟨false, rfl, by rw [if_neg Bool.false_ne_true]; exact h1⟩
  · exact h1.elim
theorem me_or (h : DE T X W a (pm xa)) (g : DE T X W (.BoolOp .Or (b :: rest) pos) (pm xb)) : DE T X W (.BoolOp .Or (a :: b :: rest) pos) (pm (mOrV xa xb)) := (de_or h g).to fun e P R h => by
  unfold pm mOrV at h
  rw [post_bind] at h
  refine h.mono (fun r e1 h1 => ?_) fun _ _ h => h
  split at h1
  · exact ⟨true, rfl, by rw [if_pos rfl]; exact h1⟩
  · exact ⟨false, rfl, by rw [if_neg Bool.false_ne_true]; exact h1⟩
  · exact h1.elim
theorem me_not (h : DE T X W a (pm xa)) : DE T X W (.UnaryOp .Not a pos) (pm (mNotV xa)) := (de_not h).to fun e P R h => by
  unfold pm mNotV at h
  rw [post_bind] at h
  refine h.mono (fun r e1 h1 => ?_) fun _ _ h => h
  split at h1
  · exact ⟨_, rfl, h1⟩
  · exact h1.elim
def mIfE (t : MT) (u w : ME) : ME := fun e => (t e).bind fun b e1 => if b = true then u e1 else w e1
theorem me_if (h : DT T X W c' (pm ta)) (g : DE T X W a (pm xa)) (g2 : DE T X W b (pm xb)) : DE T X W (.IfExp c' a b pos) (pm (mIfE ta xa xb)) := (de_if h g g2).to fun e P R h => by
  unfold pm mIfE at h
  rw [post_bind] at h
  refine h.mono (fun r e1 h1 => ?_) fun _ _ h => h
  rw [post_ite] at h1
  exact h1
def mChain (f g : OM) (ta tb tc : ME) : ME := fun e => (ta e).bind fun x e1 => (tb e1).bind fun y e2 => (f e2 x y).bind fun z e3 => match z with
  | .val (.bl true) => (tc e3).bind fun w e4 => g e4 y w
  | .val (.bl false) => .ok (.val (.bl false)) e3
  | _ => .no
theorem chain_to {f g : OX} {f' g' : OM} (hf : OJ f f') (hg : OJ g g') : ∀ e P R, pm (mChain f' g' xa xb xc) e P R → eChain f g (pm xa) (pm xb) (pm xc) e P R := fun e P R h => by
  unfold pm mChain at h
  rw [post_bind] at h
  refine h.mono (fun x e1 h1 => ?_) fun _ _ h => h
  rw [post_bind] at h1
  refine h1.mono (fun y e2 h2 => ?_) fun _ _ h => h
  rw [post_bind] at h2
  refine hf e2 x y _ R (h2.mono (fun z e3 h3 => ?_) fun _ _ h => h)
  split at h3
  · refine ⟨true, rfl, ?_⟩
    rw [if_pos rfl]
    rw [post_bind] at h3
    exact h3.mono (fun w e4 h4 => hg e4 y w P R h4) fun _ _ h => h
  · exact ⟨false, rfl, by rw [if_neg Bool.false_ne_true]; exact h3⟩
  · exact h3.elim
theorem me_chain {op op' : CmpOp} {r r' : R2} {f g : OX} {f' g' : OM} {c : Expr} (hr : OpR X (compareOp op) r) (ho : OpD T r f) (hf : OJ f f') (hr' : OpR X (compareOp op') r') (ho' : OpD T r' g) (hg : OJ g g') (ha : DE T X W a (pm xa)) (hb : DE T X W b (pm xb)) (hc : DE T X W c (pm xc))
    (hm : lastMarks [op, op'] [b, c] = false := by with_unfolding_all rfl) : DE T X W (.Compare a [op, op'] [b, c] pos) (pm (mChain f' g' xa xb xc)) := (de_chain hr ho hr' ho' ha hb hc hm).to (chain_to hf hg)
theorem mt_chain {op op' : CmpOp} {r r' : R2} {f g : OX} {f' g' : OM} {c : Expr} (hr : OpR X (compareOp op) r) (ho : OpD T r f) (hf : OJ f f') (hr' : OpR X (compareOp op') r') (ho' : OpD T r' g) (hg : OJ g g') (ha : DE T X W a (pm xa)) (hb : DE T X W b (pm xb)) (hc : DE T X W c (pm xc))
    (hm : lastMarks [op, op'] [b, c] = false := by with_unfolding_all rfl) : DT T X W (.Compare a [op, op'] [b, c] pos) (pm (mVal (mChain f' g' xa xb xc))) := (dt_chain hr ho hr' ho' ha hb hc hm).to fun e P R h => by
  have h' := val_to e P R h
  unfold tVal at h' ⊢
  exact chain_to hf hg e _ R h'
end
end DL
end
section
set_option Elab.async false
set_option linter.all false
set_option autoImplicit false
set_option maxRecDepth 100000
set_option maxHeartbeats 2000000
/-! DMB: reckoned readings: equality, membership, items, slices, displays, built-ins, methods. -/
namespace DL
open PySem PySem.Spec L2
open PyProof.Rows hiding St

/-! ### Python's == of data, reckoned -/
def D.b2i (b : Bool) : Int := if b then 1 else 0
mutual
def D.eq : D → D → Bool
  | .non, .non => true
  | .bl a, .bl b => a == b
  | .bl a, .int j => D.b2i a == j
  | .int i, .bl b => i == D.b2i b
  | .int i, .int j => i == j
  | .str x, .str y => x == y
  | .lst xs, .lst ys => eqL xs ys
  | .tup xs, .tup ys => eqL xs ys
  | _, _ => false
def eqL : List D → List D → Bool
  | [], [] => true
  | x :: xs, y :: ys => D.eq x y && eqL xs ys
  | _, _ => false
end
def layB : Nat → D → Bool
  | _, .non => true
  | _, .bl _ => true
  | _, .int _ => true
  | _, .str s => s.all fun c => decide (c < 1114112)
  | n + 1, .lst xs => xs.all (layB n)
  | n + 1, .tup xs => xs.all (layB n)
  | _, _ => false
theorem lay_of : ∀ {n : Nat} {d : D}, layB n d = true → Lay n d
  | n, .non, _ => by cases n <;> trivial
  | n, .bl b, _ => by cases n <;> trivial
  | n, .int i, _ => by cases n <;> trivial
  | n, .str s, h => by cases n <;> simpa [Lay, layB] using h
  | n + 1, .lst xs, h => by
    simp only [layB, List.all_eq_true] at h
    simp only [Lay]
    exact fun d hd => lay_of (h d hd)
  | n + 1, .tup xs, h => by
    simp only [layB, List.all_eq_true] at h
    simp only [Lay]
    exact fun d hd => lay_of (h d hd)
  | 0, .lst xs, h => by simp [layB] at h
  | 0, .tup xs, h => by simp [layB] at h
  | n, .dic _, h => by cases n <;> simp [layB] at h
  | n, .ins _ _, h => by cases n <;> simp [layB] at h
  | n, .glo _, h => by cases n <;> simp [layB] at h
  | n, .exn _ _ _ _, h => by cases n <;> simp [layB] at h
theorem S_beq (x y : List Nat) : (S x == S y) = (x == y) := by
  rw [Bool.eq_iff_iff, beq_iff_eq, beq_iff_eq]
  exact ⟨S_inj, fun h => by rw [h]⟩
theorem b2i_eq (b : Bool) : D.b2i b = if b = true then 1 else 0 := rfl
mutual
theorem eqv_eq : ∀ {n m : Nat} (a b : D), layB n a = true → layB m b = true → eqv a b = D.eq a b
  | n, m, .lst xs, .lst ys, h, k => by
    unfold eqv
    rw [D.py, D.py, PyData.eqv, D.eq]
    cases n with
    | zero => simp [layB] at h
    | succ n =>
      cases m with
      | zero => simp [layB] at k
      | succ m =>
        simp only [layB, List.all_eq_true] at h k
        exact eqvL_eq xs ys h k
  | n, m, .tup xs, .tup ys, h, k => by
    unfold eqv
    rw [D.py, D.py, PyData.eqv, D.eq]
    cases n with
    | zero => simp [layB] at h
    | succ n =>
      cases m with
      | zero => simp [layB] at k
      | succ m =>
        simp only [layB, List.all_eq_true] at h k
        exact eqvL_eq xs ys h k
  | n, m, .str x, .str y, _, _ => by
    unfold eqv
    rw [D.py, D.py, PyData.eqv, D.eq]
    exact S_beq x y
  | _, _, .non, .non, _, _ => by simp [eqv, D.py, PyData.eqv, D.eq]
  | _, _, .non, .bl _, _, _ => by simp [eqv, D.py, PyData.eqv, D.eq]
  | _, _, .non, .int _, _, _ => by simp [eqv, D.py, PyData.eqv, D.eq]
  | _, _, .non, .str _, _, _ => by simp [eqv, D.py, PyData.eqv, D.eq]
  | _, _, .non, .lst _, _, _ => by simp [eqv, D.py, PyData.eqv, D.eq]
  | _, _, .non, .tup _, _, _ => by simp [eqv, D.py, PyData.eqv, D.eq]
  | _, _, .bl _, .non, _, _ => by simp [eqv, D.py, PyData.eqv, D.eq]
  | _, _, .bl _, .bl _, _, _ => by simp [eqv, D.py, PyData.eqv, D.eq]
  | _, _, .bl a, .int _, _, _ => by cases a <;> simp [eqv, D.py, PyData.eqv, D.eq, D.b2i]
  | _, _, .bl _, .str _, _, _ => by simp [eqv, D.py, PyData.eqv, D.eq]
  | _, _, .bl _, .lst _, _, _ => by simp [eqv, D.py, PyData.eqv, D.eq]
  | _, _, .bl _, .tup _, _, _ => by simp [eqv, D.py, PyData.eqv, D.eq]
  | _, _, .int _, .non, _, _ => by simp [eqv, D.py, PyData.eqv, D.eq]
  | _, _, .int _, .bl b, _, _ => by cases b <;> simp [eqv, D.py, PyData.eqv, D.eq, D.b2i]
  | _, _, .int _, .int _, _, _ => by simp [eqv, D.py, PyData.eqv, D.eq]
  | _, _, .int _, .str _, _, _ => by simp [eqv, D.py, PyData.eqv, D.eq]
  | _, _, .int _, .lst _, _, _ => by simp [eqv, D.py, PyData.eqv, D.eq]
  | _, _, .int _, .tup _, _, _ => by simp [eqv, D.py, PyData.eqv, D.eq]
  | _, _, .str _, .non, _, _ => by simp [eqv, D.py, PyData.eqv, D.eq]
  | _, _, .str _, .bl _, _, _ => by simp [eqv, D.py, PyData.eqv, D.eq]
  | _, _, .str _, .int _, _, _ => by simp [eqv, D.py, PyData.eqv, D.eq]
  | _, _, .str _, .lst _, _, _ => by simp [eqv, D.py, PyData.eqv, D.eq]
  | _, _, .str _, .tup _, _, _ => by simp [eqv, D.py, PyData.eqv, D.eq]
  | _, _, .lst _, .non, _, _ => by simp [eqv, D.py, PyData.eqv, D.eq]
  | _, _, .lst _, .bl _, _, _ => by simp [eqv, D.py, PyData.eqv, D.eq]
  | _, _, .lst _, .int _, _, _ => by simp [eqv, D.py, PyData.eqv, D.eq]
  | _, _, .lst _, .str _, _, _ => by simp [eqv, D.py, PyData.eqv, D.eq]
  | _, _, .lst _, .tup _, _, _ => by simp [eqv, D.py, PyData.eqv, D.eq]
  | _, _, .tup _, .non, _, _ => by simp [eqv, D.py, PyData.eqv, D.eq]
  | _, _, .tup _, .bl _, _, _ => by simp [eqv, D.py, PyData.eqv, D.eq]
  | _, _, .tup _, .int _, _, _ => by simp [eqv, D.py, PyData.eqv, D.eq]
  | _, _, .tup _, .str _, _, _ => by simp [eqv, D.py, PyData.eqv, D.eq]
  | _, _, .tup _, .lst _, _, _ => by simp [eqv, D.py, PyData.eqv, D.eq]
  | n, _, .dic _, _, h, _ => by cases n <;> simp [layB] at h
  | n, _, .ins _ _, _, h, _ => by cases n <;> simp [layB] at h
  | n, _, .glo _, _, h, _ => by cases n <;> simp [layB] at h
  | n, _, .exn _ _ _ _, _, h, _ => by cases n <;> simp [layB] at h
  | _, m, _, .dic _, _, h => by cases m <;> simp [layB] at h
  | _, m, _, .ins _ _, _, h => by cases m <;> simp [layB] at h
  | _, m, _, .glo _, _, h => by cases m <;> simp [layB] at h
  | _, m, _, .exn _ _ _ _, _, h => by cases m <;> simp [layB] at h
theorem eqvL_eq : ∀ {n m : Nat} (xs ys : List D), (∀ x ∈ xs, layB n x = true) → (∀ y ∈ ys, layB m y = true) → PyData.eqvAll (pyL xs) (pyL ys) = eqL xs ys
  | _, _, [], [], _, _ => by rw [pyL, PyData.eqvAll, eqL]
  | _, _, [], y :: ys, _, _ => by rw [pyL, pyL, PyData.eqvAll, eqL] <;> simp
  | _, _, x :: xs, [], _, _ => by rw [pyL, pyL, PyData.eqvAll, eqL] <;> simp
  | n, m, x :: xs, y :: ys, h, k => by
    rw [pyL, pyL, PyData.eqvAll, eqL]
    have e1 : PyData.eqv x.py y.py = D.eq x y := eqv_eq x y (h x List.mem_cons_self) (k y List.mem_cons_self)
    rw [e1, eqvL_eq xs ys (fun z hz => h z (List.mem_cons_of_mem _ hz)) (fun z hz => k z (List.mem_cons_of_mem _ hz))]
end
theorem eqL_cons (x y : D) (xs ys : List D) : eqL (x :: xs) (y :: ys) = (D.eq x y && eqL xs ys) := by rw [eqL]
/-- plain: two of these are equal only if they are the same -/
def plB : Nat → D → Bool
  | _, .non => true
  | _, .int _ => true
  | _, .str _ => true
  | n + 1, .lst xs => xs.all (plB n)
  | n + 1, .tup xs => xs.all (plB n)
  | _, _ => false
mutual
theorem eq_refl : ∀ {n : Nat} (a : D), layB n a = true → D.eq a a = true
  | n, .non, _ => by simp [D.eq]
  | n, .bl b, _ => by simp [D.eq]
  | n, .int i, _ => by simp [D.eq]
  | n, .str s, _ => by simp [D.eq]
  | n + 1, .lst xs, h => by
    simp only [layB, List.all_eq_true] at h
    rw [D.eq]
    exact eqL_refl xs h
  | n + 1, .tup xs, h => by
    simp only [layB, List.all_eq_true] at h
    rw [D.eq]
    exact eqL_refl xs h
  | 0, .lst xs, h => by simp [layB] at h
  | 0, .tup xs, h => by simp [layB] at h
  | n, .dic _, h => by cases n <;> simp [layB] at h
  | n, .ins _ _, h => by cases n <;> simp [layB] at h
  | n, .glo _, h => by cases n <;> simp [layB] at h
  | n, .exn _ _ _ _, h => by cases n <;> simp [layB] at h
theorem eqL_refl : ∀ {n : Nat} (xs : List D), (∀ x ∈ xs, layB n x = true) → eqL xs xs = true
  | _, [], _ => by rw [eqL]
  | n, x :: xs, h => by
    rw [eqL, eq_refl x (h x List.mem_cons_self), eqL_refl xs fun z hz => h z (List.mem_cons_of_mem _ hz)]
    rfl
end
mutual
theorem eq_same : ∀ {n : Nat} {a b : D}, plB n a = true → plB n b = true → D.eq a b = true → a = b
  | n + 1, .lst xs, .lst ys, h, k, e => by
    simp only [plB, List.all_eq_true] at h k
    rw [D.eq] at e
    rw [eqL_same h k e]
  | n + 1, .tup xs, .tup ys, h, k, e => by
    simp only [plB, List.all_eq_true] at h k
    rw [D.eq] at e
    rw [eqL_same h k e]
  | _, .non, .non, _, _, _ => rfl
  | _, .int i, .int j, _, _, e => by
    rw [D.eq] at e
    rw [beq_iff_eq.mp e]
  | _, .str i, .str j, _, _, e => by
    rw [D.eq] at e
    rw [beq_iff_eq.mp e]
  | _, .non, .int _, _, _, e => by simp [D.eq] at e
  | _, .non, .str _, _, _, e => by simp [D.eq] at e
  | _, .non, .lst _, _, _, e => by simp [D.eq] at e
  | _, .non, .tup _, _, _, e => by simp [D.eq] at e
  | _, .int _, .non, _, _, e => by simp [D.eq] at e
  | _, .int _, .str _, _, _, e => by simp [D.eq] at e
  | _, .int _, .lst _, _, _, e => by simp [D.eq] at e
  | _, .int _, .tup _, _, _, e => by simp [D.eq] at e
  | _, .str _, .non, _, _, e => by simp [D.eq] at e
  | _, .str _, .int _, _, _, e => by simp [D.eq] at e
  | _, .str _, .lst _, _, _, e => by simp [D.eq] at e
  | _, .str _, .tup _, _, _, e => by simp [D.eq] at e
  | _, .lst _, .non, _, _, e => by simp [D.eq] at e
  | _, .lst _, .int _, _, _, e => by simp [D.eq] at e
  | _, .lst _, .str _, _, _, e => by simp [D.eq] at e
  | _, .lst _, .tup _, _, _, e => by simp [D.eq] at e
  | _, .tup _, .non, _, _, e => by simp [D.eq] at e
  | _, .tup _, .int _, _, _, e => by simp [D.eq] at e
  | _, .tup _, .str _, _, _, e => by simp [D.eq] at e
  | _, .tup _, .lst _, _, _, e => by simp [D.eq] at e
  | 0, .lst xs, _, h, _, _ => by simp [plB] at h
  | 0, .tup xs, _, h, _, _ => by simp [plB] at h
  | n, .bl _, _, h, _, _ => by cases n <;> simp [plB] at h
  | n, .dic _, _, h, _, _ => by cases n <;> simp [plB] at h
  | n, .ins _ _, _, h, _, _ => by cases n <;> simp [plB] at h
  | n, .glo _, _, h, _, _ => by cases n <;> simp [plB] at h
  | n, .exn _ _ _ _, _, h, _, _ => by cases n <;> simp [plB] at h
  | n, _, .bl _, _, h, _ => by cases n <;> simp [plB] at h
  | n, _, .dic _, _, h, _ => by cases n <;> simp [plB] at h
  | n, _, .ins _ _, _, h, _ => by cases n <;> simp [plB] at h
  | n, _, .glo _, _, h, _ => by cases n <;> simp [plB] at h
  | n, _, .exn _ _ _ _, _, h, _ => by cases n <;> simp [plB] at h
theorem eqL_same : ∀ {n : Nat} {xs ys : List D}, (∀ x ∈ xs, plB n x = true) → (∀ y ∈ ys, plB n y = true) → eqL xs ys = true → xs = ys
  | _, [], [], _, _, _ => rfl
  | _, [], _ :: _, _, _, e => by simp [eqL] at e
  | _, _ :: _, [], _, _, e => by simp [eqL] at e
  | n, x :: xs, y :: ys, h, k, e => by
    rw [eqL, Bool.and_eq_true] at e
    rw [eq_same (h x List.mem_cons_self) (k y List.mem_cons_self) e.1, eqL_same (fun z hz => h z (List.mem_cons_of_mem _ hz)) (fun z hz => k z (List.mem_cons_of_mem _ hz)) e.2]
end
end DL
end
section
set_option Elab.async false
set_option linter.all false
set_option autoImplicit false
set_option maxRecDepth 100000
set_option maxHeartbeats 2000000
/-! DMC: reckoned readings: ==, in, items, slices, arguments, displays, built-ins. -/
namespace DL
open PySem PySem.Spec L2
open PyProof.Rows hiding St
section
variable {T : Cn} {X : Cx} {W : WX} {a b c' : Expr} {pos : Pos} {ma mb : ME}
/-! ### == -/
def ng (neg b : Bool) : Bool := if neg then !b else b
@[simp] theorem ng_t (b : Bool) : ng true b = !b := rfl
@[simp] theorem ng_f (b : Bool) : ng false b = b := rfl
def eqM (neg : Bool) : OM := fun e x y => match dv e x, dv e y with
  | some (.str i), some (.str j) => .ok (.val (.bl (ng neg (i == j)))) e
  | _, _ => match rd e x, rd e y with
    | some i, some j => if layB 60 i = true ∧ layB 60 j = true then .ok (.val (.bl (ng neg (D.eq i j)))) e else .no
    | _, _ => .no
theorem oj_eq {neg : Bool} : OJ (eqX neg) (eqM neg) := fun e x y P R h => by
  unfold eqM at h
  split at h
  · rename_i i j h1 h2
    refine .inr ⟨i, j, h1, h2, ?_⟩
    rw [show (if neg = true then !decide (i = j) else decide (i = j)) = ng neg (i == j) by cases neg <;> simp [ng, Bool.beq_eq_decide_eq]]
    exact h
  · split at h
    · rename_i i j h1 h2
      split at h
      · rename_i hl
        refine .inl ⟨i, j, h1, h2, lay_of hl.1, lay_of hl.2, ?_⟩
        rw [eqv_eq i j hl.1 hl.2]
        exact h
      · exact h.elim
    · exact h.elim
theorem me_eq (hu : U X) (ha : DE T X W a (pm ma)) (hb : DE T X W b (pm mb)) (hK : X.K = T.K := by rfl) : DE T X W (.Compare a [.Eq] [b] pos) (pm (m2 (eqM false) ma mb)) := me_2 (de_eq hu ha hb hK) oj_eq
theorem me_ne (hu : U X) (ha : DE T X W a (pm ma)) (hb : DE T X W b (pm mb)) (hK : X.K = T.K := by rfl) : DE T X W (.Compare a [.NotEq] [b] pos) (pm (m2 (eqM true) ma mb)) := me_2 (de_ne hu ha hb hK) oj_eq
theorem mt_eq (hu : U X) (ha : DE T X W a (pm ma)) (hb : DE T X W b (pm mb)) (hK : X.K = T.K := by rfl) : DT T X W (.Compare a [.Eq] [b] pos) (pm (mVal (m2 (eqM false) ma mb))) := mt_2 (dt_eq hu ha hb hK) oj_eq
theorem mt_ne (hu : U X) (ha : DE T X W a (pm ma)) (hb : DE T X W b (pm mb)) (hK : X.K = T.K := by rfl) : DT T X W (.Compare a [.NotEq] [b] pos) (pm (mVal (m2 (eqM true) ma mb))) := mt_2 (dt_ne hu ha hb hK) oj_eq
/-! is None -/
def isNM (neg : Bool) (ma : ME) : ME := fun e => (ma e).bind fun r e1 => match dv e1 r with
  | some d => .ok (.val (.bl (ng neg d.isN))) e1
  | none => .no
theorem isN_to {neg : Bool} : ∀ e P R, pm (isNM neg ma) e P R → isNX neg (pm ma) e P R := fun e P R h => by
  unfold pm isNM at h
  rw [post_bind] at h
  refine h.mono (fun r e1 h1 => ?_) fun _ _ h => h
  split at h1
  · rename_i d hd
    exact ⟨d, hd, h1⟩
  · exact h1.elim
theorem me_isN {j : Nat} {p2 : Pos} (ha : DE T X W a (pm ma)) : DE T X W (.Compare a [.Is] [.Constant .none j p2] pos) (pm (isNM false ma)) := (de_isN ha).to isN_to
theorem me_notN {j : Nat} {p2 : Pos} (ha : DE T X W a (pm ma)) : DE T X W (.Compare a [.IsNot] [.Constant .none j p2] pos) (pm (isNM true ma)) := (de_notN ha).to isN_to
theorem mt_isN {j : Nat} {p2 : Pos} (ha : DE T X W a (pm ma)) : DT T X W (.Compare a [.Is] [.Constant .none j p2] pos) (pm (mVal (isNM false ma))) := (dt_isN ha).to fun e P R h => by
  have h' := val_to e P R h
  unfold tVal at h' ⊢
  exact isN_to e _ R h'
theorem mt_notN {j : Nat} {p2 : Pos} (ha : DE T X W a (pm ma)) : DT T X W (.Compare a [.IsNot] [.Constant .none j p2] pos) (pm (mVal (isNM true ma))) := (dt_notN ha).to fun e P R h => by
  have h' := val_to e P R h
  unfold tVal at h' ⊢
  exact isN_to e _ R h'
/-! ### in -/
def memL (i : D) : List D → Bool
  | [] => false
  | z :: zs => D.eq z i || memL i zs
theorem memL_any (i : D) (js : List D) : memL i js = js.any fun z => D.eq z i := by
  induction js with
  | nil => rfl
  | cons z zs ih => rw [memL, List.any_cons, ih]
def inM (neg : Bool) : OM := fun e x y => match dv e x, dv e y with
  | some (.str [c]), some (.str z) => .ok (.val (.bl (ng neg (z.contains c)))) e
  | _, _ => match rd e x, rd e y with
    | some i, some d => (match items d with
      | some js => if layB 59 i = true ∧ js.all (layB 59) = true then .ok (.val (.bl (ng neg (memL i js)))) e else .no
      | none => .no)
    | _, _ => .no
theorem oj_in {neg : Bool} : OJ (inX neg) (inM neg) := fun e x y P R h => by
  unfold inM at h
  split at h
  · rename_i c z h1 h2
    refine .inl ⟨c, z, h1, h2, ?_⟩
    have e1 : z.contains c = decide (c ∈ z) := by
      rw [Bool.eq_iff_iff, List.contains_iff_mem, decide_eq_true_eq]
    rw [e1] at h
    exact h
  · split at h
    · rename_i i d h1 h2
      split at h
      · rename_i js h3
        split at h
        · rename_i hl
          have hl2 := List.all_eq_true.mp hl.2
          refine .inr ⟨i, d, js, h1, h2, h3, lay_of hl.1, fun j hj => lay_of (hl2 j hj), ?_⟩
          have e1 : (js.any fun z => eqv z i) = memL i js := by
            rw [memL_any]
            have : ∀ l : List D, (∀ j ∈ l, layB 59 j = true) → (l.any fun z => eqv z i) = l.any fun z => D.eq z i := by
              intro l
              induction l with
              | nil => intro _; rfl
              | cons z zs ih =>
                intro hh
                rw [List.any_cons, List.any_cons, ih fun j hj => hh j (List.mem_cons_of_mem _ hj), eqv_eq z i (hh z List.mem_cons_self) hl.1]
            exact this js hl2
          rw [e1]
          exact h
        · exact h.elim
      · exact h.elim
    · exact h.elim
theorem me_in (hu : U X) (ha : DE T X W a (pm ma)) (hb : DE T X W b (pm mb)) (hK : X.K = T.K := by rfl) (hm : behindInMarks .In b = false := by rfl) : DE T X W (.Compare a [.In] [b] pos) (pm (m2 (inM false) ma mb)) := me_2 (de_in hu ha hb hK hm) oj_in
theorem me_nin (hu : U X) (ha : DE T X W a (pm ma)) (hb : DE T X W b (pm mb)) (hK : X.K = T.K := by rfl) (hm : behindInMarks .NotIn b = false := by rfl) : DE T X W (.Compare a [.NotIn] [b] pos) (pm (m2 (inM true) ma mb)) := me_2 (de_nin hu ha hb hK hm) oj_in
theorem mt_in (hu : U X) (ha : DE T X W a (pm ma)) (hb : DE T X W b (pm mb)) (hK : X.K = T.K := by rfl) (hm : behindInMarks .In b = false := by rfl) : DT T X W (.Compare a [.In] [b] pos) (pm (mVal (m2 (inM false) ma mb))) := mt_2 (dt_in hu ha hb hK hm) oj_in
theorem mt_nin (hu : U X) (ha : DE T X W a (pm ma)) (hb : DE T X W b (pm mb)) (hK : X.K = T.K := by rfl) (hm : behindInMarks .NotIn b = false := by rfl) : DT T X W (.Compare a [.NotIn] [b] pos) (pm (mVal (m2 (inM true) ma mb))) := mt_2 (dt_nin hu ha hb hK hm) oj_in
/-! ### items -/
/-- the item at i, from behind below 0 -/
def atZ {α : Type} (xs : List α) (i : Int) : Option α := if 0 ≤ i then xs[i.toNat]? else if -(xs.length : Int) ≤ i then xs[(i + xs.length).toNat]? else none
theorem atZ_ok {α : Type} {xs : List α} {i : Int} {x : α} (h : atZ xs i = some x) : L2.atI xs i = some x := by
  unfold atZ at h
  unfold L2.atI
  split at h
  · rename_i h0
    have hlt := (List.getElem?_eq_some_iff.mp h).1
    have e : ixN xs.length i = some i.toNat := by
      unfold ixN
      simp only [h0, if_pos]
      first
        | rfl
        | (split <;> first | rfl | omega)
        | (rw [if_pos (by omega)])
    rw [e]
    exact h
  · rename_i h0
    split at h
    · rename_i h1
      have e : ixN xs.length i = some (i + xs.length).toNat := by
        unfold ixN
        simp only [h0, if_neg, not_false_eq_true]
        first
          | rfl
          | (split <;> first | rfl | omega)
          | (rw [if_pos (by omega)])
      rw [e]
      exact h
    · cases h
def ixM : OM := fun e x y => match dv e y with
  | some (.int i) => (match dv e x with
    | some (.str s) => if s.length ≤ 16777216 then (match atZ s i with
      | some k => .ok (.val (.str [k])) e
      | none => .no) else .no
    | _ => match sqD e x with
      | some ds => (match atZ ds i with
        | some d => .ok (.val d) e
        | none => .no)
      | none => .no)
  | _ => .no
theorem oj_ix : OJ ixX ixM := fun e x y P R h => by
  unfold ixM at h
  split at h
  · rename_i i h2
    split at h
    · rename_i s h1
      split at h
      · rename_i hz
        split at h
        · rename_i k hk
          exact .inr ⟨s, i, k, h1, h2, sl16 hz, atZ_ok hk, h⟩
        · exact h.elim
      · exact h.elim
    · split at h
      · rename_i ds h1
        split at h
        · rename_i d hd
          exact .inl ⟨ds, i, d, h1, h2, atZ_ok hd, h⟩
        · exact h.elim
      · exact h.elim
  · exact h.elim
theorem me_ix (ha : DE T X W a (pm ma)) (hb : DE T X W b (pm mb)) (hK : X.K = T.K := by rfl) (hs : PlainIx b := by exact fun _ _ => rfl) : DE T X W (.Subscript a b pos) (pm (m2 ixM ma mb)) := me_2 (de_ix ha hb hK hs) oj_ix
/-! ### slices -/
abbrev MP := MF (Option Int)
def mNone : MP := fun e => .ok none e
def mSome (m : ME) : MP := fun e => (m e).bind fun r e1 => match dv e1 r with
  | some (.int i) => .ok (some i) e1
  | _ => .no
theorem mo_none : DO T X W none (pm mNone) := do_none.to fun e P R h => h
theorem mo_some (ha : DE T X W a (pm ma)) : DO T X W (some a) (pm (mSome ma)) := (do_some ha).to fun e P R h => by
  unfold pm mSome at h
  rw [post_bind] at h
  refine h.mono (fun r e1 h1 => ?_) fun _ _ h => h
  split at h1
  · rename_i i hi
    exact ⟨i, hi, h1⟩
  · exact h1.elim
/-- a slice; of a list: data (own: an object) -/
def slM (own : Bool) : Env → RV → Option Int → Option Int → Res RV := fun e x lo hi => match dv e x with
  | some (.str s) => if s.length ≤ 16777216 then .ok (.val (.str (cut s lo hi))) e else .no
  | some (.tup ds) => .ok (.val (.tup (cut ds lo hi))) e
  | _ => match lsD e x with
    | some ds => if own = true then .ok (.ob e.ob.length) { e with ob := e.ob ++ [.lst (cut ds lo hi)] } else .ok (.val (.lst (cut ds lo hi))) e
    | none => .no
def mSl (own : Bool) (ma : ME) (ml mh : MP) : ME := fun e => (ma e).bind fun x e1 => (ml e1).bind fun lo e2 => (mh e2).bind fun hi e3 => slM own e3 x lo hi
theorem me_sl {own : Bool} {lo hi : Option Expr} {tl th : MP} {p2 : Pos} (ha : DE T X W a (pm ma)) (hl : DO T X W lo (pm tl)) (hh : DO T X W hi (pm th)) (hK : X.K = T.K := by rfl) : DE T X W (.Subscript a (.Slice lo hi none p2) pos) (pm (mSl own ma tl th)) := ⟨PE.imp (pe_slice sl_3 ha.pe hl.po hh.po) fun σ H Q h => by
  obtain ⟨c, F, ad, e, P, R, rel, q, hq, hx⟩ := h
  unfold pm mSl at q
  rw [post_bind] at q
  refine ⟨c, F, ad, e, _, R, rel, q, fun v H1 F1 ad1 e1 r x1 p1 rel1 r1 q1 => ?_, hx⟩
  try dsimp only at q1
  rw [post_bind] at q1
  refine ⟨c, F1, ad1, e1, _, R, rel1, q1, fun lo H2 F2 ad2 e2 x2 p2 rel2 q2 => ?_, hx.mono x1 p1⟩
  try dsimp only at q2
  rw [post_bind] at q2
  refine ⟨c, F2, ad2, e2, _, R, rel2, q2, fun hi H3 F3 ad3 e3 x3 p3 rel3 q3 => ?_, hx.mono (x1.trans x2) (p1.trans p2)⟩
  have r3 := r1.mono (x2.trans x3) (p2.trans p3)
  have hq3 := hq.mono ((x1.trans x2).trans x3) ((p1.trans p2).trans p3)
  rw [hK]
  unfold slM at q3
  split at q3
  · rename_i s h1
    split at q3
    · rename_i hl
      refine .inr (.inr ⟨S s, rep_str.mp (dv_ok rel3 r3 h1), by rw [S_len]; exact sl16 hl, hq3.val rel3 (rep_str.mpr ?_) q3⟩)
      unfold cutS cut
      rw [S_len]
      rfl
    · exact q3.elim
  · rename_i ds h1
    obtain ⟨a, vs, rfl, g1, g2⟩ := tpD_ok rel3 r3 (show tpD e3 r = some ds by unfold tpD; rw [h1])
    refine .inr (.inl ⟨a, vs, rfl, rel3.fh.sqt g1, fun hw => ?_, fun _ p hp' => ?_⟩)
    · have e0 : cut ds lo hi = ds := by
        unfold cut
        rw [← g2.len, hw.1, hw.2, List.drop_zero, Nat.sub_zero, g2.len, List.take_length]
      rw [e0] at q3
      exact hq3.val rel3 (rep_tup.mpr ⟨a, vs, rfl, g1, g2⟩) q3
    · exact hq3.laid rel3 hp' (fun x1 => rep_tup.mpr ⟨p, _, rfl, .inl (.inl upd_same), (g2.cut lo hi).mono x1⟩) q3
  · split at q3
    · rename_i ds h1
      obtain ⟨a, vs, rfl, g1, g2⟩ := lsD_ok rel3 r3 h1
      split at q3
      · exact .inl ⟨a, vs, rfl, .inl g1, fun p hp' => hq3.new (o := .lst (cut ds lo hi)) rel3 hp' (fun fp bp => ⟨fp, bp, _, upd_same, g2.cut lo hi⟩) q3⟩
      · exact .inl ⟨a, vs, rfl, .inl g1, fun p hp' => hq3.laid rel3 hp' (fun x1 => rep_lst.mpr ⟨p, _, rfl, .inl upd_same, (g2.cut lo hi).mono x1⟩) q3⟩
    · exact q3.elim⟩
/-! ### + in value mode: lists as data -/
def addV : OM := fun e x y => match dv e x, dv e y with
  | some (.int i), some (.int j) => .ok (.val (.int (i + j))) e
  | some (.str i), some (.str j) => if i.length + j.length ≤ 16777216 then .ok (.val (.str (i ++ j))) e else .no
  | some (.tup i), some (.tup j) => if i.length + j.length ≤ 16777216 then .ok (.val (.tup (i ++ j))) e else .no
  | _, _ => match lsD e x, lsD e y with
    | some i, some j => if i.length + j.length ≤ 16777216 then .ok (.val (.lst (i ++ j))) e else .no
    | _, _ => .no
def addVX : OX := fun e x y P => addX e x y P ∨ (∃ i j, lsD e x = some i ∧ lsD e y = some j ∧ i.length + j.length ≤ sizeLine ∧ P (.val (.lst (i ++ j))) e)
theorem ad_addV {K : PySem.W.Frag} (hK : K = T.K) : OpD T (rAddD K) addVX := by
  subst hK
  intro c F ad e σ H x y rx ry P Q rel r1 r2 h q
  rcases h with h | ⟨i, j, h1, h2, hl, hp⟩
  · exact ad_add rfl c F ad e σ H x y rx ry P Q rel r1 r2 h q
  · obtain ⟨a, vs, rfl, g1, g2⟩ := lsD_ok rel r1 h1
    obtain ⟨b, ws, rfl, k1, k2⟩ := lsD_ok rel r2 h2
    refine .inr (.inr (.inl ⟨a, b, vs, ws, rfl, rfl, g1, k1, by rw [g2.len, k2.len]; exact hl, fun p hp' => ?_⟩))
    exact q.laid rel hp' (fun x1 => rep_lst.mpr ⟨p, _, rfl, .inl upd_same, (g2.append k2).mono x1⟩) hp
theorem oj_addV : OJ addVX addV := fun e x y P R h => by
  unfold addV at h
  split at h
  · rename_i i j h1 h2
    exact .inl (.inl ⟨i, j, h1, h2, h⟩)
  · rename_i i j h1 h2
    split at h
    · rename_i hs
      exact .inl (.inr (.inl ⟨i, j, h1, h2, sl16 hs, h⟩))
    · exact h.elim
  · rename_i i j h1 h2
    split at h
    · rename_i hs
      exact .inl (.inr (.inr (.inr ⟨i, j, by unfold tpD; rw [h1], by unfold tpD; rw [h2], sl16 hs, h⟩)))
    · exact h.elim
  · split at h
    · rename_i i j h1 h2
      split at h
      · rename_i hs
        exact .inr ⟨i, j, h1, h2, sl16 hs, h⟩
      · exact h.elim
    · exact h.elim
theorem me_addV (ha : DE T X W a (pm ma)) (hb : DE T X W b (pm mb)) (hK : X.K = T.K := by rfl) : DE T X W (.BinOp a .Add b pos) (pm (m2 addV ma mb)) := me_2 (de_op op_addD (ad_addV hK) ha hb) oj_addV
/-! ### arguments, displays -/
def mNil : MA := fun e => .ok [] e
def mCons (m : ME) (u : MA) : MA := fun e => (m e).bind fun r e1 => (u e1).bind fun rs e2 => .ok (r :: rs) e2
theorem ma_nil : DA T X W [] (pm mNil) := da_nil.to fun e P R h => h
theorem ma_cons {es : List Expr} {u : MA} (ha : DE T X W a (pm ma)) (hr : DA T X W es (pm u)) (hs : starEach (a :: es) X.env = (false, eval a X.env) :: starEach es X.env := by rfl) : DA T X W (a :: es) (pm (mCons ma u)) := (da_cons ha hr hs).to fun e P R h => by
  unfold pm mCons at h
  rw [post_bind] at h
  refine h.mono (fun r e1 h1 => ?_) fun _ _ h => h
  rw [post_bind] at h1
  exact h1
/-- [..] as an object; as data -/
def mLst (u : MA) : ME := fun e => (u e).bind fun rs e1 => if rs.length ≤ 16777216 then .ok (.ob e1.ob.length) { e1 with ob := e1.ob ++ [match allD e1 rs with | some ds => .lst ds | none => .lsr rs] } else .no
def mLstV (u : MA) : ME := fun e => (u e).bind fun rs e1 => if rs.length ≤ 16777216 then (match allD e1 rs with
  | some ds => .ok (.val (.lst ds)) e1
  | none => .no) else .no
def mTup (u : MA) : ME := fun e => (u e).bind fun rs e1 => if rs.length ≤ 16777216 then (match allD e1 rs with
  | some ds => .ok (.val (.tup ds)) e1
  | none => .ok (.ob e1.ob.length) { e1 with ob := e1.ob ++ [.tpr rs] }) else .no
variable {es : List Expr} {u : MA}
theorem me_lst (h : DA T X W es (pm u)) : DE T X W (.List es pos) (pm (mLst u)) := (de_lst h).to fun e P R h => by
  unfold pm mLst at h
  rw [post_bind] at h
  refine h.mono (fun rs e1 h1 => ?_) fun _ _ h => h
  split at h1
  · rename_i hl
    exact ⟨sl16 hl, h1⟩
  · exact h1.elim
theorem me_lstV (h : DA T X W es (pm u)) : DE T X W (.List es pos) (pm (mLstV u)) := (de_lsV h).to fun e P R h => by
  unfold pm mLstV at h
  rw [post_bind] at h
  refine h.mono (fun rs e1 h1 => ?_) fun _ _ h => h
  split at h1
  · rename_i hl
    split at h1
    · rename_i ds hd
      exact ⟨sl16 hl, ds, hd, h1⟩
    · exact h1.elim
  · exact h1.elim
theorem me_tup {k : Nat} (h : DA T X W es (pm u)) : DE T X W (.Tuple es k pos) (pm (mTup u)) := (de_tup h).to fun e P R h => by
  unfold pm mTup at h
  rw [post_bind] at h
  refine h.mono (fun rs e1 h1 => ?_) fun _ _ h => h
  split at h1
  · rename_i hl
    refine ⟨sl16 hl, ?_⟩
    split at h1
    · rename_i ds hd
      try rw [hd]
      exact h1
    · rename_i hd
      try rw [hd]
      exact h1
  · exact h1.elim
/-- a display of constants -/
theorem me_kon {d : D} {m : ME} (h : DE T X W a (pm m)) (hk : ∀ e, m e = .ok (.val d) e := by intro e; rfl) : DE T X W a (pm (mD d)) := h.to fun e P R q => by
  unfold pm
  rw [hk e]
  exact q
end
end DL
end
section
set_option Elab.async false
set_option linter.all false
set_option autoImplicit false
set_option maxRecDepth 100000
set_option maxHeartbeats 2000000
/-! DMD: reckoned readings: built-in functions, methods of built-in types, truth, isinstance. -/
namespace DL
open PySem PySem.Spec L2
open PyProof.Rows hiding St
section
variable {T : Cn} {X : Cx} {W : WX} {a b c' : Expr} {es : List Expr} {u : MA} {pos cpos apos p : Pos} {ma mb : ME}
/-! ### built-in functions -/
abbrev BM := Env → List RV → Res RV
def BJ (f : BX) (g : BM) : Prop := ∀ e rs P R, (g e rs).post P R → f e rs P
def mB (g : BM) (u : MA) : ME := fun e => (u e).bind fun rs e1 => g e1 rs
theorem me_B {f : BX} {g : BM} (h : DE T X W a (eB f (pm u))) (hg : BJ f g) : DE T X W a (pm (mB g u)) := h.to fun e P R q => by
  unfold pm mB at q
  rw [post_bind] at q
  exact q.mono (fun rs e1 h1 => hg e1 rs P R h1) fun _ _ h => h
def b1 (g : Env → RV → Res RV) : BM := fun e rs => match rs with
  | [r] => g e r
  | _ => .no
def lenM : BM := b1 fun e r => match dv e r with
  | some (.str s) => if s.length ≤ 16777216 then .ok (.val (.int (s.length : Nat))) e else .no
  | _ => match sqD e r with
    | some ds => .ok (.val (.int (ds.length : Nat))) e
    | none => .no
theorem bj_len : BJ lenX lenM := fun e rs P R h => by
  unfold lenM b1 at h
  split at h
  · rename_i r
    try dsimp only at h
    refine ⟨r, rfl, ?_⟩
    split at h
    · rename_i s h1
      split at h
      · rename_i hz
        exact .inl ⟨s, h1, sl16 hz, h⟩
      · exact h.elim
    · split at h
      · rename_i ds h1
        exact .inr ⟨ds, h1, h⟩
      · exact h.elim
  · exact h.elim
theorem me_len (hm : X.mg "len" = none) (ha : DA T X W (a :: es) (pm u)) (hK : X.K = T.K := by rfl) (hg : Gl X "len" := by rfl) : DE T X W (.Call (.Name "len" p) (a :: es) [] pos) (pm (mB lenM u)) := me_B (de_len hm ha hK hg) bj_len
def intM : BM := b1 fun e r => match dv e r with
  | some (.int i) => .ok (.val (.int i)) e
  | some (.bl k) => .ok (.val (.int (if k then 1 else 0))) e
  | some (.str s) => if s.length ≤ 640 then (match PySem.intText? (S s) with
    | some n => .ok (.val (.int n)) e
    | none => .no) else .no
  | _ => .no
theorem bj_int : BJ intX intM := fun e rs P R h => by
  unfold intM b1 at h
  split at h
  · rename_i r
    try dsimp only at h
    refine ⟨r, rfl, ?_⟩
    split at h
    · rename_i i h1
      exact .inl ⟨i, h1, h⟩
    · rename_i k h1
      exact .inr (.inl ⟨k, h1, h⟩)
    · rename_i s h1
      split at h
      · rename_i hz
        split at h
        · rename_i n hn
          exact .inr (.inr ⟨s, n, h1, hn, hz, h⟩)
        · exact h.elim
      · exact h.elim
    · exact h.elim
  · exact h.elim
theorem me_intC (hm : X.mg "int" = none) (ha : DA T X W (a :: es) (pm u)) (hg : Gl X "int" := by rfl) : DE T X W (.Call (.Name "int" p) (a :: es) [] pos) (pm (mB intM u)) := me_B (de_intC hm ha hg) bj_int
/-- the text of a number -/
def strI (i : Int) : List Nat := (toString i : Str).cps.toList
def strM : BM := b1 fun e r => match dv e r with
  | some (.int i) => if i.natAbs.log2 < 1920 then .ok (.val (.str (strI i))) e else .no
  | _ => .no
theorem bj_str : BJ strX strM := fun e rs P R h => by
  unfold strM b1 at h
  split at h
  · rename_i r
    try dsimp only at h
    split at h
    · rename_i i h1
      split at h
      · rename_i hz
        exact ⟨r, i, rfl, h1, hz, h⟩
      · exact h.elim
    · exact h.elim
  · exact h.elim
theorem me_strC (hm : X.mg "str" = none) (ha : DA T X W (a :: es) (pm u)) (hg : Gl X "str" := by rfl) : DE T X W (.Call (.Name "str" p) (a :: es) [] pos) (pm (mB strM u)) := me_B (de_strC hm ha hg) bj_str
def absM : BM := b1 fun e r => match dv e r with
  | some (.int i) => .ok (.val (.int (if i < 0 then -i else i))) e
  | _ => .no
theorem bj_abs : BJ absX absM := fun e rs P R h => by
  unfold absM b1 at h
  split at h
  · rename_i r
    try dsimp only at h
    split at h
    · rename_i i h1
      exact ⟨r, i, rfl, h1, h⟩
    · exact h.elim
  · exact h.elim
theorem me_abs (hm : X.mg "abs" = none) (ha : DA T X W (a :: es) (pm u)) (hg : Gl X "abs" := by rfl) : DE T X W (.Call (.Name "abs" p) (a :: es) [] pos) (pm (mB absM u)) := me_B (de_abs hm ha hg) bj_abs
/-- list: data; own: an object -/
def listM (own : Bool) : BM := b1 fun e r => match sqD e r with
  | some ds => if own = true then .ok (.ob e.ob.length) { e with ob := e.ob ++ [.lst ds] } else .ok (.val (.lst ds)) e
  | none => .no
def listVX : BX := fun e rs P => ∃ r ds, rs = [r] ∧ sqD e r = some ds ∧ P (.val (.lst ds)) e
theorem me_list (hm : X.mg "list" = none) (ha : DA T X W (a :: es) (pm u)) (hK : X.K = T.K := by rfl) (hg : Gl X "list" := by rfl) : DE T X W (.Call (.Name "list" p) (a :: es) [] pos) (pm (mB (listM true) u)) := me_B (de_list hm ha hK hg) fun e rs P R h => by
  unfold listM b1 at h
  split at h
  · rename_i r
    try dsimp only at h
    split at h
    · rename_i ds h1
      try simp only [↓reduceIte] at h
      exact ⟨r, ds, rfl, h1, h⟩
    · exact h.elim
  · exact h.elim
theorem me_listV (hm : X.mg "list" = none) (ha : DA T X W (a :: es) (pm u)) (hK : X.K = T.K := by rfl) (hg : Gl X "list" := by rfl) : DE T X W (.Call (.Name "list" p) (a :: es) [] pos) (pm (mB (listM false) u)) := me_B (f := listVX) (de_Ty call_list_of (by
  rw [hK]
  intro c F ad e σ H xs rs P Q rel r1 h q
  obtain ⟨r, ds, rfl, h1, hp⟩ := h
  obtain ⟨v, rfl, rr⟩ := rv1 r1
  obtain ⟨a, vs, rfl, g1, g2⟩ := sqD_ok rel rr h1
  exact ⟨a, vs, rfl, g1, fun l hl => q.laid rel hl (fun x => rep_lst.mpr ⟨l, vs, rfl, .inl upd_same, g2.mono x⟩) hp⟩) hg hm (by decide +kernel) ha) fun e rs P R h => by
  unfold listM b1 at h
  split at h
  · rename_i r
    try dsimp only at h
    split at h
    · rename_i ds h1
      try simp only [Bool.false_eq_true, ↓reduceIte] at h
      exact ⟨r, ds, rfl, h1, h⟩
    · exact h.elim
  · exact h.elim
/-- all of them ints -/
def intsOf : List D → Option (List Int)
  | [] => some []
  | .int i :: ds => (intsOf ds).map (i :: ·)
  | _ :: _ => none
theorem intsOf_eq : ∀ {ds : List D} {ns : List Int}, intsOf ds = some ns → ds = ns.map D.int
  | [], ns, h => by
    cases h
    rfl
  | .int i :: ds, ns, h => by
    rw [intsOf] at h
    obtain ⟨ms, h1, h2⟩ := Option.map_eq_some_iff.mp h
    rw [← h2, intsOf_eq h1]
    rfl
  | .non :: _, _, h => by simp [intsOf] at h
  | .bl _ :: _, _, h => by simp [intsOf] at h
  | .str _ :: _, _, h => by simp [intsOf] at h
  | .lst _ :: _, _, h => by simp [intsOf] at h
  | .tup _ :: _, _, h => by simp [intsOf] at h
  | .dic _ :: _, _, h => by simp [intsOf] at h
  | .ins _ _ :: _, _, h => by simp [intsOf] at h
  | .glo _ :: _, _, h => by simp [intsOf] at h
  | .exn _ _ _ _ :: _, _, h => by simp [intsOf] at h
@[simp] theorem intsOf_map (ns : List Int) : intsOf (ns.map D.int) = some ns := by
  induction ns with
  | nil => rfl
  | cons i ns ih => rw [List.map_cons, intsOf, ih]; rfl
def sumM : BM := b1 fun e r => match lsD e r with
  | some ds => (match intsOf ds with
    | some ns => .ok (.val (.int ns.sum)) e
    | none => .no)
  | none => .no
theorem bj_sum : BJ sumX sumM := fun e rs P R h => by
  unfold sumM b1 at h
  split at h
  · rename_i r
    try dsimp only at h
    split at h
    · rename_i ds h1
      split at h
      · rename_i ns h2
        refine ⟨r, ns, rfl, ?_, h⟩
        rw [h1, intsOf_eq h2]
      · exact h.elim
    · exact h.elim
  · exact h.elim
theorem me_sum (hc : X.calm = true) (hm : X.mg "sum" = none) (ha : DA T X W (a :: es) (pm u)) (hK : X.K = T.K := by rfl) (hg : Gl X "sum" := by rfl) : DE T X W (.Call (.Name "sum" p) (a :: es) [] pos) (pm (mB sumM u)) := me_B (de_sum hc hm ha hK hg) bj_sum
def b2 (g : Env → RV → RV → Res RV) : BM := fun e rs => match rs with
  | [r, q] => g e r q
  | _ => .no
def minM : BM := b2 fun e r q => match dv e r, dv e q with
  | some (.int i), some (.int j) => .ok (.val (.int (if j < i then j else i))) e
  | _, _ => .no
def maxM : BM := b2 fun e r q => match dv e r, dv e q with
  | some (.int i), some (.int j) => .ok (.val (.int (if j > i then j else i))) e
  | _, _ => .no
theorem bj_min : BJ minX minM := fun e rs P R h => by
  unfold minM b2 at h
  split at h
  · rename_i r q
    try dsimp only at h
    split at h
    · rename_i i j h1 h2
      exact ⟨r, q, i, j, rfl, h1, h2, h⟩
    · exact h.elim
  · exact h.elim
theorem bj_max : BJ maxX maxM := fun e rs P R h => by
  unfold maxM b2 at h
  split at h
  · rename_i r q
    try dsimp only at h
    split at h
    · rename_i i j h1 h2
      exact ⟨r, q, i, j, rfl, h1, h2, h⟩
    · exact h.elim
  · exact h.elim
theorem me_min (hc : X.calm = true) (hm : X.mg "min" = none) (ha : DA T X W (a :: es) (pm u)) (hg : Gl X "min" := by rfl) : DE T X W (.Call (.Name "min" p) (a :: es) [] pos) (pm (mB minM u)) := me_B (de_min hc hm ha hg) bj_min
theorem me_max (hc : X.calm = true) (hm : X.mg "max" = none) (ha : DA T X W (a :: es) (pm u)) (hg : Gl X "max" := by rfl) : DE T X W (.Call (.Name "max" p) (a :: es) [] pos) (pm (mB maxM u)) := me_B (de_max hc hm ha hg) bj_max
/-- repr -/
def reprM : BM := b1 fun e r => match rd e r with
  | some d => if layB 60 d = true ∧ shows d = true ∧ (PyData.shown d.py).length ≤ 16777216 then .ok (.val (.str (reprL d))) e else .no
  | none => .no
theorem bj_repr : BJ reprX reprM := fun e rs P R h => by
  unfold reprM b1 at h
  split at h
  · rename_i r
    try dsimp only at h
    split at h
    · rename_i d h1
      split at h
      · rename_i hc
        exact ⟨r, d, rfl, h1, lay_of hc.1, hc.2.1, sl16 hc.2.2, h⟩
      · exact h.elim
    · exact h.elim
  · exact h.elim
theorem me_repr (hu : U X) (hgd : X.A.guards = some []) (hm : X.mg "repr" = none) (ha : DA T X W (a :: es) (pm u)) (hK : X.K = T.K := by rfl) (hg : Gl X "repr" := by rfl) : DE T X W (.Call (.Name "repr" p) (a :: es) [] cpos) (pm (mB reprM u)) := me_B (de_repr (x := .Constant .none 0 ⟨0, 0, 0, 0⟩) hu hgd hm ha hK hg) bj_repr
/-! ### -e, truth -/
def mNeg (m : ME) : ME := fun e => (m e).bind fun r e1 => match dv e1 r with
  | some (.int i) => .ok (.val (.int (-i))) e1
  | _ => .no
theorem me_neg (ha : DE T X W a (pm ma)) : DE T X W (.UnaryOp .USub a pos) (pm (mNeg ma)) := (de_neg ha).to fun e P R h => by
  unfold pm mNeg at h
  rw [post_bind] at h
  refine h.mono (fun r e1 h1 => ?_) fun _ _ h => h
  split at h1
  · rename_i i hi
    exact ⟨i, hi, h1⟩
  · exact h1.elim
def fitB (e : Env) : RV → Bool
  | .val (.str s) => decide (s.length ≤ 16777216)
  | .val _ => true
  | .ob k => match e.ob[k]? with
    | some (.fz (.str s)) => decide (s.length ≤ 16777216)
    | _ => true
theorem fitB_ok {e : Env} {r : RV} (h : fitB e r = true) : fitE e r := by
  cases r with
  | val d => cases d with
    | str s => exact sl16 (of_decide_eq_true h)
    | _ => trivial
  | ob k =>
    have h' : (match e.ob[k]? with
      | some (.fz (.str s)) => decide (s.length ≤ 16777216)
      | _ => true) = true := h
    show (match e.ob[k]? with
      | some (.fz d) => d.fits
      | _ => True)
    cases hk : e.ob[k]? with
    | none => trivial
    | some o => cases o with
      | fz d =>
        rw [hk] at h'
        cases d with
        | str s => exact sl16 (of_decide_eq_true h')
        | _ => trivial
      | _ => trivial
def truM (r : RV) (e : Env) : Res Bool := match truE e r with
  | some b => if fitB e r = true then .ok b e else .no
  | none => .no
def mTru (m : ME) : MT := fun e => (m e).bind truM
theorem mt_tru (ha : DE T X W a (pm ma)) (hK : X.K = T.K := by rfl) (he : ∀ whole, isTrue a X.env whole = (do let v ← whole; standAt a.pos; holding [v] (truthy v)) := by intro _; rfl) : DT T X W a (pm (mTru ma)) := (dt_tru ha hK he).to fun e P R h => by
  unfold pm mTru at h
  rw [post_bind] at h
  refine h.mono (fun r e1 h1 => ?_) fun _ _ h => h
  unfold truM at h1
  split at h1
  · rename_i b hb
    split at h1
    · rename_i hf
      exact ⟨b, hb, fitB_ok hf, h1⟩
    · exact h1.elim
  · exact h1.elim
/-! ### isinstance of a built-in type -/
def isiM (n : String) (m : ME) : ME := fun e => (m e).bind fun r e1 => match tyOf e1 r with
  | some q => (match kitB q n with
    | some b => .ok (.val (.bl b)) e1
    | none => .no)
  | none => .no
theorem me_isi {n : Str} {ty : String} {p p2 : Pos} (hm : X.mg "isinstance" = none) (hm2 : X.mg n = none) (hv : bootBuiltins n = some (.type ty)) (ha : DE T X W a (pm ma)) (hK : X.K = T.K := by rfl) (hg : Gl X "isinstance" := by rfl) (hg2 : Gl X n := by rfl)
    (hn : n ≠ "__name__" := by decide) (hdb : (n == ("__debug__" : Str)) = false := by decide) (he : starEach (a :: [.Name n p2]) X.env = (false, eval a X.env) :: starEach [.Name n p2] X.env := by rfl) (he2 : starEach (.Name n p2 :: []) X.env = (false, eval (.Name n p2) X.env) :: starEach [] X.env := by rfl)
    (hpl : (backTo pos (starEach [.Name n p2] X.env)).any (·.1) = false := by rfl) :
    DE T X W (.Call (.Name "isinstance" p) [a, .Name n p2] [] pos) (pm (isiM ty ma)) := (de_isi hm hm2 hv ha hK hg hg2 hn hdb he he2 hpl).to fun e P R h => by
  unfold pm isiM at h
  rw [post_bind] at h
  refine h.mono (fun r e1 h1 => ?_) fun _ _ h => h
  split at h1
  · rename_i q hq
    split at h1
    · rename_i b hb
      exact ⟨q, b, hq, hb, h1⟩
    · exact h1.elim
  · exact h1.elim
/-! ### methods of built-in types -/
abbrev MM := Env → RV → List RV → Res RV
def MJ (ty : Env → RV → Prop) (f : MX) (g : MM) : Prop := ∀ e r rs P R, (g e r rs).post P R → f e r rs P
def mM (tb : Env → RV → Bool) (g : MM) (mo : ME) (u : MA) : ME := fun e => (mo e).bind fun r e1 => if tb e1 r = true then (u e1).bind fun rs e2 => g e2 r rs else .no
theorem me_M {ty : Env → RV → Prop} {tb : Env → RV → Bool} {f : MX} {g : MM} {mo : ME} (h : DE T X W a (eM ty f (pm mo) (pm u))) (ht : ∀ e r, tb e r = true → ty e r) (hg : ∀ e r rs P R, (g e r rs).post P R → f e r rs P) : DE T X W a (pm (mM tb g mo u)) := h.to fun e P R q => by
  unfold pm mM at q
  rw [post_bind] at q
  refine q.mono (fun r e1 h1 => ?_) fun _ _ h => h
  split at h1
  · rename_i hb
    refine ⟨ht e1 r hb, ?_⟩
    rw [post_bind] at h1
    exact h1.mono (fun rs e2 h2 => hg e2 r rs P R h2) fun _ _ h => h
  · exact h1.elim
def tbStr (e : Env) (r : RV) : Bool := match dv e r with
  | some (.str _) => true
  | _ => false
theorem tbStr_ok (e : Env) (r : RV) (h : tbStr e r = true) : tyStr e r := by
  unfold tbStr at h
  split at h
  · rename_i s hs
    exact ⟨s, hs⟩
  · cases h
def tbLs (e : Env) (r : RV) : Bool := match r with
  | .ob k => (match e.ob[k]? with
    | some (.lst _) => true
    | some (.lsr _) => true
    | _ => false)
  | _ => false
theorem tbLs_ok (e : Env) (r : RV) (h : tbLs e r = true) : tyLs e r := by
  unfold tbLs at h
  split at h
  · rename_i k
    split at h
    · rename_i ds hk
      exact ⟨k, rfl, .inl ⟨ds, hk⟩⟩
    · rename_i ds hk
      exact ⟨k, rfl, .inr ⟨ds, hk⟩⟩
    · cases h
  · cases h
/-- of a text alone -/
def sM (g : List Nat → D) : MM := fun e r rs => match dv e r, rs with
  | some (.str s), [] => if s.length ≤ 5592405 then .ok (.val (g s)) e else .no
  | _, _ => .no
theorem mj_s {g : List Nat → D} : ∀ e r rs P R, (sM g e r rs).post P R → mxS (fun s => some (g s)) e r rs P := fun e r rs P R h => by
  unfold sM at h
  split at h
  · rename_i s h1
    split at h
    · rename_i hz
      exact ⟨s, g s, h1, rfl, hz, rfl, h⟩
    · exact h.elim
  · exact h.elim
def stripS (s : List Nat) : List Nat := (Txt.strip (S s)).cps.toList
def stripM : MM := sM fun s => .str (stripS s)
def alnumM : MM := sM fun s => .bl (Txt.isalnum (S s))
def digitM : MM := sM fun s => .bl (Txt.isdigit (S s))
def alphaM : MM := sM fun s => .bl (Txt.isalpha (S s))
variable {mo : ME}
theorem me_strip (ho : DE T X W b (pm mo)) (hK : X.K = T.K := by rfl) (hbase : attributeBase b "strip" X.env (eval b X.env) = eval b X.env := by rfl) (hline : (apos.endLine == cpos.line) = true := by rfl) : DE T X W (.Call (.Attribute b "strip" apos) [] [] cpos) (pm (mM tbStr stripM mo mNil)) := me_M (u := mNil) (de_strip ho hK hbase hline) tbStr_ok mj_s
theorem me_isalnum (ho : DE T X W b (pm mo)) (hK : X.K = T.K := by rfl) (hbase : attributeBase b "isalnum" X.env (eval b X.env) = eval b X.env := by rfl) (hline : (apos.endLine == cpos.line) = true := by rfl) : DE T X W (.Call (.Attribute b "isalnum" apos) [] [] cpos) (pm (mM tbStr alnumM mo mNil)) := me_M (u := mNil) (de_isalnum ho hK hbase hline) tbStr_ok mj_s
theorem me_isdigit (ho : DE T X W b (pm mo)) (hK : X.K = T.K := by rfl) (hbase : attributeBase b "isdigit" X.env (eval b X.env) = eval b X.env := by rfl) (hline : (apos.endLine == cpos.line) = true := by rfl) : DE T X W (.Call (.Attribute b "isdigit" apos) [] [] cpos) (pm (mM tbStr digitM mo mNil)) := me_M (u := mNil) (de_isdigit ho hK hbase hline) tbStr_ok mj_s
theorem me_isalpha (ho : DE T X W b (pm mo)) (hK : X.K = T.K := by rfl) (hbase : attributeBase b "isalpha" X.env (eval b X.env) = eval b X.env := by rfl) (hline : (apos.endLine == cpos.line) = true := by rfl) : DE T X W (.Call (.Attribute b "isalpha" apos) [] [] cpos) (pm (mM tbStr alphaM mo mNil)) := me_M (u := mNil) (de_isalpha ho hK hbase hline) tbStr_ok mj_s
/-! join -/
def jnS (a : List Nat) : List (List Nat) → List Nat
  | [] => []
  | [x] => x
  | x :: y :: r => x ++ a ++ jnS a (y :: r)
theorem jnS_eq (a : List Nat) : ∀ ss : List (List Nat), jnS a ss = jn a ss
  | [] => rfl
  | [x] => rfl
  | x :: y :: r => by rw [jnS, jn, jnS_eq a (y :: r)]
def joinM : MM := fun e r rs => match dv e r, rs with
  | some (.str a), [q] => (match sqD e q with
    | some ds => (match strsD ds with
      | some ss => if (ss.map List.length).sum + ss.length * a.length ≤ 16777216 then .ok (.val (.str (jnS a ss))) e else .no
      | none => .no)
    | none => .no)
  | _, _ => .no
theorem mj_join : ∀ e r rs P R, (joinM e r rs).post P R → joinX e r rs P := fun e r rs P R h => by
  unfold joinM at h
  split at h
  · rename_i a q h1
    split at h
    · rename_i ds h2
      split at h
      · rename_i ss h3
        split at h
        · rename_i hz
          refine ⟨a, q, ds, ss, h1, rfl, h2, h3, hz, ?_⟩
          rw [joinL_eq, ← jnS_eq]
          exact h
        · exact h.elim
      · exact h.elim
    · exact h.elim
  · exact h.elim
theorem me_join (ho : DE T X W b (pm mo)) (ha : DA T X W (a :: es) (pm u)) (hK : X.K = T.K := by rfl) (hbase : attributeBase b "join" X.env (eval b X.env) = eval b X.env := by rfl)
    (hfew : ((backTo cpos (starEach (a :: es) X.env)).all (fun x => !x.1) && (backToKw cpos (keywordEach [] X.env)).all (fun x => x.1.isSome) && decide ((a :: es).length + ([] : List Keyword).length + (if ([] : List Keyword).isEmpty then 0 else 1) < 30)) = true := by rfl)
    (hline : (apos.endLine == cpos.line) = true := by rfl) (hs : starEach (a :: es) X.env = (false, eval a X.env) :: starEach es X.env := by rfl) (hplain : (backTo cpos (starEach es X.env)).any (·.1) = false := by rfl) :
    DE T X W (.Call (.Attribute b "join" apos) (a :: es) [] cpos) (pm (mM tbStr joinM mo u)) := me_M (de_join ho ha hK hbase hfew hline hs hplain) tbStr_ok mj_join
def stripCS (a b : List Nat) : List Nat := (Txt.stripChars (S a) (S b)).cps.toList
def stripCM : MM := fun e r rs => match dv e r, rs with
  | some (.str a), [q] => (match dv e q with
    | some (.str b) => if a.length ≤ 5592405 then .ok (.val (.str (stripCS a b))) e else .no
    | _ => .no)
  | _, _ => .no
theorem mj_stripC : ∀ e r rs P R, (stripCM e r rs).post P R → stripCX e r rs P := fun e r rs P R h => by
  unfold stripCM at h
  split at h
  · rename_i a q h1
    split at h
    · rename_i b h2
      split at h
      · rename_i hz
        exact ⟨a, q, b, h1, rfl, h2, hz, h⟩
      · exact h.elim
    · exact h.elim
  · exact h.elim
theorem me_stripC (ho : DE T X W b (pm mo)) (ha : DA T X W (a :: es) (pm u)) (hK : X.K = T.K := by rfl) (hbase : attributeBase b "strip" X.env (eval b X.env) = eval b X.env := by rfl)
    (hfew : ((backTo cpos (starEach (a :: es) X.env)).all (fun x => !x.1) && (backToKw cpos (keywordEach [] X.env)).all (fun x => x.1.isSome) && decide ((a :: es).length + ([] : List Keyword).length + (if ([] : List Keyword).isEmpty then 0 else 1) < 30)) = true := by rfl)
    (hline : (apos.endLine == cpos.line) = true := by rfl) (hs : starEach (a :: es) X.env = (false, eval a X.env) :: starEach es X.env := by rfl) (hplain : (backTo cpos (starEach es X.env)).any (·.1) = false := by rfl) :
    DE T X W (.Call (.Attribute b "strip" apos) (a :: es) [] cpos) (pm (mM tbStr stripCM mo u)) := me_M (de_stripC ho ha hK hbase hfew hline hs hplain) tbStr_ok mj_stripC
/-! append -/
def appM : MM := fun e r rs => match r, rs with
  | .ob k, [q] => (match e.ob[k]? with
    | some (.lst ds) => if ds.length < 16777216 then (match dv e q with
      | some d => .ok (.val .non) { e with ob := e.ob.set k (.lst (ds ++ [d])) }
      | none => .no) else .no
    | some (.lsr xs) => if xs.length < 16777216 then .ok (.val .non) { e with ob := e.ob.set k (.lsr (xs ++ [q])) } else .no
    | _ => .no)
  | _, _ => .no
theorem mj_app : ∀ e r rs P R, (appM e r rs).post P R → appX e r rs P := fun e r rs P R h => by
  unfold appM at h
  split at h
  · rename_i k q
    refine ⟨k, q, rfl, rfl, ?_⟩
    split at h
    · rename_i ds hk
      split at h
      · rename_i hz
        split at h
        · rename_i d hd
          exact .inl ⟨ds, d, hk, hd, by rw [sizeLine_eq]; exact hz, h⟩
        · exact h.elim
      · exact h.elim
    · rename_i xs hk
      split at h
      · rename_i hz
        exact .inr (.inr ⟨xs, hk, by rw [sizeLine_eq]; exact hz, h⟩)
      · exact h.elim
    · exact h.elim
  · exact h.elim
theorem me_append (ho : DE T X W b (pm mo)) (ha : DA T X W (a :: es) (pm u)) (hK : X.K = T.K := by rfl) (hbase : attributeBase b "append" X.env (eval b X.env) = eval b X.env := by rfl)
    (hfew : ((backTo cpos (starEach (a :: es) X.env)).all (fun x => !x.1) && (backToKw cpos (keywordEach [] X.env)).all (fun x => x.1.isSome) && decide ((a :: es).length + ([] : List Keyword).length + (if ([] : List Keyword).isEmpty then 0 else 1) < 30)) = true := by rfl)
    (hline : (apos.endLine == cpos.line) = true := by rfl) (hs : starEach (a :: es) X.env = (false, eval a X.env) :: starEach es X.env := by rfl) (hplain : (backTo cpos (starEach es X.env)).any (·.1) = false := by rfl) :
    DE T X W (.Call (.Attribute b "append" apos) (a :: es) [] cpos) (pm (mM tbLs appM mo u)) := me_M (de_append ho ha hK hbase hfew hline hs hplain) tbLs_ok mj_app
end
end DL
end
section
set_option Elab.async false
set_option linter.all false
set_option autoImplicit false
set_option maxRecDepth 100000
set_option maxHeartbeats 2000000
/-! DME: reckoned readings: values frozen, targets, statements, loops, comprehensions. -/
namespace DL
open PySem PySem.Spec L2
open PyProof.Rows hiding St

/-! ### frozen values -/
/-- what is given changes no more -/
def mFrz (m : ME) : ME := fun e => (m e).bind fun r e1 => match fzR 9 e1.ob r with
  | some (d, ob') => .ok (.val d) ⟨e1.sl, ob'⟩
  | none => .no
/-- .. and the objects that were made on the way are let go -/
def mFzV (m : ME) : ME := fun e => (m e).bind fun r e1 => match fzR 9 e1.ob r with
  | some (d, ob') => if goB [] e.ob.length ⟨e1.sl, ob'⟩ = true then .ok (.val d) ⟨e1.sl, ob'.take e.ob.length⟩ else .no
  | none => .no
section
variable {T : Cn} {X : Cx} {W : WX} {a b : Expr} {pos : Pos} {ma mb : ME}
theorem me_frz (h : DE T X W a (pm ma)) : DE T X W a (pm (mFrz ma)) := ⟨PE.imp h.pe fun σ H Q hh => by
  obtain ⟨c, F, ad, e, P, R, rel, q, hq, hx⟩ := hh
  unfold pm mFrz at q
  rw [post_bind] at q
  refine ⟨c, F, ad, e, _, R, rel, q, fun v H1 F1 ad1 e1 r x1 p1 rel1 r1 q1 => ?_, hx⟩
  dsimp only at q1
  split at q1
  · rename_i d ob' h1
    obtain ⟨sl1, ob1⟩ := e1
    obtain ⟨F2, x2, rel2, g2⟩ := fzR_ok 9 rel1 h1
    exact hq v H1 F2 ad1 _ (.val d) (x1.trans x2) p1 rel2 (g2 v r1) q1
  · exact q1.elim⟩
theorem me_fzV (h : DE T X W a (pm ma)) : DE T X W a (pm (mFzV ma)) := ⟨PE.imp h.pe fun σ H Q hh => by
  obtain ⟨c, F, ad, e, P, R, rel, q, hq, hx⟩ := hh
  unfold pm mFzV at q
  rw [post_bind] at q
  refine ⟨c, F, ad, e, _, R, rel, q, fun v H1 F1 ad1 e1 r x1 p1 rel1 r1 q1 => ?_, hx⟩
  dsimp only at q1
  split at q1
  · rename_i d ob' h1
    split at q1
    · rename_i hg
      obtain ⟨sl1, ob1⟩ := e1
      obtain ⟨F2, x2, rel2, g2⟩ := fzR_ok 9 rel1 h1
      have rel3 := Rel.go (vs := []) rel rel2 p1 hg
      exact hq v H1 F2 ad _ (.val d) (x1.trans x2) (Px.refl _) rel3 (g2 v r1) q1
    · exact q1.elim
  · exact q1.elim⟩
end

/-! ### targets -/
abbrev MG := RV → Env → Option Env
abbrev MGs := List RV → Env → Option Env
def pg (h : MG) : GX := fun r e P => match h r e with
  | some e' => P e'
  | none => False
def pgs (h : MGs) : GXs := fun r e P => match h r e with
  | some e' => P e'
  | none => False
def mNm (i : Nat) : MG := fun r e => some { e with sl := e.sl.set i (some r) }
def mgNil : MGs := fun rs e => match rs with
  | [] => some e
  | _ => none
def mgCons (g : MG) (u : MGs) : MGs := fun rs e => match rs with
  | r :: qs => (g r e).bind fun e1 => u qs e1
  | [] => none
def mTp (n : Nat) (u : MGs) : MG := fun r e => match tpI e r with
  | some rs => if rs.length = n then u rs e else none
  | none => none
theorem DG.to {T : Cn} {X : Cx} {tg : Expr} {g g' : GX} (h : DG T X tg g) (i : ∀ r e P, g' r e P → g r e P) : DG T X tg g' := ⟨PG.imp h.pg fun v σ H Q ⟨c, F, ad, e, r, P, rel, rr, q, k⟩ => ⟨c, F, ad, e, r, P, rel, rr, i r e P q, k⟩⟩
theorem DGs.to {T : Cn} {X : Cx} {tg : List Expr} {g g' : GXs} (h : DGs T X tg g) (i : ∀ r e P, g' r e P → g r e P) : DGs T X tg g' := ⟨PGs.imp h.pgs fun v σ H Q ⟨c, F, ad, e, r, P, rel, rr, q, k⟩ => ⟨c, F, ad, e, r, P, rel, rr, i r e P q, k⟩⟩
theorem DGw.to {T : Cn} {X : Cx} {vs : List Nat} {tg : Expr} {g g' : GX} (h : DGw T X vs tg g) (i : ∀ r e P, g' r e P → g r e P) : DGw T X vs tg g' := ⟨PG.imp h.pg fun v σ H Q ⟨c, F, ad, e, r, P, rel, rr, q, k⟩ => ⟨c, F, ad, e, r, P, rel, rr, i r e P q, k⟩⟩
theorem DGws.to {T : Cn} {X : Cx} {vs : List Nat} {tg : List Expr} {g g' : GXs} (h : DGws T X vs tg g) (i : ∀ r e P, g' r e P → g r e P) : DGws T X vs tg g' := ⟨PGs.imp h.pgs fun v σ H Q ⟨c, F, ad, e, r, P, rel, rr, q, k⟩ => ⟨c, F, ad, e, r, P, rel, rr, i r e P q, k⟩⟩
theorem gs_nil_to : ∀ r e P, pgs mgNil r e P → gsNil r e P := fun rs e P h => by
  unfold pgs mgNil at h
  cases rs with
  | nil => exact ⟨rfl, h⟩
  | cons r rs => exact h.elim
theorem gs_cons_to {g : MG} {u : MGs} : ∀ r e P, pgs (mgCons g u) r e P → gsCons (pg g) (pgs u) r e P := fun rs e P h => by
  unfold pgs mgCons at h
  cases rs with
  | nil => exact h.elim
  | cons r rs =>
    dsimp only at h
    refine ⟨r, rs, rfl, ?_⟩
    unfold pg
    cases hg : g r e with
    | none =>
      rw [hg] at h
      exact h.elim
    | some e1 =>
      rw [hg] at h
      exact h
theorem g_tp_to {n : Nat} {u : MGs} : ∀ r e P, pg (mTp n u) r e P → gTp n (pgs u) r e P := fun r e P h => by
  unfold pg mTp at h
  cases ht : tpI e r with
  | none =>
    rw [ht] at h
    exact h.elim
  | some rs =>
    rw [ht] at h
    dsimp only at h
    by_cases hl : rs.length = n
    · rw [if_pos hl] at h
      exact ⟨rs, ht, hl, h⟩
    · rw [if_neg hl] at h
      exact h.elim
section
variable {T : Cn} {X : Cx} {W : WX} {vs : List Nat}
theorem mg_name (i : Nat) {x : Str} {pos : Pos} (hN : X.N.Nodup) (hi : X.N[i]? = some x := by rfl) (hx : Loc X.env.scope x := by first | exact Or.inl rfl | exact Or.inr rfl) (hf : X.fn x = true ∨ X.env.scope.names.lookup x = some .local := by first | exact .inl rfl | exact .inr rfl) : DG T X (.Name x pos) (pg (mNm i)) := (dg_name i hN hi hx hf).to fun r e P h => h
theorem mgs_nil : DGs T X [] (pgs mgNil) := dgs_nil.to gs_nil_to
theorem mgs_cons {e : Expr} {es : List Expr} {g : MG} {u : MGs} (h1 : DG T X e (pg g)) (h2 : DGs T X es (pgs u)) (hs : (assignEach (e :: es) X.env).map (·.2) = assign e X.env :: (assignEach es X.env).map (·.2) := by rfl) : DGs T X (e :: es) (pgs (mgCons g u)) := (dgs_cons h1 h2 hs).to gs_cons_to
theorem mg_tup {es : List Expr} {k n : Nat} {u : MGs} {pos : Pos} (hc : X.calm = true) (h : DGs T X es (pgs u)) (hK : X.K = T.K := by rfl)
    (hn : (assignEach es X.env).length = n := by rfl) (hst : (assignEach es X.env).findIdx? (·.1) = none := by rfl) : DG T X (.Tuple es k pos) (pg (mTp n u)) := (dg_tup hc h hK hn hst).to g_tp_to
theorem mgw_tup {es : List Expr} {k n : Nat} {u : MGs} {pos : Pos} (hc : X.calm = true) (h : DGws T X vs es (pgs u)) (hK : X.K = T.K := by rfl)
    (hn : (assignEach es X.env).length = n := by rfl) (hst : (assignEach es X.env).findIdx? (·.1) = none := by rfl) : DGw T X vs (.Tuple es k pos) (pg (mTp n u)) := (dgw_tup hc h hK hn hst).to g_tp_to
theorem mgw_name (i : Nat) {x : Str} {pos : Pos} (hN : X.N.Nodup) (hi : X.N[i]? = some x := by rfl) (hx : Loc X.env.scope x := by first | exact Or.inl rfl | exact Or.inr rfl) (hf : X.fn x = true ∨ X.env.scope.names.lookup x = some .local := by first | exact .inl rfl | exact .inr rfl) (hv : i ∈ vs := by decide) : DGw T X vs (.Name x pos) (pg (mNm i)) := (dgw_name i hN hi hx hf hv).to fun r e P h => h
theorem mgws_nil : DGws T X vs [] (pgs mgNil) := dgws_nil.to gs_nil_to
theorem mgws_cons {e : Expr} {es : List Expr} {g : MG} {u : MGs} (h1 : DGw T X vs e (pg g)) (h2 : DGws T X vs es (pgs u)) (hs : (assignEach (e :: es) X.env).map (·.2) = assign e X.env :: (assignEach es X.env).map (·.2) := by rfl) : DGws T X vs (e :: es) (pgs (mgCons g u)) := (dgws_cons h1 h2 hs).to gs_cons_to
end

/-! ### statements -/
def mNext : MS := fun e => .nx e
def mSeq (t u : MS) : MS := fun e => (t e).seq u
def mDrop (m : ME) : MS := fun e => (m e).run fun _ e1 => .nx e1
def mRet (m : ME) : MS := fun e => (m e).run fun r e1 => .rt r e1
def mRetN : MS := fun e => .rt (.val .non) e
def mBreak : MS := fun e => .bk e
def mCont : MS := fun e => .ct e
def mIf (c : MT) (t u : MS) : MS := fun e => (c e).run fun b e1 => if b = true then t e1 else u e1
def mAsg (m : ME) (g : MG) : MS := fun e => (m e).run fun r e1 => match g r e1 with
  | some e2 => .nx e2
  | none => .no
def mAug (i : Nat) (m : ME) (g : OM) : MS := fun e => match e.sl[i]? with
  | some (some r) => (m e).run fun y e1 => (g e1 r y).run fun z e2 => .nx { e2 with sl := e2.sl.set i (some z) }
  | _ => .no
def mPar (i j : Nat) (u : MA) : MS := fun e => (u e).run fun rs e1 => match rs with
  | [a, b] => .nx { e1 with sl := (e1.sl.set i (some a)).set j (some b) }
  | _ => .no
def mPar3 (i j l : Nat) (u : MA) : MS := fun e => (u e).run fun rs e1 => match rs with
  | [a, b, d] => .nx { e1 with sl := ((e1.sl.set i (some a)).set j (some b)).set l (some d) }
  | _ => .no
/-- the place i of a list of n items -/
def plN (n : Nat) (i : Int) : Option Nat := if 0 ≤ i then (if i < n then some i.toNat else none) else if -(n : Int) ≤ i then some (i + n).toNat else none
def mSetIx (mo mi mv : ME) : MS := fun e => (mv e).run fun v e1 => (mo e1).run fun o e2 => (mi e2).run fun i e3 => match o, dv e3 i with
  | .ob k, some (.int n) => (match e3.ob[k]? with
    | some (.lst ds) => (match plN ds.length n, dv e3 v with
      | some j, some d => .nx { e3 with ob := e3.ob.set k (.lst (ds.set j d)) }
      | _, _ => .no)
    | _ => .no)
  | _, _ => .no
theorem post_run' {α : Type} {m : Res α} {k : α → Env → SR} {Po : Post} (h : (m.run k).post Po) : m.post (fun a e => (k a e).post Po) Po.xc := by rw [← post_run]; exact h
theorem post_bind' {α β : Type} {m : Res α} {k : α → Env → Res β} {P : β → Env → Prop} {R : Xc → Env → Prop} (h : (m.bind k).post P R) : m.post (fun a e => (k a e).post P R) R := by rw [← post_bind]; exact h
section
variable {T : Cn} {X : Cx} {W : WX} {a b : Expr} {st : Stmt} {rest ss zs : List Stmt} {pos : Pos} {ma mb : ME} {t u : MS} {c : MT} {g : MG}
theorem mss_nil : DSs T X W [] (ps mNext) := dss_nil.to fun e Po h => h
theorem ms_pass : DS T X W (.Pass pos) (ps mNext) := ds_pass.to fun e Po h => h
theorem ms_doc {x : Str} {j : Nat} {p2 : Pos} : DS T X W (.Expr (.Constant (.str x) j pos) p2) (ps mNext) := ds_doc.to fun e Po h => h
theorem ms_break : DS T X W (.Break pos) (ps mBreak) := ds_break.to fun e Po h => h
theorem ms_cont : DS T X W (.Continue pos) (ps mCont) := ds_cont.to fun e Po h => h
theorem mss_cons (h1 : DS T X W st (ps t)) (h2 : DSs T X W rest (ps u)) : DSs T X W (st :: rest) (ps (mSeq t u)) := (dss_cons h1 h2).to fun e Po h => by
  unfold ps mSeq at h
  rw [post_seq] at h
  exact h
theorem mss_one (h : DS T X W st (ps t)) : DSs T X W [st] (ps t) := dss_one h
theorem ms_expr (h : DE T X W a (pm ma)) (hs : swapsWith a none pos.line X.env = pure false := by rfl) : DS T X W (.Expr a pos) (ps (mDrop ma)) := (ds_expr h hs).to fun e Po h => post_run' h
theorem ms_ret (h : DE T X W a (pm ma)) : DS T X W (.Return (some a) pos) (ps (mRet ma)) := (ds_ret h).to fun e Po h => post_run' h
theorem ms_retN : DS T X W (.Return none pos) (ps mRetN) := ds_retN.to fun e Po h => h
theorem spost_ite {p : Prop} [Decidable p] {m n : SR} {Po : Post} : (if p then m else n).post Po = if p then m.post Po else n.post Po := by split <;> rfl
theorem ms_if (hc : DT T X W a (pm c)) (h1 : DSs T X W ss (ps t)) (h2 : DSs T X W zs (ps u)) : DS T X W (.If a ss zs pos) (ps (mIf c t u)) := (ds_if hc h1 h2).to fun e Po h => by
  refine (post_run' h).mono (fun b e1 h1 => ?_) fun _ _ h => h
  rw [spost_ite] at h1
  exact h1
theorem asg_to : ∀ e Po, ps (mAsg ma g) e Po → sAsg (pm ma) (pg g) e Po := fun e Po h => by
  refine (post_run' h).mono (fun r e1 h1 => ?_) fun _ _ h => h
  unfold pg
  cases hg : g r e1 with
  | some e2 =>
    rw [hg] at h1
    exact h1
  | none =>
    rw [hg] at h1
    exact h1.elim
theorem ms_asg (h : DE T X W b (pm ma)) (hg : DG T X a (pg g)) (hs : swapsWithSole [a] b pos.line X.env = pure false := by rfl) (hw : swappedStores [a] b X.env = pure none := by rfl)
    (h1 : (assignEach [a] X.env).map (·.2) = [assign a X.env] := by rfl) : DS T X W (.Assign [a] b pos) (ps (mAsg ma g)) := (ds_asg h hg hs hw h1).to asg_to
theorem ms_set (i : Nat) {x : Str} {pos' : Pos} (h : DE T X W b (pm ma)) (hN : X.N.Nodup) (hs : swapsWith b (some (.Name x pos')) pos.line X.env = pure false := by rfl) (hi : X.N[i]? = some x := by rfl) (hx : Loc X.env.scope x := by first | exact Or.inl rfl | exact Or.inr rfl)
    (hf : X.fn x = true ∨ X.env.scope.names.lookup x = some .local := by first | exact .inl rfl | exact .inr rfl) : DS T X W (.Assign [.Name x pos'] b pos) (ps (mAsg ma (mNm i))) := (ds_set i h hN hs hi hx hf).to asg_to
theorem ms_setIx {o i v : Expr} {mo mi mv : ME} {pos' : Pos} (ho : DE T X W o (pm mo)) (hi : DE T X W i (pm mi)) (hv : DE T X W v (pm mv))
    (ha : ∀ v, assign (.Subscript o i pos') X.env v = (do
      let ov ← holding [v] (eval o X.env)
      let iv ← holding [v, ov] (eval i X.env)
      standAt pos'
      holding [v, ov, iv] (setItem ov iv v); release [v, ov, iv] []) := by intro _; rfl)
    (hs : swapsWithSole [.Subscript o i pos'] v pos.line X.env = pure false := by rfl) (hw : swappedStores [.Subscript o i pos'] v X.env = pure none := by rfl) (h1 : (assignEach [.Subscript o i pos'] X.env).map (·.2) = [assign (.Subscript o i pos') X.env] := by rfl) :
    DS T X W (.Assign [.Subscript o i pos'] v pos) (ps (mSetIx mo mi mv)) := (ds_setIx ho hi hv ha hs hw h1).to fun e Po h => by
  refine (post_run' h).mono (fun v e1 h1 => ?_) fun _ _ h => h
  refine (post_run' h1).mono (fun o e2 h2 => ?_) fun _ _ h => h
  refine (post_run' h2).mono (fun i e3 h3 => ?_) fun _ _ h => h
  split at h3
  · rename_i k n h4
    split at h3
    · rename_i ds h5
      split at h3
      · rename_i j d h6 h7
        exact ⟨k, ds, n, j, d, rfl, h5, h4, h6, h7, h3⟩
      · exact h3.elim
    · exact h3.elim
  · exact h3.elim
theorem ms_aug (i : Nat) {x : Str} {pos' : Pos} {op : Operator} {r : R2} {f : OX} {g : OM} (hr : OpR X (inplaceOp op) r) (ho : OpD T r f) (hg : OJ f g) (h : DE T X W b (pm ma)) (hN : X.N.Nodup) (hi : X.N[i]? = some x := by rfl) (hx : Loc X.env.scope x := by first | exact Or.inl rfl | exact Or.inr rfl)
    (hf : X.fn x = true ∨ X.env.scope.names.lookup x = some .local := by first | exact .inl rfl | exact .inr rfl) (hdb : (x == ("__debug__" : Str)) = false := by decide) (hcd : (x == ("__classdict__" : Str)) = false := by decide) : DS T X W (.AugAssign (.Name x pos') op b pos) (ps (mAug i ma g)) := DS.to (t := sAug i (pm ma) f) (ds_aug i hr ho h hN hi hx hf) fun e Po h => by
  unfold ps mAug at h
  split at h
  · rename_i r hr
    refine ⟨r, hr, (post_run' h).mono (fun y e1 h1 => ?_) fun _ _ h => h⟩
    exact hg e1 r y _ Po.xc (post_run' h1)
  · exact h.elim
theorem ms_par {i j : Nat} {v : MA} (h : DS T X W st (sPar i j (pm v))) : DS T X W st (ps (mPar i j v)) := h.to fun e Po h => by
  refine (post_run' h).mono (fun rs e1 h1 => ?_) fun _ _ h => h
  split at h1
  · rename_i a b
    exact ⟨a, b, rfl, h1⟩
  · exact h1.elim
theorem ms_par3 {i j l : Nat} {v : MA} (h : DS T X W st (sPar3 i j l (pm v))) : DS T X W st (ps (mPar3 i j l v)) := h.to fun e Po h => by
  refine (post_run' h).mono (fun rs e1 h1 => ?_) fun _ _ h => h
  split at h1
  · rename_i a b d
    exact ⟨a, b, d, rfl, h1⟩
  · exact h1.elim
/-! ### walks, loops -/
abbrev MI := MF (List RV)
def pI (m : MI) : IX := fun e P R => (m e).post (fun all e1 => P all (fun _ => True) e1) R
def mItems (e : Env) : RV → Option (List RV)
  | .val (.lst ds) => some (ds.map .val)
  | .val (.tup ds) => some (ds.map .val)
  | .val (.str s) => some (s.map fun c => .val (.str [c]))
  | .val _ => none
  | .ob k => match e.ob[k]? with
    | some (.fz (.lst ds)) => some (ds.map .val)
    | some (.fz (.tup ds)) => some (ds.map .val)
    | _ => none
theorem WL.mono {c : BF} {F : Hp} {ad : List Addr} {J : It} {all : List RV} {G G' : Env → Prop} (h : WL T c F ad J all G) (g : ∀ e, G' e → G e) : WL T c F ad J all G' :=
  ⟨fun e σ F H ad i r x p R q => h.go e σ F H ad i r x p R (g e q), fun e σ F H ad i r x H' x1 p R q => h.yld e σ F H ad i r x H' x1 p R (g e q), fun e σ F H ad x p R q => h.stop e σ F H ad x p R (g e q)⟩
theorem DI.to {tg iter : Expr} {t u : IX} (h : DI T X W tg iter t) (g : ∀ e P R, u e P R → t e (fun all G e1 => ∃ G', (∀ e, G' e → G e) ∧ P all G' e1) R) : DI T X W tg iter u := ⟨PI.imp h.pi fun σ H R ⟨c, F, ad, e, P, Rx, rel, q, k, x⟩ =>
  ⟨c, F, ad, e, _, Rx, rel, g e P Rx q, fun J H' F' ad' e' all G x1 p1 rel1 wl ⟨G', hg, q'⟩ => k J H' F' ad' e' all G' x1 p1 rel1 (wl.mono hg) q', x⟩⟩
def mSeqI (m : ME) : MI := fun e => (m e).bind fun r e1 => match mItems e1 r with
  | some all => .ok all e1
  | none => .no
theorem items_seq {e : Env} {r : RV} {all : List RV} (h : mItems e r = some all) : ∃ G, seqI e r = some (all, G) ∧ ∀ e, G e := by
  unfold mItems at h
  split at h
  · cases h
    exact ⟨_, rfl, fun _ => trivial⟩
  · cases h
    exact ⟨_, rfl, fun _ => trivial⟩
  · cases h
    exact ⟨_, rfl, fun _ => trivial⟩
  · cases h
  · rename_i k
    unfold seqI
    dsimp only
    split at h
    · rename_i ds hk
      rw [hk]
      cases h
      exact ⟨_, rfl, fun _ => trivial⟩
    · rename_i ds hk
      rw [hk]
      cases h
      exact ⟨_, rfl, fun _ => trivial⟩
    · cases h
theorem mi_seq {tg l : Expr} (ha : DE T X W l (pm ma)) (hK : X.K = T.K := by rfl) : DI T X W tg l (pI (mSeqI ma)) := (di_seq ha hK).to fun e P R h => by
  refine (post_bind' h).mono (fun r e1 h1 => ?_) fun _ _ h => h
  split at h1
  · rename_i all h2
    obtain ⟨G, h3, h4⟩ := items_seq h2
    exact ⟨all, G, h3, _, fun e _ => h4 e, h1⟩
  · exact h1.elim
def mR1 (u : MA) : MI := fun e => (u e).bind fun rs e1 => match rs with
  | [.val (.int j)] => if -4611686018427387904 ≤ j ∧ j < 4611686018427387904 then .ok ((List.range j.toNat).map fun i : Nat => .val (.int (i : Nat))) e1 else .no
  | _ => .no
def mR2 (u : MA) : MI := fun e => (u e).bind fun rs e1 => match rs with
  | [.val (.int i), .val (.int j)] => if (-4611686018427387904 ≤ i ∧ i < 4611686018427387904) ∧ (-4611686018427387904 ≤ j ∧ j < 4611686018427387904) then .ok ((List.range (j - i).toNat).map fun n : Nat => .val (.int (i + (n : Nat)))) e1 else .no
  | _ => .no
def mEn (u : MA) : MI := fun e => (u e).bind fun rs e1 => match rs with
  | [.val (.lst ds)] => .ok (numd ds) e1
  | [.val (.str z)] => .ok (numd (z.map fun c => .str [c])) e1
  | _ => .no
variable {tg : Expr} {es : List Expr} {v : MA} {p : Pos}
theorem mi_range1 (hm : X.mg "range" = none) (ha : DA T X W [a] (pm v)) (hg : Gl X "range" := by rfl) (hs : starEach [a] X.env = [(false, eval a X.env)] := by rfl) : DI T X W tg (.Call (.Name "range" p) [a] [] pos) (pI (mR1 v)) := (di_range1 hm ha hg hs).to fun e P R h => by
  refine (post_bind' h).mono (fun rs e1 h1 => ?_) fun _ _ h => h
  split at h1
  · rename_i j
    split at h1
    · rename_i hj
      exact ⟨j, rfl, hj.1, hj.2, _, fun e _ => trivial, h1⟩
    · exact h1.elim
  · exact h1.elim
theorem mi_range2 (hm : X.mg "range" = none) (ha : DA T X W [a, b] (pm v)) (hg : Gl X "range" := by rfl) (hs : starEach [a, b] X.env = [(false, eval a X.env), (false, eval b X.env)] := by rfl) (hs2 : starEach [b] X.env = [(false, eval b X.env)] := by rfl) : DI T X W tg (.Call (.Name "range" p) [a, b] [] pos) (pI (mR2 v)) := (di_range2 hm ha hg hs hs2).to fun e P R h => by
  refine (post_bind' h).mono (fun rs e1 h1 => ?_) fun _ _ h => h
  split at h1
  · rename_i i j
    split at h1
    · rename_i hj
      exact ⟨i, j, rfl, ⟨hj.1.1, hj.1.2, hj.2.1, hj.2.2⟩, _, fun e _ => trivial, h1⟩
    · exact h1.elim
  · exact h1.elim
theorem mi_enum {tpos : Pos} {elts : List Expr} {kk : Nat} (hm : X.mg "enumerate" = none) (ha : DA T X W [a] (pm v)) (hK : X.K = T.K := by rfl) (hg : Gl X "enumerate" := by rfl) (hs : starEach [a] X.env = [(false, eval a X.env)] := by rfl) : DI T X W (.Tuple elts kk tpos) (.Call (.Name "enumerate" p) [a] [] pos) (pI (mEn v)) := (di_enum hm ha hK hg hs).to fun e P R h => by
  refine (post_bind' h).mono (fun rs e1 h1 => ?_) fun _ _ h => h
  split at h1
  · rename_i ds
    exact ⟨_, rfl, .inl ⟨ds, rfl, _, fun e _ => rfl, h1⟩⟩
  · rename_i z
    exact ⟨_, rfl, .inr ⟨z, rfl, _, fun e _ => trivial, h1⟩⟩
  · exact h1.elim
theorem pg_some {h : MG} {r : RV} {e e' : Env} {P : Env → Prop} (hh : h r e = some e') (q : P e') : pg h r e P := by
  unfold pg
  rw [hh]
  exact q
def mForL (g : MG) (b : MS) : List RV → Env → SR
  | [], e => .nx e
  | r :: rs, e => match g r e with
    | some e1 => (b e1).lp (mForL g b rs)
    | none => .no
def mFor (ti : MI) (g : MG) (b : MS) : MS := fun e => (ti e).run fun all e1 => mForL g b all e1
theorem for_to {g : MG} {b : MS} {Po : Post} : ∀ (rs : List RV) (e : Env), (mForL g b rs e).post Po → forX (pg g) (ps b) (fun _ => True) Po rs e
  | [], e, h => ⟨trivial, h⟩
  | r :: rs, e, h => by
    rw [mForL] at h
    refine ⟨trivial, ?_⟩
    split at h
    · rename_i e1 h1
      refine pg_some h1 ?_
      rw [post_lp] at h
      show (b e1).post _
      revert h
      cases b e1 with
      | nx e2 => exact for_to rs e2
      | ct e2 => exact for_to rs e2
      | bk e2 => exact id
      | rt r2 e2 => exact id
      | xc x e2 => exact id
      | no => exact id
    · exact h.elim
theorem ms_for {iter tg : Expr} {ti : MI} (hp : PassesOwn (model X.prog X.w) X.A X.env X.xe) (hc : X.calm = true) (hi : DI T X W tg iter (pI ti)) (hg : DG T X tg (pg g)) (hb : DSs T X W ss (ps t))
    (hs : ∀ x, foldedSetIterable iter X.env x = pure x := by intro _; rfl) : DS T X W (.For tg iter ss [] pos) (ps (mFor ti g t)) := (ds_for hp hc hi hg hb hs).to fun e Po h =>
  (post_run' h).mono (fun all e1 h1 => for_to all e1 h1) fun _ _ h => h
def mWhL (c : MT) (b : MS) : Nat → Env → SR
  | 0, _ => .no
  | n + 1, e => (c e).run fun k e1 => if k = true then (b e1).lp (mWhL c b n) else .nx e1
def mWhile (c : MT) (b : MS) : MS := fun e => mWhL c b 1000000 e
theorem while_to {c : MT} {b : MS} {Po : Post} : ∀ (n : Nat) (e : Env), (mWhL c b n e).post Po → whileX (pm c) (ps b) Po n e
  | 0, e, h => h.elim
  | n + 1, e, h => by
    rw [mWhL] at h
    refine (post_run' h).mono (fun k e1 h1 => ?_) fun _ _ h => h
    cases k with
    | true =>
      rw [if_pos rfl] at h1 ⊢
      rw [post_lp] at h1
      show (b e1).post _
      revert h1
      cases b e1 with
      | nx e2 => exact while_to n e2
      | ct e2 => exact while_to n e2
      | bk e2 => exact id
      | rt r2 e2 => exact id
      | xc x e2 => exact id
      | no => exact id
    | false =>
      rw [if_neg Bool.false_ne_true] at h1 ⊢
      exact h1
theorem ms_while (hp : PassesOwn (model X.prog X.w) X.A X.env X.xe) (hc : DT T X W a (pm c)) (hb : DSs T X W ss (ps t)) : DS T X W (.While a ss [] pos) (ps (mWhile c t)) := (ds_while hp hc hb).to fun e Po h => ⟨_, while_to _ e h⟩
end
end DL
end
section
set_option Elab.async false
set_option linter.all false
set_option autoImplicit false
set_option maxRecDepth 100000
set_option maxHeartbeats 2000000
/-! DMF: reckoned readings: comprehensions, defs as functions, calls, raise, try. -/
namespace DL
open PySem PySem.Spec L2
open PyProof.Rows hiding St

/-! ### list comprehensions -/
def putM (k : Nat) (ob : List OD) (y : RV) : Option (List OD) := match ob[k]? with
  | some (.lst ds) => if ds.length < 16777216 then (match dv ⟨[], ob⟩ y with
    | some d => some (ob.set k (.lst (ds ++ [d])))
    | none => none) else none
  | some (.lsr xs) => if xs.length < 16777216 then some (ob.set k (.lsr (xs ++ [y]))) else none
  | _ => none
def stepM (vs : List Nat) (g : MG) (tt : MT) (te : ME) (sl : List (Option RV)) (k : Nat) (r : RV) (ob : List OD) : Option (List OD) := match g r ⟨wipeE sl vs, ob⟩ with
  | some e2 => (match tt e2 with
    | .ok true e3 => (match te e3 with
      | .ok y e4 => putM k e4.ob y
      | _ => none)
    | .ok false e3 => some e3.ob
    | _ => none)
  | none => none
def compM (vs : List Nat) (g : MG) (tt : MT) (te : ME) (sl : List (Option RV)) (k : Nat) : List RV → List OD → Option (List OD)
  | [], ob => some ob
  | r :: rs, ob => match stepM vs g tt te sl k r ob with
    | some ob' => compM vs g tt te sl k rs ob'
    | none => none
/-- the comprehension's list: an object (rv: it may hold objects) -/
def mLc (rv : Bool) (ti : MI) (g : MG) (tt : MT) (te : ME) (vs : List Nat) : ME := fun e => (ti e).bind fun all e1 => match compM vs g tt te e1.sl e1.ob.length all (e1.ob ++ [if rv then .lsr [] else .lst []]) with
  | some ob => .ok (.ob e1.ob.length) ⟨e1.sl, ob⟩
  | none => .no
def mYes : MT := fun e => .ok true e
theorem putM_to {k : Nat} {ob : List OD} {y : RV} {ob' : List OD} {Z : List OD → Prop} (h : putM k ob y = some ob') (q : Z ob') : putL k ob y Z := by
  unfold putM at h
  split at h
  · rename_i ds hk
    split at h
    · rename_i hz
      split at h
      · rename_i d hd
        cases h
        exact .inl ⟨ds, d, hk, hd, by rw [sizeLine_eq]; exact hz, q⟩
      · cases h
    · cases h
  · rename_i xs hk
    split at h
    · rename_i hz
      cases h
      exact .inr (.inr ⟨xs, hk, by rw [sizeLine_eq]; exact hz, q⟩)
    · cases h
  · cases h
theorem pm_ok {α : Type} {m : MF α} {e e' : Env} {a : α} {P : α → Env → Prop} {R : Xc → Env → Prop} (h : m e = .ok a e') (q : P a e') : pm m e P R := by
  unfold pm
  rw [h]
  exact q
theorem comp_to {vs : List Nat} {g : MG} {tt : MT} {te : ME} {sl : List (Option RV)} {k : Nat} {Z : List OD → Prop} : ∀ (rs : List RV) (ob ob' : List OD), compM vs g tt te sl k rs ob = some ob' → Z ob' → compX vs (pg g) (pm tt) (pm te) (fun _ => True) sl k Z rs ob
  | [], ob, ob', h, q => by
    cases h
    exact ⟨trivial, q⟩
  | r :: rs, ob, ob', h, q => by
    rw [compM] at h
    refine ⟨trivial, ?_⟩
    cases hs : stepM vs g tt te sl k r ob with
    | none =>
      rw [hs] at h
      cases h
    | some ob1 =>
      rw [hs] at h
      have next := comp_to rs ob1 ob' h q
      unfold stepM at hs
      cases h1 : g r ⟨wipeE sl vs, ob⟩ with
      | none =>
        rw [h1] at hs
        cases hs
      | some e2 =>
        rw [h1] at hs
        refine pg_some h1 ?_
        dsimp only at hs
        cases h2 : tt e2 with
        | ok b e3 =>
          rw [h2] at hs
          refine pm_ok h2 ?_
          cases b with
          | true =>
            dsimp only at hs ⊢
            rw [if_pos rfl]
            cases h3 : te e3 with
            | ok y e4 =>
              rw [h3] at hs
              refine pm_ok h3 ?_
              exact putM_to hs next
            | xc x e4 =>
              rw [h3] at hs
              cases hs
            | no =>
              rw [h3] at hs
              cases hs
          | false =>
            dsimp only at hs ⊢
            cases hs
            rw [if_neg Bool.false_ne_true]
            exact next
        | xc x e3 =>
          rw [h2] at hs
          cases hs
        | no =>
          rw [h2] at hs
          cases hs
theorem lc_to {rv : Bool} {ti : MI} {g : MG} {tt : MT} {te : ME} {vs : List Nat} : ∀ e P R, pm (mLc rv ti g tt te vs) e P R → eLc (pI ti) (pg g) (pm tt) (pm te) vs e P R := fun e P R h => by
  refine (post_bind' h).mono (fun all e1 h1 => ?_) fun _ _ h => h
  refine ⟨if rv then .lsr [] else .lst [], by cases rv <;> simp, ?_⟩
  split at h1
  · rename_i ob hc
    exact comp_to all _ ob hc h1
  · exact h1.elim
theorem mts_nil {T : Cn} {X : Cx} {W : WX} : DTs T X W [] (pm mYes) := dts_nil
theorem mts_one {T : Cn} {X : Cx} {W : WX} {a : Expr} {t : MT} (h : DT T X W a (pm t)) : DTs T X W [a] (pm t) := dts_one h
section
variable {T : Cn} {X : Cx} {W : WX} {vs : List Nat}
theorem me_lc (rv : Bool) {a : Expr} {ti : MI} {g : MG} {tt : MT} {te : ME} (h : DE T X W a (eLc (pI ti) (pg g) (pm tt) (pm te) vs)) : DE T X W a (pm (mLc rv ti g tt te vs)) := h.to lc_to
end

/-! ### defs as functions -/
inductive FR where
  | ok (r : RV) (ob : List OD) | xc (x : Xc) (ob : List OD) | no
abbrev PF := List RV → List OD → FR
def fxP (p : PF) : FX := fun rs ob P R => match p rs ob with
  | .ok r ob' => P r ob'
  | .xc x ob' => R x ob'
  | .no => False
/-- what is handed back: data; own: an object that is new or was passed -/
def finV (n : Nat) (r : RV) (e : Env) : FR := match fzR 9 e.ob r with
  | some (d, ob') => if flatB n ob' = true then .ok (.val d) (ob'.take n) else .no
  | none => .no
def OD.flat : OD → Bool
  | .fz _ => true
  | .lst _ => true
  | .dic _ => true
  | .lsr xs => xs.all isV
  | .tpr xs => xs.all isV
  | .ins _ fs => fs.all fun p => isV p.2
theorem isV_ren1 {g : Nat → Nat} {r : RV} (h : isV r = true) : r.ren g = r := by
  cases r with
  | val d => rfl
  | ob k => cases h
theorem isV_below {n : Nat} {r : RV} (h : isV r = true) : r.below n = true := by
  cases r with
  | val d => rfl
  | ob k => cases h
theorem flat_ren {o : OD} (h : o.flat = true) (g : Nat → Nat) : o.ren g = o := by
  have hl : ∀ {xs : List RV}, xs.all isV = true → xs.map (RV.ren g) = xs := fun {xs} h => by
    rw [List.all_eq_true] at h
    rw [List.map_congr_left fun a ha => isV_ren1 (g := g) (h a ha)]
    exact List.map_id' xs
  cases o with
  | fz d => rfl
  | lst ds => rfl
  | dic k => rfl
  | lsr xs => exact congrArg OD.lsr (hl h)
  | tpr xs => exact congrArg OD.tpr (hl h)
  | ins c fs =>
    refine congrArg (OD.ins c) ?_
    have h' : fs.all (fun p => isV p.2) = true := h
    rw [List.all_eq_true] at h'
    rw [List.map_congr_left (g := id) fun a ha => by
      show (a.1, a.2.ren g) = a
      rw [isV_ren1 (h' a ha)]]
    exact List.map_id fs
theorem flat_below {o : OD} (h : o.flat = true) (n : Nat) : o.below n = true := by
  cases o with
  | fz d => rfl
  | lst ds => rfl
  | dic k => rfl
  | lsr xs =>
    have h' : xs.all isV = true := h
    rw [List.all_eq_true] at h'
    exact List.all_eq_true.mpr fun a ha => isV_below (h' a ha)
  | tpr xs =>
    have h' : xs.all isV = true := h
    rw [List.all_eq_true] at h'
    exact List.all_eq_true.mpr fun a ha => isV_below (h' a ha)
  | ins c fs =>
    have h' : fs.all (fun p => isV p.2) = true := h
    rw [List.all_eq_true] at h'
    exact List.all_eq_true.mpr fun a ha => isV_below (h' a ha)
/-- the objects that are passed, each once -/
def ksOf : List RV → List Nat
  | [] => []
  | .val _ :: rs => ksOf rs
  | .ob k :: rs => if k ∈ ksOf rs then ksOf rs else k :: ksOf rs
theorem ksOf_nodup : ∀ rs : List RV, (ksOf rs).Nodup
  | [] => List.nodup_nil
  | .val _ :: rs => ksOf_nodup rs
  | .ob k :: rs => by
    unfold ksOf
    split
    · exact ksOf_nodup rs
    · rename_i h
      exact List.nodup_cons.mpr ⟨h, ksOf_nodup rs⟩
theorem ksOf_mem : ∀ {rs : List RV} {k : Nat}, .ob k ∈ rs → k ∈ ksOf rs
  | .val _ :: rs, k, h => by
    rcases List.mem_cons.mp h with h | h
    · cases h
    · exact ksOf_mem (rs := rs) h
  | .ob j :: rs, k, h => by
    unfold ksOf
    rcases List.mem_cons.mp h with h | h
    · cases h
      split
      · assumption
      · exact List.mem_cons_self
    · have := ksOf_mem h
      split
      · exact this
      · exact List.mem_cons_of_mem _ this
def oblOf (ob : List OD) : List Nat → Option (List OD)
  | [] => some []
  | k :: ks => match ob[k]?, oblOf ob ks with
    | some o, some os => if o.flat = true then some (o :: os) else none
    | _, _ => none
theorem oblOf_len {ob : List OD} : ∀ {ks : List Nat} {os : List OD}, oblOf ob ks = some os → os.length = ks.length
  | [], os, h => by cases h; rfl
  | k :: ks, os, h => by
    unfold oblOf at h
    split at h
    · rename_i o os' h1 h2
      split at h
      · cases h
        rw [List.length_cons, List.length_cons, oblOf_len h2]
      · cases h
    · cases h
theorem oblOf_at {ob : List OD} : ∀ {ks : List Nat} {os : List OD} {j : Nat} {o : OD}, oblOf ob ks = some os → os[j]? = some o → o.flat = true ∧ ∃ k, ks[j]? = some k ∧ ob[k]? = some o
  | [], os, j, o, h, g => by cases h; simp at g
  | k :: ks, os, j, o, h, g => by
    unfold oblOf at h
    split at h
    · rename_i o' os' h1 h2
      split at h
      · rename_i hf
        cases h
        cases j with
        | zero =>
          have e : o' = o := by simpa using g
          subst e
          exact ⟨hf, k, rfl, h1⟩
        | succ j =>
          obtain ⟨a, k', b, c⟩ := oblOf_at (j := j) h2 (by simpa using g)
          exact ⟨a, k', by simpa using b, c⟩
      · cases h
    · cases h
/-- an item of a pair of new objects, as it is told outside -/
def RV.outN (n : Nat) (ls : List Nat) : RV → RV
  | .val d => .val d
  | .ob j => .ob (n + 1 + ls.idxOf j)
/-- the objects at these places, each alone -/
def objsAt (n : Nat) (ob : List OD) : List Nat → Option (List OD)
  | [] => some []
  | k :: ks => match ob[k]?, objsAt n ob ks with
    | some o, some os => if (decide (n ≤ k) && o.mut && o.flat) = true then some (o :: os) else none
    | _, _ => none
/-- a new tuple of new objects -/
def finT (n k : Nat) (xs : List RV) (e : Env) : FR := match objsAt n e.ob (ksOf xs) with
  | some os => if (flatB n e.ob && !(ksOf xs).contains k) = true then .ok (.ob n) (e.ob.take n ++ (.tpr (xs.map (RV.outN n (ksOf xs))) :: os)) else .no
  | none => .no
def finO (n : Nat) (r : RV) (e : Env) : FR := match r with
  | .ob k => if k < n then (if flatB n e.ob = true then .ok (.ob k) (e.ob.take n) else .no) else (match e.ob[k]? with
    | some o => if (o.mut && o.below n && flatB n e.ob) = true then .ok (.ob n) (e.ob.take n ++ [o]) else (match o with
      | .tpr xs => finT n k xs e
      | _ => finV n r e)
    | none => .no)
  | .val _ => finV n r e
def finR (own : Bool) (n : Nat) (s : SR) : FR := match s with
  | .nx e => finV n (.val .non) e
  | .rt r e => if own then finO n r e else finV n r e
  | .xc x e => if flatB n e.ob = true then .xc x (e.ob.take n) else .no
  | _ => .no
/-- a def of np parameters, N names, as a function -/
def defP (np N : Nat) (own : Bool) (m : MS) : PF := fun rs ob => if rs.length = np then finR own ob.length (m (startE N rs ob)) else .no
theorem finV_to {n : Nat} {r : RV} {e : Env} {P : RV → List OD → Prop} {R : Xc → List OD → Prop} (h : match finV n r e with
  | .ok r ob' => P r ob'
  | .xc x ob' => R x ob'
  | .no => False) : fin n P r e := by
  unfold finV at h
  cases hf : fzR 9 e.ob r with
  | none =>
    rw [hf] at h
    exact h.elim
  | some p =>
    obtain ⟨d, ob'⟩ := p
    rw [hf] at h
    dsimp only at h
    by_cases hl : flatB n ob' = true
    · rw [if_pos hl] at h
      exact .inl ⟨d, ob', hf, flatB_ok hl, h⟩
    · rw [if_neg hl] at h
      exact h.elim
theorem objsAt_len {n : Nat} {ob : List OD} : ∀ {ks : List Nat} {os : List OD}, objsAt n ob ks = some os → os.length = ks.length
  | [], os, h => by cases h; rfl
  | k :: ks, os, h => by
    unfold objsAt at h
    split at h
    · rename_i o os' h1 h2
      split at h
      · cases h
        rw [List.length_cons, List.length_cons, objsAt_len h2]
      · cases h
    · cases h
theorem objsAt_at {n : Nat} {ob : List OD} : ∀ {ks : List Nat} {os : List OD} {j : Nat} {o : OD}, objsAt n ob ks = some os → os[j]? = some o → o.flat = true ∧ o.mut = true ∧ ∃ k, ks[j]? = some k ∧ ob[k]? = some o
  | [], os, j, o, h, g => by cases h; simp at g
  | k :: ks, os, j, o, h, g => by
    unfold objsAt at h
    split at h
    · rename_i o' os' h1 h2
      split at h
      · rename_i hf
        simp only [Bool.and_eq_true] at hf
        cases h
        cases j with
        | zero =>
          have e : o' = o := by simpa using g
          subst e
          exact ⟨hf.2, hf.1.2, k, rfl, h1⟩
        | succ j =>
          obtain ⟨a, b, k', c, d⟩ := objsAt_at (j := j) h2 (by simpa using g)
          exact ⟨a, b, k', by simpa using c, d⟩
      · cases h
    · cases h
theorem objsAt_le {n : Nat} {ob : List OD} : ∀ {ks : List Nat} {os : List OD}, objsAt n ob ks = some os → ∀ k ∈ ks, n ≤ k
  | [], _, _, k, hk => by cases hk
  | k0 :: ks, os, h, k, hk => by
    unfold objsAt at h
    split at h
    · rename_i o' os' h1 h2
      split at h
      · rename_i hf
        simp only [Bool.and_eq_true, decide_eq_true_eq] at hf
        rcases List.mem_cons.mp hk with rfl | hk
        · exact hf.1.1
        · exact objsAt_le h2 k hk
      · cases h
    · cases h
theorem finT_to {n k : Nat} {xs : List RV} {e : Env} {P : RV → List OD → Prop} {R : Xc → List OD → Prop} (hk : n ≤ k) (ho : e.ob[k]? = some (.tpr xs)) (h : match finT n k xs e with
  | .ok r ob' => P r ob'
  | .xc x ob' => R x ob'
  | .no => False) : fin n P (.ob k) e := by
  unfold finT at h
  cases hs : objsAt n e.ob (ksOf xs) with
  | none =>
    rw [hs] at h
    exact h.elim
  | some os =>
    rw [hs] at h
    dsimp only at h
    by_cases hc : (flatB n e.ob && !(ksOf xs).contains k) = true
    · rw [if_pos hc] at h
      simp only [Bool.and_eq_true, Bool.not_eq_true'] at hc
      have hnm : k ∉ ksOf xs := fun z => by
        have := List.contains_iff_mem.mpr z
        rw [this] at hc
        cases hc.2
      have hg : ∀ j ∈ ksOf xs, gM n (k :: ksOf xs) (n + 1 + (ksOf xs).idxOf j) = j := fun j hj => by
        unfold gM
        rw [if_neg (by omega), show n + 1 + (ksOf xs).idxOf j - n = (ksOf xs).idxOf j + 1 by omega, List.getD_cons_succ, List.getD_eq_getElem?_getD, List.getElem?_eq_getElem (List.idxOf_lt_length_of_mem hj), List.getElem_idxOf]
        rfl
      refine .inr (.inr (.inr ⟨k :: ksOf xs, .tpr (xs.map (RV.outN n (ksOf xs))) :: os, .ob n, List.nodup_cons.mpr ⟨hnm, ksOf_nodup _⟩, ?_, ?_, ?_, ?_, ?_, flatB_ok hc.1, h⟩))
      · intro j hj
        rcases List.mem_cons.mp hj with rfl | hj
        · exact hk
        · exact objsAt_le hs j hj
      · rw [List.length_cons, List.length_cons, objsAt_len hs]
      · intro j o hj
        cases j with
        | zero =>
          have e1 : OD.tpr (xs.map (RV.outN n (ksOf xs))) = o := by simpa using hj
          subst e1
          refine ⟨rfl, ?_, k, rfl, ?_⟩
          · show (xs.map (RV.outN n (ksOf xs))).all (RV.below _) = true
            rw [List.all_map, List.all_eq_true]
            intro r hr
            cases r with
            | val d => rfl
            | ob j =>
              show decide (n + 1 + (ksOf xs).idxOf j < n + (k :: ksOf xs).length) = true
              have := List.idxOf_lt_length_of_mem (ksOf_mem hr)
              rw [List.length_cons]
              exact decide_eq_true (by omega)
          · rw [ho]
            show some (OD.tpr xs) = some (OD.tpr ((xs.map (RV.outN n (ksOf xs))).map (RV.ren (gM n (k :: ksOf xs)))))
            rw [List.map_map]
            congr 2
            conv => lhs; rw [← List.map_id xs]
            refine List.map_congr_left fun r hr => ?_
            cases r with
            | val d => rfl
            | ob j => exact congrArg RV.ob (hg j (ksOf_mem hr)).symm
        | succ j =>
          obtain ⟨a, b, k', g1, g2⟩ := objsAt_at (j := j) hs (by simpa using hj)
          exact ⟨b, flat_below a _, k', by simpa using g1, by rw [flat_ren a]; exact g2⟩
      · show decide (n < n + (k :: ksOf xs).length) = true
        rw [List.length_cons]
        exact decide_eq_true (by omega)
      · show RV.ob k = RV.ob (gM n (k :: ksOf xs) n)
        unfold gM
        rw [if_neg (by omega), Nat.sub_self]
        rfl
    · rw [if_neg hc] at h
      exact h.elim
theorem finO_to {n : Nat} {r : RV} {e : Env} {P : RV → List OD → Prop} {R : Xc → List OD → Prop} (h : match finO n r e with
  | .ok r ob' => P r ob'
  | .xc x ob' => R x ob'
  | .no => False) : fin n P r e := by
  cases r with
  | val d => exact finV_to h
  | ob k =>
    unfold finO at h
    dsimp only at h
    by_cases hk : k < n
    · rw [if_pos hk] at h
      by_cases hl : flatB n e.ob = true
      · rw [if_pos hl] at h
        exact .inr (.inr (.inl ⟨k, rfl, hk, flatB_ok hl, h⟩))
      · rw [if_neg hl] at h
        exact h.elim
    · rw [if_neg hk] at h
      cases ho : e.ob[k]? with
      | none =>
        rw [ho] at h
        exact h.elim
      | some o =>
        rw [ho] at h
        dsimp only at h
        by_cases hc : (o.mut && o.below n && flatB n e.ob) = true
        · rw [if_pos hc] at h
          simp only [Bool.and_eq_true] at hc
          exact .inr (.inl ⟨k, o, rfl, by omega, ho, hc.1.1, hc.1.2, flatB_ok hc.2, h⟩)
        · rw [if_neg hc] at h
          cases o with
          | tpr xs => exact finT_to (by omega) ho h
          | _ => exact finV_to h
theorem finR_to {own : Bool} {n : Nat} {s : SR} {P : RV → List OD → Prop} {R : Xc → List OD → Prop} (h : match finR own n s with
  | .ok r ob' => P r ob'
  | .xc x ob' => R x ob'
  | .no => False) : s.post (endP n P R) := by
  cases s with
  | nx e => exact finV_to h
  | rt r e =>
    unfold finR at h
    dsimp only at h
    cases own with
    | true => exact finO_to h
    | false => exact finV_to h
  | xc x e =>
    unfold finR at h
    dsimp only at h
    by_cases hl : flatB n e.ob = true
    · rw [if_pos hl] at h
      exact ⟨flatB_ok hl, h⟩
    · rw [if_neg hl] at h
      exact h.elim
  | bk e => exact h.elim
  | ct e => exact h.elim
  | no => exact h.elim
theorem okP {T : Cn} {Pg : Program} {w : World} {base : Heap} {k : Nat} {f : Addr} {fd : FuncData} {N ps' : List Str} {name qual : Str} {params : Arguments} {body : List Stmt} {scope : Scope} {dvs : List V} {kws : List (Str × V)} {m : MS} (own : Bool)
    (F : FunD T.K name qual params body scope dvs kws f fd) (S : FnScope N ps' scope) (hb : Bod T Pg w base k N qual scope f body (ps m)) : FnG T Pg w base (k + 1) f fd ps' (fxP (defP ps'.length N.length own m)) :=
  okG F S (fun rs ob P R h => by
    unfold fxP defP at h
    by_cases hl : rs.length = ps'.length
    · exact hl
    · rw [if_neg hl] at h
      exact h.elim) hb fun rs ob P R h => by
    unfold fxP defP at h
    by_cases hl : rs.length = ps'.length
    · rw [if_pos hl] at h
      exact finR_to h
    · rw [if_neg hl] at h
      exact h.elim

/-! ### calls -/
/-- an argument as the callee sees it -/
def RV.loc (ks : List Nat) : RV → RV
  | .val d => .val d
  | .ob k => .ob (ks.idxOf k)
def mCal (m : List Bool) (dd : List D) (p : PF) (rs : List RV) (e : Env) : Res RV := match frz m e.ob rs with
  | none => .no
  | some (rs1, ob1) => match oblOf ob1 (ksOf rs1) with
    | none => .no
    | some obl => match p (rs1.map (RV.loc (ksOf rs1)) ++ dd.map .val) obl with
      | .ok r ob' => .ok (r.ren (out (ksOf rs1) ob1.length)) ⟨e.sl, back (ksOf rs1) ob1 ob'⟩
      | .xc x ob' => .xc x ⟨e.sl, back (ksOf rs1) ob1 ob'⟩
      | .no => .no
theorem mCal_to {m : List Bool} {dd : List D} {p : PF} {rs : List RV} {e : Env} {P : RV → Env → Prop} {R : Xc → Env → Prop} (h : (mCal m dd p rs e).post P R) : cal m dd (fxP p) rs e P R := by
  unfold mCal at h
  cases h1 : frz m e.ob rs with
  | none =>
    rw [h1] at h
    exact h.elim
  | some q =>
    obtain ⟨rs1, ob1⟩ := q
    rw [h1] at h
    dsimp only at h
    cases h2 : oblOf ob1 (ksOf rs1) with
    | none =>
      rw [h2] at h
      exact h.elim
    | some obl =>
      rw [h2] at h
      dsimp only at h
      refine ⟨rs1, ob1, ksOf rs1, obl, rs1.map (RV.loc (ksOf rs1)), h1, ⟨oblOf_len h2, ksOf_nodup _, fun j o hj => ?_, ?_, ?_⟩, ?_⟩
      · obtain ⟨hf, k, g1, g2⟩ := oblOf_at h2 hj
        exact ⟨flat_below hf _, k, g1, by rw [flat_ren hf]; exact g2⟩
      · rw [List.all_map, List.all_eq_true]
        intro r hr
        cases r with
        | val d => rfl
        | ob k =>
          show decide ((ksOf rs1).idxOf k < (ksOf rs1).length) = true
          exact decide_eq_true (List.idxOf_lt_length_of_mem (ksOf_mem hr))
      · rw [List.map_map]
        conv => lhs; rw [← List.map_id rs1]
        refine List.map_congr_left fun r hr => ?_
        cases r with
        | val d => rfl
        | ob k =>
          have hm := ksOf_mem hr
          show RV.ob k = RV.ob (out (ksOf rs1) ob1.length ((ksOf rs1).idxOf k))
          unfold out
          rw [List.getElem?_eq_getElem (List.idxOf_lt_length_of_mem hm), List.getElem_idxOf]
      · unfold fxP
        revert h
        cases p (rs1.map (RV.loc (ksOf rs1)) ++ dd.map .val) obl with
        | ok r ob' => exact id
        | xc x ob' => exact id
        | no => exact id
def mCall (m : List Bool) (dd : List D) (p : PF) (u : MA) : ME := fun e => (u e).bind fun rs e1 => mCal m dd p rs e1
theorem call_to {m : List Bool} {dd : List D} {p : PF} {u : MA} : ∀ e P R, pm (mCall m dd p u) e P R → eCall m dd (fxP p) (pm u) e P R := fun e P R h => (post_bind' h).mono (fun rs e1 h1 => mCal_to h1) fun _ _ h => h
section
variable {T : Cn} {X : Cx} {W : WX}
theorem me_callF {k j n : Nat} {q : PF} {dd : List D} {x : Str} {p pos : Pos} {e : Expr} {es : List Expr} {u : MA} (m : List Bool) (F : GFn T X.prog X.w X.base j x n dd (fxP q)) (hr : Room k X.A) (hgd : X.A.guards = some []) (tk : Takes X W) (ha : DA T X W (e :: es) (pm u)) (hj : j ≤ k := by decide) (hg : Gl X x := by rfl) (hK : X.K = T.K := by rfl) (hM : X.mg = T.mg := by rfl)
    (hdb : (x == ("__debug__" : Str)) = false := by decide) (he : starEach (e :: es) X.env = (false, eval e X.env) :: starEach es X.env := by rfl) (hpl : (backTo pos (starEach es X.env)).any (·.1) = false := by rfl) :
    DE T X W (.Call (.Name x p) (e :: es) [] pos) (pm (mCall m dd q u)) := (de_callF m F hr hgd tk ha hj hg hK hM hdb he hpl).to call_to
theorem me_callF0 {k j : Nat} {q : PF} {dd : List D} {x : Str} {p pos : Pos} (F : GFn T X.prog X.w X.base j x 0 dd (fxP q)) (hr : Room k X.A) (hgd : X.A.guards = some []) (tk : Takes X W) (hj : j ≤ k := by decide) (hg : Gl X x := by rfl) (hK : X.K = T.K := by rfl) (hM : X.mg = T.mg := by rfl)
    (hdb : (x == ("__debug__" : Str)) = false := by decide) : DE T X W (.Call (.Name x p) [] [] pos) (pm (mCall [] dd q mNil)) := (de_callF0 F hr hgd tk hj hg hK hM hdb).to fun e P R h => call_to (u := mNil) e P R h
end
end DL
end
section
set_option Elab.async false
set_option linter.all false
set_option autoImplicit false
set_option maxRecDepth 100000
set_option maxHeartbeats 2000000
/-! DMG: reckoned readings: assigned comprehensions, raise, try .. except C as n. -/
namespace DL
open PySem PySem.Spec L2
open PyProof.Rows hiding St
section
variable {T : Cn} {X : Cx} {W : WX}
theorem LE.to {t u : EX} (g : ∀ e P R, u e P R → t e P R) {σ : L2.St} {H : Hp} {Q : VK} (h : LE T W u σ H Q) : LE T W t σ H Q := by
  obtain ⟨c, F, ad, e, P, R, rel, q, x⟩ := h
  exact ⟨c, F, ad, e, P, R, rel, g e P R q, x⟩
theorem le_fzV {ma : ME} {σ : L2.St} {H : Hp} {Q : VK} (hh : LE T W (pm (mFzV ma)) σ H Q) : LE T W (pm ma) σ H Q := by
  obtain ⟨c, F, ad, e, P, R, rel, q, hq, hx⟩ := hh
  unfold pm mFzV at q
  rw [post_bind] at q
  refine ⟨c, F, ad, e, _, R, rel, q, fun v H1 F1 ad1 e1 r x1 p1 rel1 r1 q1 => ?_, hx⟩
  dsimp only at q1
  split at q1
  · rename_i d ob' h1
    split at q1
    · rename_i hg
      obtain ⟨sl1, ob1⟩ := e1
      obtain ⟨F2, x2, rel2, g2⟩ := fzR_ok 9 rel1 h1
      have rel3 := Rel.go (vs := []) rel rel2 p1 hg
      exact hq v H1 F2 ad _ (.val d) (x1.trans x2) (Px.refl _) rel3 (g2 v r1) q1
    · exact q1.elim
  · exact q1.elim
theorem ms_setLc (rv : Bool) {vs : List Nat} (i : Nat) {y : Str} {py : Pos} {elt tg iter : Expr} {ifs : List Expr} {scope : Scope} {own : List (Str × Nat)} {pos spos : Pos} {ti : MI} {g : MG} {tt : MT} {te : ME} (hc : X.calm = true) (hN : X.N.Nodup) (hi : DI T X W tg iter (pI ti)) (ok : BlkOk X.N X.env.scope scope own)
    (hsw : swapsWith (.ListComp elt [⟨tg, iter, ifs, 0⟩] scope pos) (some (.Name y py)) spos.line X.env = pure true) (hv : own.map (·.2) = vs := by rfl) (hy : X.N[i]? = some y := by rfl) (hyl : X.env.scope.names.lookup y = some .local := by rfl)
    (hg : ∀ (s : Shared) (H : Hp) (C : Addr) (cl : List (Str × Addr)) (fp : List Addr), DGw T (X.blk s H scope (compEnvC scope cl C X.env) fp) vs tg (pg g)) (ht : ∀ (s : Shared) (H : Hp) (C : Addr) (cl : List (Str × Addr)) (fp : List Addr), DTs T (X.blk s H scope (compEnvC scope cl C X.env) fp) W0 ifs (pm tt))
    (he : ∀ (s : Shared) (H : Hp) (C : Addr) (cl : List (Str × Addr)) (fp : List Addr), DE T (X.blk s H scope (compEnvC scope cl C X.env) fp) W0 elt (pm te)) (hs : ∀ x, foldedSetIterable iter X.env x = pure x := by intro _; rfl) :
    DS T X W (.Assign [.Name y py] (.ListComp elt [⟨tg, iter, ifs, 0⟩] scope pos) spos) (ps (mAsg (mLc rv ti g tt te vs) (mNm i))) := by
  subst hv
  exact ⟨PS.imp (ps_setLc hc hN hy hyl hsw hi.pi ok (fun s H C cl fp => (hg s H C cl fp).pg) (fun s H C cl fp => (ht s H C cl fp).pts) (fun s H C cl fp => (he s H C cl fp).pe) hs) fun D σ H h => by
    obtain ⟨c, F, ad, e, Po, rel, q, n, r, x, bk, ct⟩ := h
    exact le_lc (LE.to lc_to ⟨c, F, ad, e, _, _, rel, post_run' q, fun v H1 F1 ad1 e1 rr x1 p1 rel1 r1 q1 => n _ H1 F1 ad1 _ x1 p1 (rel1.put r1) q1, x⟩)⟩
theorem ms_setLcV {vs : List Nat} (i : Nat) {y : Str} {py : Pos} {elt tg iter : Expr} {ifs : List Expr} {scope : Scope} {own : List (Str × Nat)} {pos spos : Pos} {ti : MI} {g : MG} {tt : MT} {te : ME} (hc : X.calm = true) (hN : X.N.Nodup) (hi : DI T X W tg iter (pI ti)) (ok : BlkOk X.N X.env.scope scope own)
    (hsw : swapsWith (.ListComp elt [⟨tg, iter, ifs, 0⟩] scope pos) (some (.Name y py)) spos.line X.env = pure true) (hv : own.map (·.2) = vs := by rfl) (hy : X.N[i]? = some y := by rfl) (hyl : X.env.scope.names.lookup y = some .local := by rfl)
    (hg : ∀ (s : Shared) (H : Hp) (C : Addr) (cl : List (Str × Addr)) (fp : List Addr), DGw T (X.blk s H scope (compEnvC scope cl C X.env) fp) vs tg (pg g)) (ht : ∀ (s : Shared) (H : Hp) (C : Addr) (cl : List (Str × Addr)) (fp : List Addr), DTs T (X.blk s H scope (compEnvC scope cl C X.env) fp) W0 ifs (pm tt))
    (he : ∀ (s : Shared) (H : Hp) (C : Addr) (cl : List (Str × Addr)) (fp : List Addr), DE T (X.blk s H scope (compEnvC scope cl C X.env) fp) W0 elt (pm te)) (hs : ∀ x, foldedSetIterable iter X.env x = pure x := by intro _; rfl) :
    DS T X W (.Assign [.Name y py] (.ListComp elt [⟨tg, iter, ifs, 0⟩] scope pos) spos) (ps (mAsg (mFzV (mLc false ti g tt te vs)) (mNm i))) := by
  subst hv
  exact ⟨PS.imp (ps_setLc hc hN hy hyl hsw hi.pi ok (fun s H C cl fp => (hg s H C cl fp).pg) (fun s H C cl fp => (ht s H C cl fp).pts) (fun s H C cl fp => (he s H C cl fp).pe) hs) fun D σ H h => by
    obtain ⟨c, F, ad, e, Po, rel, q, n, r, x, bk, ct⟩ := h
    exact le_lc (LE.to lc_to (le_fzV ⟨c, F, ad, e, _, _, rel, post_run' q, fun v H1 F1 ad1 e1 rr x1 p1 rel1 r1 q1 => n _ H1 F1 ad1 _ x1 p1 (rel1.put r1) q1, x⟩))⟩

/-! ### raise -/
def valsOf : List RV → Option (List D)
  | [] => some []
  | .val d :: rs => (valsOf rs).map (d :: ·)
  | .ob _ :: _ => none
theorem valsOf_eq : ∀ {rs : List RV} {ds : List D}, valsOf rs = some ds → rs = ds.map .val
  | [], ds, h => by cases h; rfl
  | .val d :: rs, ds, h => by
    rw [valsOf] at h
    obtain ⟨es, h1, h2⟩ := Option.map_eq_some_iff.mp h
    rw [← h2, valsOf_eq h1]
    rfl
  | .ob _ :: _, _, h => by cases h
def mRaise (c : Nat) (fl : List Nat) (u : MA) : MS := fun e => (u e).run fun rs e1 => match frz (allFrz rs) e1.ob rs with
  | some (qs, ob') => (match valsOf qs with
    | some ds => if rs.length ≤ 900 ∧ ds.length = fl.length then .xc ⟨c, fl.zip ds⟩ ⟨e1.sl, ob'⟩ else .no
    | none => .no)
  | none => .no
theorem raise_to {c : Nat} {fl : List Nat} {u : MA} : ∀ e Po, ps (mRaise c fl u) e Po → sRaise c fl (pm u) e Po := fun e Po h => by
  refine (post_run' h).mono (fun rs e1 h1 => ?_) fun _ _ h => h
  split at h1
  · rename_i qs ob' h2
    split at h1
    · rename_i ds h3
      split at h1
      · rename_i h4
        exact ⟨h4.1, ds, ob', by rw [h2, valsOf_eq h3], h4.2, h1⟩
      · exact h1.elim
    · exact h1.elim
  · exact h1.elim
theorem ms_raise {st : Stmt} {c : Nat} {fl : List Nat} {u : MA} (h : DS T X W st (sRaise c fl (pm u))) : DS T X W st (ps (mRaise c fl u)) := h.to raise_to

/-! ### try .. except C as n -/
/-- the name i is forgotten -/
def unp (i : Nat) (e : Env) : Env := { e with sl := e.sl.set i none }
def SR.unp (i : Nat) : SR → SR
  | .nx e => .nx (DL.unp i e)
  | .bk e => .bk (DL.unp i e)
  | .ct e => .ct (DL.unp i e)
  | .rt r e => .rt r (DL.unp i e)
  | .xc _ _ => .no
  | .no => .no
/-- h: what the suite does, of the error's class and fields -/
def mTryAs (i : Nat) (isA : Nat → Option Bool) (b : MS) (h : Nat → List (Nat × D) → MS) : MS := fun e => match b e with
  | .xc x e1 => (match isA x.c with
    | some true => if i < e1.sl.length then (h x.c x.fs (unp i e1)).unp i else .no
    | some false => .xc x e1
    | none => .no)
  | r => r
/-- the suite at an error does as h says -/
def HJ (T : Cn) (i : Nat) (mh : Addr → Value → Option Addr → MS) (h : Nat → List (Nat × D) → MS) : Prop :=
  ∀ (a : Addr) (cls : Value) (d : Option Addr) (dd : Addr) (c : Nat) (fs : List (Nat × D)) (sl : List (Option RV)) (ob : List OD), ClsIs T cls c → (fs ≠ [] → d = some dd) → i < sl.length → h c fs ⟨sl.set i none, ob⟩ ≠ .no → (mh a cls d ⟨sl.set i (some (.val (.exn a dd c fs))), ob⟩).unp i = (h c fs ⟨sl.set i none, ob⟩).unp i
theorem ms_tryAs (i : Nat) {x n : Str} {cv : Value} {body suite : List Stmt} {b₀ : Stmt} {np pos pos' : Pos} {b : MS} {mh : Addr → Value → Option Addr → MS} {h : Nat → List (Nat × D) → MS} {isA : Nat → Option Bool} (hN : X.N.Nodup) (hc : Names X x cv) (tk : Takes X W)
    (hA : ∀ c k, isA c = some k → ∀ C, T.mg (T.nm c) = some (.ref C) → PySem.W.exmOne T.K (.ref C) cv = some k)
    (hb : ∀ (W' : WX) (pn : List (Addr × Obj)) (xe : Value → Shared → Prop), Takes (X.tr pn xe) W' → PassesOwn (model X.prog X.w) X.A X.env xe → DSs T (X.tr pn xe) W' body (ps b))
    (hsu : ∀ (a : Addr) (oe : Obj) (cls : Value) (d : Option Addr) (pn : List (Addr × Obj)), Zc cls d oe → (∃ vs, oe.data = .fields vs) → DSs T (X.suite a ((a, oe) :: pn)) W0 (b₀ :: suite) (ps (mh a cls d)))
    (hj : HJ T i mh h)
    (hs : X.stack = X.env :: X.outer := by rfl) (hf : X.env.frame = some X.env.locals := by rfl) (hi : X.N[i]? = some n := by rfl) (hln : X.env.kindOf n = some .local := by rfl) (hK : X.K = T.K := by rfl) :
    DS T X W (.Try body [.ExceptHandler (some (.Name x np)) (some n) (b₀ :: suite) pos'] [] [] pos) (ps (mTryAs i isA b h)) :=
  ⟨PS.imp (ds_tryAs (T := T) (W := W) i hN hc tk hA (b := ps b) (h := fun a cls d => ps (mh a cls d)) hb hsu hs hf hi hln hK).ps fun D σ H hh => by
    obtain ⟨c, F, ad, e, Po, rel, q, nx, rt, x, bk, ct⟩ := hh
    refine ⟨c, F, ad, e, { Po with rt := fun r e => Po.rt r (unp i e) ∨ Po.rt r e }, rel, ?_, nx, fun v σ' H' F' ad' e' r x1 p1 rel1 r1 q1 => ?_, x, bk, ct⟩
    · unfold ps mTryAs at q
      show (b e).post _
      revert q
      cases b e with
      | nx e1 => exact id
      | rt r e1 => exact fun q => .inr q
      | bk e1 => exact id
      | ct e1 => exact id
      | no => exact id
      | xc x e1 =>
        intro q
        dsimp only at q
        split at q
        · rename_i hA1
          split at q
          · rename_i hl
            refine ⟨true, hA1, ?_⟩
            rw [if_pos rfl]
            intro a cls d dd hcl hdd
            have hne : h x.c x.fs ⟨e1.sl.set i none, e1.ob⟩ ≠ .no := fun z => by
              unfold unp at q
              rw [z] at q
              exact q
            have e2 := hj a cls d dd x.c x.fs e1.sl e1.ob hcl hdd hl hne
            have q' : ((mh a cls d ⟨e1.sl.set i (some (.val (.exn a dd x.c x.fs))), e1.ob⟩).unp i).post Po := by
              rw [e2]
              exact q
            show (mh a cls d ⟨e1.sl.set i (some (.val (.exn a dd x.c x.fs))), e1.ob⟩).post _
            revert q'
            cases mh a cls d ⟨e1.sl.set i (some (.val (.exn a dd x.c x.fs))), e1.ob⟩ with
            | nx e3 => exact id
            | rt r e3 => exact fun q => .inl q
            | bk e3 => exact id
            | ct e3 => exact id
            | no => exact id
            | xc x e3 => exact id
          · exact q.elim
        · rename_i hA1
          refine ⟨false, hA1, ?_⟩
          rw [if_neg Bool.false_ne_true]
          exact q
        · exact q.elim
    · rcases q1 with q1 | q1
      · exact rt v (σ'.set i none) H' F' ad' _ r x1 p1 (rel1.unput i) r1 q1
      · exact rt v σ' H' F' ad' e' r x1 p1 rel1 r1 q1⟩
open Classical in
/-- n.f in the suite -/
noncomputable def mXf (T : Cn) (a : Addr) (cls : Value) (d : Option Addr) (cs : List Nat) (f : Nat) (m : ME) : ME := fun e => (m e).bind fun r e1 => match r with
  | .val (.exn a' dd c fs) => if a' = a ∧ ClsIs T cls c ∧ d = some dd ∧ c ∈ cs then (match fs.lookup f with
    | some v => .ok (.val v) e1
    | none => .no) else .no
  | _ => .no
theorem xf_to {a : Addr} {cls : Value} {d : Option Addr} {cs : List Nat} {f : Nat} {m : ME} : ∀ e P R, pm (mXf T a cls d cs f m) e P R → eXf T a cls d cs f (pm m) e P R := fun e P R h => by
  refine (post_bind' h).mono (fun r e1 h1 => ?_) fun _ _ h => h
  split at h1
  · rename_i a' dd c fs
    split at h1
    · rename_i hc
      split at h1
      · rename_i v hv
        obtain ⟨rfl, h2, h3, h4⟩ := hc
        exact ⟨dd, c, fs, v, rfl, h2, h3, h4, hv, h1⟩
      · exact h1.elim
    · exact h1.elim
  · exact h1.elim
theorem me_xf {a : Addr} {cls : Value} {d : Option Addr} {cs : List Nat} {f : Nat} {m : ME} {z : Expr} (h : DE T X W z (eXf T a cls d cs f (pm m))) : DE T X W z (pm (mXf T a cls d cs f m)) := h.to xf_to
open Classical in
/-- isinstance(n, C) in the suite -/
noncomputable def mXi (T : Cn) (a : Addr) (cls : Value) (d : Option Addr) (ans : Nat → Option Bool) (m : ME) : ME := fun e => (m e).bind fun r e1 => match r with
  | .val (.exn a' dd c fs) => if a' = a ∧ ClsIs T cls c ∧ fs ≠ [] ∧ d = some dd then (match ans c with
    | some b => .ok (.val (.bl b)) e1
    | none => .no) else .no
  | _ => .no
theorem xi_to {a : Addr} {cls : Value} {d : Option Addr} {ans : Nat → Option Bool} {m : ME} : ∀ e P R, pm (mXi T a cls d ans m) e P R → eXi T a cls d ans (pm m) e P R := fun e P R h => by
  refine (post_bind' h).mono (fun r e1 h1 => ?_) fun _ _ h => h
  split at h1
  · rename_i a' dd c fs
    split at h1
    · rename_i hc
      split at h1
      · rename_i b hb
        obtain ⟨rfl, h2, h3, h4⟩ := hc
        exact ⟨dd, c, fs, b, rfl, h2, h3, h4, hb, h1⟩
      · exact h1.elim
    · exact h1.elim
  · exact h1.elim
theorem me_isX {a : Addr} {cls : Value} {d : Option Addr} {ans : Nat → Option Bool} {m : ME} {z : Expr} (h : DE T X W z (eXi T a cls d ans (pm m))) : DE T X W z (pm (mXi T a cls d ans m)) := h.to xi_to
/-! what stands for these in the reckoning -/
def mFd (cs : List Nat) (c : Nat) (fs : List (Nat × D)) (f : Nat) : ME := fun e => if c ∈ cs then (match fs.lookup f with
  | some v => .ok (.val v) e
  | none => .no) else .no
def mIs (ans : Nat → Option Bool) (c : Nat) (fs : List (Nat × D)) : ME := fun e => if fs.isEmpty then .no else (match ans c with
  | some b => .ok (.val (.bl b)) e
  | none => .no)
end
end DL
end
section
set_option Elab.async false
set_option linter.all false
set_option autoImplicit false
set_option maxRecDepth 100000
set_option maxHeartbeats 2000000
/-! DMH: what an except suite does, told without the error's address; the law's end. -/
namespace DL
open PySem PySem.Spec L2
open PyProof.Rows hiding St
/-- with the error at i m1 does what m0 does without -/
def SimE {α : Type} (sl : List (Option RV)) (i : Nat) (x : Option RV) (m1 m0 : MF α) : Prop := ∀ ob, m0 ⟨sl.set i none, ob⟩ = .no ∨ ∃ r ob', m0 ⟨sl.set i none, ob⟩ = .ok r ⟨sl.set i none, ob'⟩ ∧ m1 ⟨sl.set i x, ob⟩ = .ok r ⟨sl.set i x, ob'⟩
def SimO (g : OM) : Prop := ∀ sl sl' ob x y, g ⟨sl, ob⟩ x y = .no ∨ ∃ r ob', g ⟨sl, ob⟩ x y = .ok r ⟨sl, ob'⟩ ∧ g ⟨sl', ob⟩ x y = .ok r ⟨sl', ob'⟩
def SimB (g : BM) : Prop := ∀ sl sl' ob rs, g ⟨sl, ob⟩ rs = .no ∨ ∃ r ob', g ⟨sl, ob⟩ rs = .ok r ⟨sl, ob'⟩ ∧ g ⟨sl', ob⟩ rs = .ok r ⟨sl', ob'⟩
section
variable {sl : List (Option RV)} {i : Nat} {x : Option RV}
theorem SimE.bind {α β : Type} {m1 m0 : MF α} {k1 k0 : α → MF β} (h : SimE sl i x m1 m0) (hk : ∀ a, SimE sl i x (k1 a) (k0 a)) : SimE sl i x (fun e => (m1 e).bind fun a e1 => k1 a e1) (fun e => (m0 e).bind fun a e1 => k0 a e1) := fun ob => by
  rcases h ob with h | ⟨r, ob1, h0, h1⟩
  · left
    dsimp only
    rw [h]
    rfl
  · dsimp only
    rw [h0, h1]
    exact hk r ob1
theorem sim_D {d : D} : SimE sl i x (mD d) (mD d) := fun ob => .inr ⟨_, ob, rfl, rfl⟩
theorem sim_var {j : Nat} (h : i ≠ j := by decide) : SimE sl i x (mVar j) (mVar j) := fun ob => by
  unfold mVar
  dsimp only
  rw [List.getElem?_set_ne h, List.getElem?_set_ne h]
  cases hj : sl[j]? with
  | none => exact .inl rfl
  | some o => cases o with
    | none => exact .inl rfl
    | some r => exact .inr ⟨r, ob, rfl, rfl⟩
theorem sim_2 {g : OM} {a1 a0 b1 b0 : ME} (hg : SimO g) (ha : SimE sl i x a1 a0) (hb : SimE sl i x b1 b0) : SimE sl i x (m2 g a1 b1) (m2 g a0 b0) := ha.bind fun u => hb.bind fun v ob => hg _ _ ob u v
theorem sim_B {g : BM} {u1 u0 : MA} (hg : SimB g) (ha : SimE sl i x u1 u0) : SimE sl i x (mB g u1) (mB g u0) := ha.bind fun u ob => hg _ _ ob u
theorem sim_nil : SimE sl i x mNil mNil := fun ob => .inr ⟨_, ob, rfl, rfl⟩
theorem sim_cons {a1 a0 : ME} {u1 u0 : MA} (ha : SimE sl i x a1 a0) (hu : SimE sl i x u1 u0) : SimE sl i x (mCons a1 u1) (mCons a0 u0) := ha.bind fun r => hu.bind fun rs ob => .inr ⟨_, ob, rfl, rfl⟩
theorem allD_sl {s s' : List (Option RV)} {ob : List OD} : ∀ rs : List RV, allD ⟨s, ob⟩ rs = allD ⟨s', ob⟩ rs
  | [] => rfl
  | r :: rs => by
    have e1 : dv ⟨s, ob⟩ r = dv ⟨s', ob⟩ r := by cases r <;> rfl
    rw [allD, allD, e1, allD_sl rs]
theorem sim_tup {u1 u0 : MA} (hu : SimE sl i x u1 u0) : SimE sl i x (mTup u1) (mTup u0) := hu.bind fun rs ob => by
  by_cases hl : rs.length ≤ 16777216
  · rw [if_pos hl, allD_sl (s' := sl.set i x)]
    right
    cases hd : allD ⟨sl.set i x, ob⟩ rs with
    | none => exact ⟨_, _, rfl, by first | (rw [if_pos hl]; done) | (rw [if_pos hl]; rfl)⟩
    | some ds => exact ⟨_, _, rfl, by first | (rw [if_pos hl]; done) | (rw [if_pos hl]; rfl)⟩
  · left
    rw [if_neg hl]
theorem sim_lstV {u1 u0 : MA} (hu : SimE sl i x u1 u0) : SimE sl i x (mLstV u1) (mLstV u0) := hu.bind fun rs ob => by
  by_cases hl : rs.length ≤ 16777216
  · rw [if_pos hl, allD_sl (s' := sl.set i x)]
    cases hd : allD ⟨sl.set i x, ob⟩ rs with
    | none => exact .inl rfl
    | some ds => exact .inr ⟨_, _, rfl, by first | (rw [if_pos hl]; done) | (rw [if_pos hl]; rfl)⟩
  · left
    rw [if_neg hl]
theorem sim_and {a1 a0 b1 b0 : ME} (ha : SimE sl i x a1 a0) (hb : SimE sl i x b1 b0) : SimE sl i x (mAndV a1 b1) (mAndV a0 b0) := ha.bind fun r ob => by
  cases r with
  | val d => cases d with
    | bl k => cases k with
      | true => exact hb ob
      | false => exact .inr ⟨_, ob, rfl, rfl⟩
    | _ => exact .inl rfl
  | ob k => exact .inl rfl
theorem sim_or {a1 a0 b1 b0 : ME} (ha : SimE sl i x a1 a0) (hb : SimE sl i x b1 b0) : SimE sl i x (mOrV a1 b1) (mOrV a0 b0) := ha.bind fun r ob => by
  cases r with
  | val d => cases d with
    | bl k => cases k with
      | false => exact hb ob
      | true => exact .inr ⟨_, ob, rfl, rfl⟩
    | _ => exact .inl rfl
  | ob k => exact .inl rfl
theorem sim_not {a1 a0 : ME} (ha : SimE sl i x a1 a0) : SimE sl i x (mNotV a1) (mNotV a0) := ha.bind fun r ob => by
  cases r with
  | val d => cases d with
    | bl k => exact .inr ⟨_, ob, rfl, rfl⟩
    | _ => exact .inl rfl
  | ob k => exact .inl rfl
theorem dv_sl {s s' : List (Option RV)} {ob : List OD} (r : RV) : dv ⟨s, ob⟩ r = dv ⟨s', ob⟩ r := by cases r <;> rfl
theorem rd_sl {s s' : List (Option RV)} {ob : List OD} (r : RV) : rd ⟨s, ob⟩ r = rd ⟨s', ob⟩ r := rfl
theorem so_eq {neg : Bool} : SimO (eqM neg) := fun s s' ob u v => by
  unfold eqM
  rw [dv_sl (s' := s') u, dv_sl (s' := s') v, rd_sl (s' := s') u, rd_sl (s' := s') v]
  repeat' split
  all_goals first
    | exact .inl rfl
    | exact .inr ⟨_, _, rfl, rfl⟩
theorem so_in {neg : Bool} : SimO (inM neg) := fun s s' ob u v => by
  unfold inM
  rw [dv_sl (s' := s') u, dv_sl (s' := s') v, rd_sl (s' := s') u, rd_sl (s' := s') v]
  repeat' split
  all_goals first
    | exact .inl rfl
    | exact .inr ⟨_, _, rfl, rfl⟩
theorem so_ix0 {g : Int → Int → D} : SimO (ixM0 g) := fun s s' ob u v => by
  unfold ixM0
  rw [dv_sl (s' := s') u, dv_sl (s' := s') v]
  repeat' split
  all_goals first
    | exact .inl rfl
    | exact .inr ⟨_, _, rfl, rfl⟩
theorem sb_repr : SimB reprM := fun s s' ob rs => by
  unfold reprM b1
  cases rs with
  | nil => exact .inl rfl
  | cons r q => cases q with
    | cons r2 q => exact .inl rfl
    | nil =>
      dsimp only
      rw [rd_sl (s' := s') r]
      repeat' split
      all_goals first
        | exact .inl rfl
        | exact .inr ⟨_, _, rfl, rfl⟩
theorem sim_isN {neg : Bool} {a1 a0 : ME} (ha : SimE sl i x a1 a0) : SimE sl i x (isNM neg a1) (isNM neg a0) := ha.bind fun r ob => by
  rw [dv_sl (s' := sl.set i x) r]
  cases dv ⟨sl.set i x, ob⟩ r with
  | none => exact .inl rfl
  | some d => exact .inr ⟨_, ob, rfl, rfl⟩
theorem sim_val {a1 a0 : ME} (ha : SimE sl i x a1 a0) : SimE sl i x (mVal a1) (mVal a0) := ha.bind fun r ob => by
  unfold toBl
  split
  · exact .inr ⟨_, ob, rfl, rfl⟩
  · exact .inl rfl
theorem sim_ifE {c1 c0 : MT} {a1 a0 b1 b0 : ME} (hc : SimE sl i x c1 c0) (ha : SimE sl i x a1 a0) (hb : SimE sl i x b1 b0) : SimE sl i x (mIfE c1 a1 b1) (mIfE c0 a0 b0) := hc.bind fun b ob => by
  cases b with
  | true =>
    rw [if_pos rfl, if_pos rfl]
    exact ha ob
  | false =>
    rw [if_neg Bool.false_ne_true, if_neg Bool.false_ne_true]
    exact hb ob
open Classical in
theorem sim_xf {T : Cn} {a : Addr} {cls : Value} {d : Option Addr} {dd : Addr} {c : Nat} {fs : List (Nat × D)} {cs : List Nat} {f : Nat} (hcl : ClsIs T cls c) (hdd : fs ≠ [] → d = some dd) (hi : i < sl.length) : SimE sl i (some (.val (.exn a dd c fs))) (mXf T a cls d cs f (mVar i)) (mFd cs c fs f) := fun ob => by
  unfold mFd
  by_cases hc : c ∈ cs
  · rw [if_pos hc]
    cases hf : fs.lookup f with
    | none => exact .inl rfl
    | some v =>
      have hne : fs ≠ [] := fun z => by rw [z] at hf; cases hf
      refine .inr ⟨.val v, ob, rfl, ?_⟩
      unfold mXf mVar
      dsimp only
      rw [List.getElem?_set_self hi]
      show (if a = a ∧ ClsIs T cls c ∧ d = some dd ∧ c ∈ cs then (match fs.lookup f with
        | some v => Res.ok (RV.val v) _
        | none => Res.no) else Res.no) = _
      rw [if_pos ⟨rfl, hcl, hdd hne, hc⟩, hf]
  · left
    rw [if_neg hc]
open Classical in
theorem sim_xi {T : Cn} {a : Addr} {cls : Value} {d : Option Addr} {dd : Addr} {c : Nat} {fs : List (Nat × D)} {ans : Nat → Option Bool} (hcl : ClsIs T cls c) (hdd : fs ≠ [] → d = some dd) (hi : i < sl.length) : SimE sl i (some (.val (.exn a dd c fs))) (mXi T a cls d ans (mVar i)) (mIs ans c fs) := fun ob => by
  unfold mIs
  cases fs with
  | nil => exact .inl rfl
  | cons p fs =>
    have hne : p :: fs ≠ [] := List.cons_ne_nil _ _
    rw [if_neg (by simp)]
    cases ha : ans c with
    | none => exact .inl rfl
    | some b =>
      refine .inr ⟨.val (.bl b), ob, rfl, ?_⟩
      unfold mXi mVar
      dsimp only
      rw [List.getElem?_set_self hi]
      show (if a = a ∧ ClsIs T cls c ∧ p :: fs ≠ [] ∧ d = some dd then (match ans c with
        | some b => Res.ok (RV.val (.bl b)) _
        | none => Res.no) else Res.no) = _
      rw [if_pos ⟨rfl, hcl, hne, hdd hne⟩, ha]
/-- .. statements -/
def SimS (sl : List (Option RV)) (i : Nat) (x : Option RV) (s1 s0 : MS) : Prop := ∀ ob, s0 ⟨sl.set i none, ob⟩ ≠ .no → (s1 ⟨sl.set i x, ob⟩).unp i = (s0 ⟨sl.set i none, ob⟩).unp i
theorem sims_ret {a1 a0 : ME} (ha : SimE sl i x a1 a0) : SimS sl i x (mRet a1) (mRet a0) := fun ob hne => by
  unfold mRet at hne ⊢
  rcases ha ob with h | ⟨r, ob', h0, h1⟩
  · rw [h] at hne
    exact absurd rfl hne
  · rw [h0, h1]
    show SR.rt r (unp i _) = SR.rt r (unp i _)
    unfold unp
    rw [List.set_set, List.set_set]
theorem hj_of {T : Cn} {mh : Addr → Value → Option Addr → MS} {h : Nat → List (Nat × D) → MS} (hh : ∀ (a : Addr) (cls : Value) (d : Option Addr) (dd : Addr) (c : Nat) (fs : List (Nat × D)) (sl : List (Option RV)), ClsIs T cls c → (fs ≠ [] → d = some dd) → i < sl.length → SimS sl i (some (.val (.exn a dd c fs))) (mh a cls d) (h c fs)) : HJ T i mh h :=
  fun a cls d dd c fs sl ob h1 h2 h3 h4 => hh a cls d dd c fs sl h1 h2 h3 ob h4
end
/-! ### the law's end -/
theorem lawP {T : Cn} {P : Program} {w : World} {base : Heap} {k : Nat} {f : Addr} {fd : FuncData} {x : Str} {p : PF} {n : Nat} (F : FnG T P w base k f fd [x] (fxP p)) (h : ∀ ns : List Int, ns.length ≤ n → p [.val (.lst (ns.map .int))] [] = .ok (.val (.bl true)) []) : FnG T P w base k f fd [x] (fxLaw n) :=
  ⟨fun rs ob P R ⟨ns, _, e, _⟩ => by rw [e]; rfl, fun A outer s H args us vs Q E hr hg e0 hb rv ⟨c, F1, ad, rs, ob, P, R, rel, hv, hf, hq, hx⟩ => by
    obtain ⟨ns, h1, rfl, rfl, h4⟩ := hf
    exact F.run A outer s H args us vs Q E hr hg e0 hb rv ⟨c, F1, ad, _, [], P, R, rel, hv, by unfold fxP; rw [h ns h1]; exact h4, hq, hx⟩⟩
end DL
end
section
set_option Elab.async false
set_option linter.all false
set_option autoImplicit false
set_option maxRecDepth 100000
set_option maxHeartbeats 2000000
/-! DMS: what the reckoned readings come to, as rules for simp. -/
namespace DL
open PySem PySem.Spec L2
open PyProof.Rows hiding St
def azS : List Nat := [97, 98, 99, 100, 101, 102, 103, 104, 105, 106, 107, 108, 109, 110, 111, 112, 113, 114, 115, 116, 117, 118, 119, 120, 121, 122]
def digS : List Nat := [48, 49, 50, 51, 52, 53, 54, 55, 56, 57]
def aznS : List Nat := [97, 98, 99, 100, 101, 102, 103, 104, 105, 106, 107, 108, 109, 110, 111, 112, 113, 114, 115, 116, 117, 118, 119, 120, 121, 122, 48, 49, 50, 51, 52, 53, 54, 55, 56, 57]
section
variable {α β : Type} {a : α} {e : Env} {x : Xc} {r y z : RV} {sl : List (Option RV)} {ob : List OD} {i j : Nat} {d : D} {ds : List D}
@[simp] theorem bind_ok {k : α → Env → Res β} : (Res.ok a e).bind k = k a e := rfl
@[simp] theorem bind_xc {k : α → Env → Res β} : (Res.xc x e : Res α).bind k = .xc x e := rfl
@[simp] theorem bind_no {k : α → Env → Res β} : (Res.no : Res α).bind k = .no := rfl
@[simp] theorem bind_ite {p : Prop} [Decidable p] {m n : Res α} {k : α → Env → Res β} : (if p then m else n).bind k = if p then m.bind k else n.bind k := by split <;> rfl
@[simp] theorem run_ok {k : α → Env → SR} : (Res.ok a e).run k = k a e := rfl
@[simp] theorem run_xc {k : α → Env → SR} : (Res.xc x e : Res α).run k = .xc x e := rfl
@[simp] theorem run_no {k : α → Env → SR} : (Res.no : Res α).run k = .no := rfl
@[simp] theorem run_ite {p : Prop} [Decidable p] {m n : Res α} {k : α → Env → SR} : (if p then m else n).run k = if p then m.run k else n.run k := by split <;> rfl
@[simp] theorem seq_nx {k : MS} : (SR.nx e).seq k = k e := rfl
@[simp] theorem seq_rt {k : MS} : (SR.rt r e).seq k = .rt r e := rfl
@[simp] theorem seq_xc {k : MS} : (SR.xc x e).seq k = .xc x e := rfl
@[simp] theorem seq_bk {k : MS} : (SR.bk e).seq k = .bk e := rfl
@[simp] theorem seq_ct {k : MS} : (SR.ct e).seq k = .ct e := rfl
@[simp] theorem seq_no {k : MS} : (SR.no).seq k = .no := rfl
@[simp] theorem seq_ite {p : Prop} [Decidable p] {m n : SR} {k : MS} : (if p then m else n).seq k = if p then m.seq k else n.seq k := by split <;> rfl
@[simp] theorem lp_nx {k : MS} : (SR.nx e).lp k = k e := rfl
@[simp] theorem lp_rt {k : MS} : (SR.rt r e).lp k = .rt r e := rfl
@[simp] theorem lp_xc {k : MS} : (SR.xc x e).lp k = .xc x e := rfl
@[simp] theorem lp_bk {k : MS} : (SR.bk e).lp k = .nx e := rfl
@[simp] theorem lp_ct {k : MS} : (SR.ct e).lp k = k e := rfl
@[simp] theorem lp_no {k : MS} : (SR.no).lp k = .no := rfl
@[simp] theorem lp_ite {p : Prop} [Decidable p] {m n : SR} {k : MS} : (if p then m else n).lp k = if p then m.lp k else n.lp k := by split <;> rfl
@[simp] theorem ev_D : mD d e = .ok (.val d) e := rfl
theorem ev_var (h : sl[i]? = some (some r)) : mVar i ⟨sl, ob⟩ = .ok r ⟨sl, ob⟩ := by
  unfold mVar
  dsimp only
  rw [h]
@[simp] theorem ev_var0 {l : List (Option RV)} : mVar 0 ⟨some r :: l, ob⟩ = .ok r ⟨some r :: l, ob⟩ := rfl
@[simp] theorem ev_var1 {a : Option RV} {l : List (Option RV)} : mVar 1 ⟨a :: some r :: l, ob⟩ = .ok r ⟨a :: some r :: l, ob⟩ := rfl
@[simp] theorem ev_var2 {a b : Option RV} {l : List (Option RV)} : mVar 2 ⟨a :: b :: some r :: l, ob⟩ = .ok r ⟨a :: b :: some r :: l, ob⟩ := rfl
@[simp] theorem ev_var3 {a b c : Option RV} {l : List (Option RV)} : mVar 3 ⟨a :: b :: c :: some r :: l, ob⟩ = .ok r ⟨a :: b :: c :: some r :: l, ob⟩ := rfl
@[simp] theorem ev_var4 {a b c d : Option RV} {l : List (Option RV)} : mVar 4 ⟨a :: b :: c :: d :: some r :: l, ob⟩ = .ok r ⟨a :: b :: c :: d :: some r :: l, ob⟩ := rfl
@[simp] theorem ev_var5 {a b c d e : Option RV} {l : List (Option RV)} : mVar 5 ⟨a :: b :: c :: d :: e :: some r :: l, ob⟩ = .ok r ⟨a :: b :: c :: d :: e :: some r :: l, ob⟩ := rfl
@[simp] theorem ev_var6 {a b c d e f : Option RV} {l : List (Option RV)} : mVar 6 ⟨a :: b :: c :: d :: e :: f :: some r :: l, ob⟩ = .ok r ⟨a :: b :: c :: d :: e :: f :: some r :: l, ob⟩ := rfl
@[simp] theorem ev_var7 {a b c d e f g : Option RV} {l : List (Option RV)} : mVar 7 ⟨a :: b :: c :: d :: e :: f :: g :: some r :: l, ob⟩ = .ok r ⟨a :: b :: c :: d :: e :: f :: g :: some r :: l, ob⟩ := rfl
@[simp] theorem ev_var8 {a b c d e f g h : Option RV} {l : List (Option RV)} : mVar 8 ⟨a :: b :: c :: d :: e :: f :: g :: h :: some r :: l, ob⟩ = .ok r ⟨a :: b :: c :: d :: e :: f :: g :: h :: some r :: l, ob⟩ := rfl
@[simp] theorem ev_varn {n : Nat} {a b c d e f g h k : Option RV} {l : List (Option RV)} : mVar (n + 9) ⟨a :: b :: c :: d :: e :: f :: g :: h :: k :: l, ob⟩ = (match l[n]? with
  | some (some r) => .ok r ⟨a :: b :: c :: d :: e :: f :: g :: h :: k :: l, ob⟩
  | _ => .no) := rfl
@[simp] theorem ev_2 {g : OM} {ma mb : ME} : m2 g ma mb e = (ma e).bind fun x e1 => (mb e1).bind fun y e2 => g e2 x y := rfl
@[simp] theorem ev_val {m : ME} : mVal m e = (m e).bind toBl := rfl
@[simp] theorem toBl_b {b : Bool} : toBl (.val (.bl b)) e = .ok b e := rfl
@[simp] theorem ev_and {t u : MT} : mAnd t u e = (t e).bind fun b e1 => if b = true then u e1 else .ok false e1 := rfl
@[simp] theorem ev_or {t u : MT} : mOr t u e = (t e).bind fun b e1 => if b = true then .ok true e1 else u e1 := rfl
@[simp] theorem ev_not {t : MT} : mNot t e = (t e).bind fun b e1 => .ok (!b) e1 := rfl
/-- and, or of values -/
def andK (u : ME) (r : RV) (e : Env) : Res RV := match r with
  | .val (.bl true) => u e
  | .val (.bl false) => .ok (.val (.bl false)) e
  | _ => .no
def orK (u : ME) (r : RV) (e : Env) : Res RV := match r with
  | .val (.bl true) => .ok (.val (.bl true)) e
  | .val (.bl false) => u e
  | _ => .no
@[simp] theorem ev_andV {t u : ME} : mAndV t u e = (t e).bind (andK u) := rfl
@[simp] theorem ev_orV {t u : ME} : mOrV t u e = (t e).bind (orK u) := rfl
@[simp] theorem andK_b {u : ME} {b : Bool} : andK u (.val (.bl b)) e = if b = true then u e else .ok (.val (.bl false)) e := by cases b <;> rfl
@[simp] theorem orK_b {u : ME} {b : Bool} : orK u (.val (.bl b)) e = if b = true then .ok (.val (.bl true)) e else u e := by cases b <;> rfl
def notK (r : RV) (e : Env) : Res RV := match r with
  | .val (.bl k) => .ok (.val (.bl (!k))) e
  | _ => .no
@[simp] theorem ev_notV {t : ME} : mNotV t e = (t e).bind notK := rfl
@[simp] theorem notK_b {b : Bool} : notK (.val (.bl b)) e = .ok (.val (.bl (!b))) e := rfl
@[simp] theorem ev_ifE {t : MT} {u w : ME} : mIfE t u w e = (t e).bind fun b e1 => if b = true then u e1 else w e1 := rfl
def chK (g : OM) (tc : ME) (y z : RV) (e : Env) : Res RV := match z with
  | .val (.bl true) => (tc e).bind fun w e4 => g e4 y w
  | .val (.bl false) => .ok (.val (.bl false)) e
  | _ => .no
@[simp] theorem ev_chain {f g : OM} {ta tb tc : ME} : mChain f g ta tb tc e = (ta e).bind fun x e1 => (tb e1).bind fun y e2 => (f e2 x y).bind fun z e3 => chK g tc y z e3 := rfl
@[simp] theorem chK_b {g : OM} {tc : ME} {b : Bool} : chK g tc y (.val (.bl b)) e = if b = true then (tc e).bind fun w e4 => g e4 y w else .ok (.val (.bl false)) e := by cases b <;> rfl
@[simp] theorem dv_v : dv e (.val d) = some d := rfl
@[simp] theorem ev_ix0 {g : Int → Int → D} {i j : Int} : ixM0 g e (.val (.int i)) (.val (.int j)) = .ok (.val (g i j)) e := rfl
@[simp] theorem ev_ix2 {C : Int → Int → Bool} {g : Int → Int → D} {i j : Int} : ixM2 C g e (.val (.int i)) (.val (.int j)) = if C i j = true then .ok (.val (g i j)) e else .no := rfl
@[simp] theorem ev_sub {i j : Int} : subM e (.val (.int i)) (.val (.int j)) = .ok (.val (.int (i - j))) e := rfl
@[simp] theorem ev_lt {i j : Int} : iltM e (.val (.int i)) (.val (.int j)) = .ok (.val (.bl (decide (i < j)))) e := rfl
@[simp] theorem ev_le {i j : Int} : ileM e (.val (.int i)) (.val (.int j)) = .ok (.val (.bl (decide (i ≤ j)))) e := rfl
@[simp] theorem ev_gt {i j : Int} : igtM e (.val (.int i)) (.val (.int j)) = .ok (.val (.bl (decide (j < i)))) e := rfl
@[simp] theorem ev_ge {i j : Int} : igeM e (.val (.int i)) (.val (.int j)) = .ok (.val (.bl (decide (j ≤ i)))) e := rfl
theorem ev_mod {i j : Int} (h : 0 < j) : modM e (.val (.int i)) (.val (.int j)) = .ok (.val (.int (i % j))) e := by
  unfold modM
  rw [ev_ix2, if_pos (decide_eq_true h)]
theorem ev_fdiv {i j : Int} (h : 0 < j) (h2 : j < 1073741824) : fdivM e (.val (.int i)) (.val (.int j)) = .ok (.val (.int (i / j))) e := by
  unfold fdivM
  rw [ev_ix2, if_pos (by simp [h, h2])]
theorem ev_imul {i j : Int} (h : (-18446744073709551616 < i ∧ i < 18446744073709551616) ∨ (-18446744073709551616 < j ∧ j < 18446744073709551616)) : imulM e (.val (.int i)) (.val (.int j)) = .ok (.val (.int (i * j))) e := by
  unfold imulM
  rw [ev_ix2, if_pos (by simpa using h)]
theorem ev_pow {i j : Int} (h : 0 ≤ j) (h1 : j ≤ 1000000) (h2 : i.natAbs < 18446744073709551616) : powM e (.val (.int i)) (.val (.int j)) = .ok (.val (.int (i ^ j.toNat))) e := by
  unfold powM
  rw [ev_ix2, if_pos (by simp [h, h1, h2])]
@[simp] theorem ev_addI {i j : Int} : addV e (.val (.int i)) (.val (.int j)) = .ok (.val (.int (i + j))) e := rfl
@[simp] theorem ev_addS {i j : List Nat} : addV e (.val (.str i)) (.val (.str j)) = if i.length + j.length ≤ 16777216 then .ok (.val (.str (i ++ j))) e else .no := rfl
@[simp] theorem ev_addT {i j : List D} : addV e (.val (.tup i)) (.val (.tup j)) = if i.length + j.length ≤ 16777216 then .ok (.val (.tup (i ++ j))) e else .no := rfl
@[simp] theorem ev_addL {i j : List D} : addV e (.val (.lst i)) (.val (.lst j)) = if i.length + j.length ≤ 16777216 then .ok (.val (.lst (i ++ j))) e else .no := rfl
theorem ev_eqS {neg : Bool} {i j : List Nat} : eqM neg e (.val (.str i)) (.val (.str j)) = .ok (.val (.bl (ng neg (i == j)))) e := rfl
theorem ev_eq {neg : Bool} {i j : D} (h : layB 60 i = true) (k : layB 60 j = true) : eqM neg e (.val i) (.val j) = .ok (.val (.bl (ng neg (D.eq i j)))) e := by
  unfold eqM
  rw [dv_v, dv_v]
  split
  · rename_i a b h1 h2
    cases h1
    cases h2
    rw [D.eq]
  · rw [rd_val, rd_val]
    dsimp only
    rw [if_pos ⟨h, k⟩]
@[simp] theorem ev_isN {neg : Bool} {m : ME} : isNM neg m e = (m e).bind fun r e1 => match dv e1 r with
  | some d => .ok (.val (.bl (ng neg d.isN))) e1
  | none => .no := rfl
@[simp] theorem isN_non : D.non.isN = true := rfl
@[simp] theorem isN_str {s : List Nat} : (D.str s).isN = false := rfl
@[simp] theorem isN_int {s : Int} : (D.int s).isN = false := rfl
@[simp] theorem isN_bl {s : Bool} : (D.bl s).isN = false := rfl
@[simp] theorem isN_lst {s : List D} : (D.lst s).isN = false := rfl
@[simp] theorem isN_tup {s : List D} : (D.tup s).isN = false := rfl
@[simp] theorem isN_ins {c : Nat} {s : List (Nat × D)} : (D.ins c s).isN = false := rfl
theorem ev_inC {neg : Bool} {c : Nat} {s : List Nat} : inM neg e (.val (.str [c])) (.val (.str s)) = .ok (.val (.bl (ng neg (s.contains c)))) e := rfl
theorem ev_inT {neg : Bool} {i : D} {js : List D} (h : layB 59 i = true) (k : js.all (layB 59) = true) : inM neg e (.val i) (.val (.tup js)) = .ok (.val (.bl (ng neg (memL i js)))) e := by
  unfold inM
  rw [dv_v, dv_v]
  split
  · rename_i h1 h2
    cases h2
  · rw [rd_val, rd_val]
    show (if layB 59 i = true ∧ js.all (layB 59) = true then _ else _) = _
    rw [if_pos ⟨h, k⟩]
theorem ev_inL {neg : Bool} {i : D} {js : List D} (h : layB 59 i = true) (k : js.all (layB 59) = true) : inM neg e (.val i) (.val (.lst js)) = .ok (.val (.bl (ng neg (memL i js)))) e := by
  unfold inM
  rw [dv_v, dv_v]
  split
  · rename_i h1 h2
    cases h2
  · rw [rd_val, rd_val]
    show (if layB 59 i = true ∧ js.all (layB 59) = true then _ else _) = _
    rw [if_pos ⟨h, k⟩]
@[simp] theorem layB_non {n : Nat} : layB n .non = true := by cases n <;> rfl
@[simp] theorem layB_bl {n : Nat} {b : Bool} : layB n (.bl b) = true := by cases n <;> rfl
@[simp] theorem layB_int {n : Nat} {b : Int} : layB n (.int b) = true := by cases n <;> rfl
@[simp] theorem layB_str {n : Nat} {s : List Nat} : layB n (.str s) = s.all fun c => decide (c < 1114112) := by cases n <;> rfl
@[simp] theorem layB_lst {n : Nat} {s : List D} : layB (n + 1) (.lst s) = s.all (layB n) := rfl
@[simp] theorem layB_tup {n : Nat} {s : List D} : layB (n + 1) (.tup s) = s.all (layB n) := rfl
@[simp] theorem ev_ixL {i : Int} : ixM e (.val (.lst ds)) (.val (.int i)) = match atZ ds i with
  | some d => .ok (.val d) e
  | none => .no := rfl
@[simp] theorem ev_ixT {i : Int} : ixM e (.val (.tup ds)) (.val (.int i)) = match atZ ds i with
  | some d => .ok (.val d) e
  | none => .no := rfl
theorem ev_ixS {s : List Nat} {i : Int} {k : Nat} (hz : s.length ≤ 16777216) (h : atZ s i = some k) : ixM e (.val (.str s)) (.val (.int i)) = .ok (.val (.str [k])) e := by
  unfold ixM
  rw [dv_v, dv_v]
  dsimp only
  rw [if_pos hz, h]
theorem atZ_nat {α : Type} {xs : List α} {n : Nat} : atZ xs (n : Nat) = xs[n]? := by
  unfold atZ
  rw [if_pos (Int.natCast_nonneg n)]
  rfl
@[simp] theorem ev_nil : mNil e = .ok [] e := rfl
@[simp] theorem ev_cons {m : ME} {u : MA} : mCons m u e = (m e).bind fun r e1 => (u e1).bind fun rs e2 => .ok (r :: rs) e2 := rfl
@[simp] theorem allD_nil0 : allD e [] = some [] := rfl
@[simp] theorem allD_vs {rs : List RV} : allD e (.val d :: rs) = (allD e rs).map (d :: ·) := by
  rw [allD, dv_v]
  dsimp only
  cases allD e rs <;> rfl
@[simp] theorem ev_lst {u : MA} : mLst u e = (u e).bind fun rs e1 => if rs.length ≤ 16777216 then .ok (.ob e1.ob.length) { e1 with ob := e1.ob ++ [match allD e1 rs with | some ds => .lst ds | none => .lsr rs] } else .no := rfl
@[simp] theorem ev_lstV {u : MA} : mLstV u e = (u e).bind fun rs e1 => if rs.length ≤ 16777216 then (match allD e1 rs with
  | some ds => .ok (.val (.lst ds)) e1
  | none => .no) else .no := rfl
@[simp] theorem ev_tup {u : MA} : mTup u e = (u e).bind fun rs e1 => if rs.length ≤ 16777216 then (match allD e1 rs with
  | some ds => .ok (.val (.tup ds)) e1
  | none => .ok (.ob e1.ob.length) { e1 with ob := e1.ob ++ [.tpr rs] }) else .no := rfl
@[simp] theorem ev_B {g : BM} {u : MA} : mB g u e = (u e).bind fun rs e1 => g e1 rs := rfl
@[simp] theorem ev_lenS {s : List Nat} : lenM e [.val (.str s)] = if s.length ≤ 16777216 then .ok (.val (.int (s.length : Nat))) e else .no := rfl
@[simp] theorem ev_lenL : lenM e [.val (.lst ds)] = .ok (.val (.int (ds.length : Nat))) e := rfl
@[simp] theorem ev_lenT : lenM e [.val (.tup ds)] = .ok (.val (.int (ds.length : Nat))) e := rfl
@[simp] theorem ev_intI {i : Int} : intM e [.val (.int i)] = .ok (.val (.int i)) e := rfl
@[simp] theorem ev_absI {i : Int} : absM e [.val (.int i)] = .ok (.val (.int (if i < 0 then -i else i))) e := rfl
@[simp] theorem ev_listV : listM false e [.val (.lst ds)] = .ok (.val (.lst ds)) e := rfl
@[simp] theorem ev_listVT : listM false e [.val (.tup ds)] = .ok (.val (.lst ds)) e := rfl
@[simp] theorem ev_listO : listM true e [.val (.lst ds)] = .ok (.ob e.ob.length) { e with ob := e.ob ++ [.lst ds] } := rfl
@[simp] theorem ev_listOT : listM true e [.val (.tup ds)] = .ok (.ob e.ob.length) { e with ob := e.ob ++ [.lst ds] } := rfl
@[simp] theorem ev_min {i j : Int} : minM e [.val (.int i), .val (.int j)] = .ok (.val (.int (if j < i then j else i))) e := rfl
@[simp] theorem ev_max {i j : Int} : maxM e [.val (.int i), .val (.int j)] = .ok (.val (.int (if j > i then j else i))) e := rfl
theorem ev_repr (h1 : layB 60 d = true) (h2 : shows d = true) (h3 : (PyData.shown d.py).length ≤ 16777216) : reprM e [.val d] = .ok (.val (.str (reprL d))) e := by
  unfold reprM b1
  dsimp only
  rw [rd_val]
  dsimp only
  rw [if_pos ⟨h1, h2, h3⟩]
@[simp] theorem ev_neg {m : ME} : mNeg m e = (m e).bind fun r e1 => match dv e1 r with
  | some (.int i) => .ok (.val (.int (-i))) e1
  | _ => .no := rfl
@[simp] theorem ev_tru {m : ME} : mTru m e = (m e).bind truM := rfl
@[simp] theorem tru_b {b : Bool} : truM (.val (.bl b)) e = .ok b e := rfl
@[simp] theorem tru_non : truM (.val .non) e = .ok false e := rfl
@[simp] theorem tru_i {i : Int} : truM (.val (.int i)) e = .ok (i != 0) e := rfl
@[simp] theorem tru_l : truM (.val (.lst ds)) e = .ok (!ds.isEmpty) e := rfl
@[simp] theorem tru_t : truM (.val (.tup ds)) e = .ok (!ds.isEmpty) e := rfl
@[simp] theorem tru_s {s : List Nat} : truM (.val (.str s)) e = if s.length ≤ 16777216 then .ok (!s.isEmpty) e else .no := by
  unfold truM truE fitB
  dsimp only [D.tru]
  by_cases h : s.length ≤ 16777216
  · rw [if_pos h, if_pos (decide_eq_true h)]
  · rw [if_neg h, if_neg (by simpa using h)]
@[simp] theorem ev_isi {n : String} {m : ME} : isiM n m e = (m e).bind fun r e1 => match tyOf e1 r with
  | some q => (match kitB q n with
    | some b => .ok (.val (.bl b)) e1
    | none => .no)
  | none => .no := rfl
@[simp] theorem tyOf_v : tyOf e (.val d) = d.ty := rfl
@[simp] theorem ty_non : D.non.ty = some "NoneType" := rfl
@[simp] theorem ty_bl {b : Bool} : (D.bl b).ty = some "bool" := rfl
@[simp] theorem ty_int {b : Int} : (D.int b).ty = some "int" := rfl
@[simp] theorem ty_str' {b : List Nat} : (D.str b).ty = some "str" := rfl
@[simp] theorem ty_lst' : (D.lst ds).ty = some "list" := rfl
@[simp] theorem ty_tup : (D.tup ds).ty = some "tuple" := rfl
@[simp] theorem ev_M {tb : Env → RV → Bool} {g : MM} {mo : ME} {u : MA} : mM tb g mo u e = (mo e).bind fun r e1 => if tb e1 r = true then (u e1).bind fun rs e2 => g e2 r rs else .no := rfl
@[simp] theorem tbStr_s {s : List Nat} : tbStr e (.val (.str s)) = true := rfl
@[simp] theorem ev_next : mNext e = .nx e := rfl
@[simp] theorem ev_seq {t u : MS} : mSeq t u e = (t e).seq u := rfl
@[simp] theorem ev_drop {m : ME} : mDrop m e = (m e).run fun _ e1 => .nx e1 := rfl
@[simp] theorem ev_ret {m : ME} : mRet m e = (m e).run fun r e1 => .rt r e1 := rfl
@[simp] theorem ev_retN : mRetN e = .rt (.val .non) e := rfl
@[simp] theorem ev_break : mBreak e = .bk e := rfl
@[simp] theorem ev_cont : mCont e = .ct e := rfl
@[simp] theorem ev_if {c : MT} {t u : MS} : mIf c t u e = (c e).run fun b e1 => if b = true then t e1 else u e1 := rfl
def asK (g : MG) (r : RV) (e : Env) : SR := match g r e with
  | some e2 => .nx e2
  | none => .no
@[simp] theorem ev_asg {m : ME} {g : MG} : mAsg m g e = (m e).run (asK g) := rfl
@[simp] theorem asK_nm {i : Nat} : asK (mNm i) r e = .nx { e with sl := e.sl.set i (some r) } := rfl
@[simp] theorem nm_ev {i : Nat} : mNm i r e = some { e with sl := e.sl.set i (some r) } := rfl
@[simp] theorem ev_for {ti : MI} {g : MG} {b : MS} : mFor ti g b e = (ti e).run fun all e1 => mForL g b all e1 := rfl
@[simp] theorem for_nil {g : MG} {b : MS} : mForL g b [] e = .nx e := rfl
theorem for_cons {g : MG} {b : MS} {rs : List RV} : mForL g b (r :: rs) e = match g r e with
  | some e1 => (b e1).lp (mForL g b rs)
  | none => .no := rfl
theorem for_nm {i : Nat} {b : MS} {rs : List RV} : mForL (mNm i) b (r :: rs) e = (b { e with sl := e.sl.set i (some r) }).lp (mForL (mNm i) b rs) := rfl
@[simp] theorem ev_seqI {m : ME} : mSeqI m e = (m e).bind fun r e1 => match mItems e1 r with
  | some all => .ok all e1
  | none => .no := rfl
@[simp] theorem items_l : mItems e (.val (.lst ds)) = some (ds.map .val) := rfl
@[simp] theorem items_t : mItems e (.val (.tup ds)) = some (ds.map .val) := rfl
@[simp] theorem items_s {s : List Nat} : mItems e (.val (.str s)) = some (s.map fun c => .val (.str [c])) := rfl
theorem wh_step {c : MT} {b : MS} {n : Nat} : mWhL c b (n + 1) e = (c e).run fun k e1 => if k = true then (b e1).lp (mWhL c b n) else .nx e1 := rfl
@[simp] theorem ev_call {m : List Bool} {dd : List D} {p : PF} {u : MA} : mCall m dd p u e = (u e).bind fun rs e1 => mCal m dd p rs e1 := rfl
/-- the answer of a def that was given data only -/
def FR.back (e : Env) : FR → Res RV
  | .ok r ob' => .ok (r.ren (out [] e.ob.length)) ⟨e.sl, e.ob ++ ob'.map (OD.ren (out [] e.ob.length))⟩
  | .xc x ob' => .xc x ⟨e.sl, e.ob ++ ob'.map (OD.ren (out [] e.ob.length))⟩
  | .no => .no
@[simp] theorem back_v : (FR.ok (.val d) []).back e = .ok (.val d) e := by
  unfold FR.back
  simp [RV.ren]
@[simp] theorem back_x : (FR.xc x []).back e = .xc x e := by
  unfold FR.back
  simp
@[simp] theorem back_no : FR.no.back e = .no := rfl
@[simp] theorem fz9_v {n : Nat} : fzR n ob (.val d) = some (d, ob) := fzR_val n ob d
theorem frz_vals : ∀ (ds : List D) (m : List Bool) (ob : List OD), ds.length ≤ m.length → frz m ob (ds.map .val) = some (ds.map .val, ob)
  | [], _, _, _ => fz_nil
  | d :: ds, b :: m, ob, h => by
    rw [List.map_cons]
    exact fz_v (frz_vals ds m ob (by simpa using h))
  | _ :: _, [], _, h => by simp at h
theorem ks_vals : ∀ ds : List D, ksOf (ds.map .val) = []
  | [] => rfl
  | d :: ds => by
    rw [List.map_cons, ksOf, ks_vals ds]
theorem cal_vals {m : List Bool} {dd : List D} {p : PF} {ds : List D} (h : ds.length ≤ m.length) : mCal m dd p (ds.map .val) e = (p ((ds ++ dd).map .val) []).back e := by
  unfold mCal
  rw [frz_vals ds m e.ob h]
  dsimp only
  rw [ks_vals, oblOf]
  dsimp only
  have e1 : (ds.map RV.val).map (RV.loc []) = ds.map RV.val := by
    rw [List.map_map]
    rfl
  rw [e1, ← List.map_append]
  cases p ((ds ++ dd).map .val) [] with
  | ok r ob' => simp [FR.back]
  | xc x ob' => simp [FR.back]
  | no => rfl
@[simp] theorem cal_v1 {b : Bool} {p : PF} {d1 : D} : mCal [b] [] p [.val d1] e = (p [.val d1] []).back e := cal_vals (ds := [d1]) (by simp)
@[simp] theorem cal_v2 {b b' : Bool} {p : PF} {d1 d2 : D} : mCal [b, b'] [] p [.val d1, .val d2] e = (p [.val d1, .val d2] []).back e := cal_vals (ds := [d1, d2]) (by simp)
@[simp] theorem cal_v3 {b b' b'' : Bool} {p : PF} {d1 d2 d3 : D} : mCal [b, b', b''] [] p [.val d1, .val d2, .val d3] e = (p [.val d1, .val d2, .val d3] []).back e := cal_vals (ds := [d1, d2, d3]) (by simp)
@[simp] theorem cal_v0 {p : PF} : mCal [] [] p [] e = (p [] []).back e := cal_vals (ds := []) (by simp)
@[simp] theorem finR_v : finR false 0 (.rt (.val d) e) = .ok (.val d) [] := by
  unfold finR finV
  simp [flatB]
@[simp] theorem finR_nx {own : Bool} : finR own 0 (.nx e) = .ok (.val .non) [] := by
  unfold finR finV
  simp [flatB]
@[simp] theorem finR_x {own : Bool} : finR own 0 (.xc x e) = .xc x [] := by
  unfold finR
  simp [flatB]
@[simp] theorem finR_no {own : Bool} {n : Nat} : finR own n .no = .no := rfl
@[simp] theorem finR_ite {own : Bool} {n : Nat} {p : Prop} [Decidable p] {s t : SR} : finR own n (if p then s else t) = if p then finR own n s else finR own n t := by split <;> rfl
theorem def_ev {np N : Nat} {own : Bool} {m : MS} {rs : List RV} (h : rs.length = np) : defP np N own m rs ob = finR own ob.length (m (startE N rs ob)) := by
  unfold defP
  rw [if_pos h]
end
end DL
end
section
set_option Elab.async false
set_option linter.all false
set_option autoImplicit false
set_option maxRecDepth 100000
set_option maxHeartbeats 2000000
/-! DOA: own classes: attributes, instances made, methods, isinstance. -/
namespace DL
open PySem PySem.Spec L2
open PyProof.Rows hiding St

/-! ### attributes -/
/-- of the class of number c the instances may have the attribute of number f; what the text says of it -/
structure OkF (T : Cn) (okF : Nat → Nat → Bool) : Prop where
  at_ : ∀ c f, okF c f = true → ∀ C, T.mg (T.nm c) = some (.ref C) → Cls T.K C ∧ NoAttr T.K C (T.nm f)
  inj : ∀ c f g, okF c f = true → okF c g = true → T.nm f = T.nm g → f = g
theorem repF_get {T : Cn} {F : Hp} {okF : Nat → Nat → Bool} (O : OkF T okF) {c f : Nat} (hf : okF c f = true) : ∀ {fs : List (Nat × D)} {gs : List (Str × V)} {d : D}, RepF T F fs gs → (fs.all fun p => okF c p.1) = true → fs.lookup f = some d → ∃ v, gs.lookup (T.nm f) = some v ∧ Rep T F d v
  | [], _, _, _, _, h => by cases h
  | (g, d') :: fs, gs, d, hr, ha, h => by
    obtain ⟨v, r, rfl, h1, h2⟩ := repF_cons.mp hr
    rw [List.all_cons, Bool.and_eq_true] at ha
    rw [List.lookup_cons] at h
    rw [List.lookup_cons]
    by_cases hg : f = g
    · subst hg
      have e : (f == f) = true := by simp
      rw [e] at h
      have e2 : (T.nm f == T.nm f) = true := by simp
      rw [e2]
      cases h
      exact ⟨v, rfl, h1⟩
    · have e : (f == g) = false := by simpa using hg
      rw [e] at h
      have e2 : (T.nm f == T.nm g) = false := by
        rw [beq_eq_false_iff_ne]
        exact fun z => hg (O.inj c f g hf ha.1 z)
      rw [e2]
      exact repF_get O hf h2 ha.2 h
theorem rvF_get {T : Cn} {F : Hp} {ad : List Addr} {okF : Nat → Nat → Bool} (O : OkF T okF) {c f : Nat} (hf : okF c f = true) : ∀ {fs : List (Nat × RV)} {gs : List (Str × V)} {d : RV}, RvF T F ad fs gs → (fs.all fun p => okF c p.1) = true → fs.lookup f = some d → ∃ v, gs.lookup (T.nm f) = some v ∧ RvR T F ad d v
  | [], _, _, _, _, h => by cases h
  | (g, d') :: fs, gs, d, hr, ha, h => by
    obtain ⟨v, r, rfl, h1, h2⟩ := hr
    rw [List.all_cons, Bool.and_eq_true] at ha
    rw [List.lookup_cons] at h
    rw [List.lookup_cons]
    by_cases hg : f = g
    · subst hg
      have e : (f == f) = true := by simp
      rw [e] at h
      have e2 : (T.nm f == T.nm f) = true := by simp
      rw [e2]
      cases h
      exact ⟨v, rfl, h1⟩
    · have e : (f == g) = false := by simpa using hg
      rw [e] at h
      have e2 : (T.nm f == T.nm g) = false := by
        rw [beq_eq_false_iff_ne]
        exact fun z => hg (O.inj c f g hf ha.1 z)
      rw [e2]
      exact rvF_get O hf h2 ha.2 h
/-- no attribute of this name -/
theorem rvF_none {T : Cn} {F : Hp} {ad : List Addr} {m : Str} : ∀ {fs : List (Nat × RV)} {gs : List (Str × V)}, RvF T F ad fs gs → (∀ p ∈ fs, T.nm p.1 ≠ m) → gs.lookup m = none
  | [], gs, h, _ => by rw [show gs = [] from h]; rfl
  | (g, d') :: fs, gs, hr, ha => by
    obtain ⟨v, r, rfl, h1, h2⟩ := hr
    rw [List.lookup_cons]
    have e2 : (m == T.nm g) = false := by
      rw [beq_eq_false_iff_ne]
      exact fun z => ha _ List.mem_cons_self z.symm
    rw [e2]
    exact rvF_none h2 fun p hp => ha p (List.mem_cons_of_mem _ hp)
theorem repF_none {T : Cn} {F : Hp} {m : Str} : ∀ {fs : List (Nat × D)} {gs : List (Str × V)}, RepF T F fs gs → (∀ p ∈ fs, T.nm p.1 ≠ m) → gs.lookup m = none
  | [], gs, h, _ => by rw [repF_nil.mp h]; rfl
  | (g, d') :: fs, gs, hr, ha => by
    obtain ⟨v, r, rfl, h1, h2⟩ := repF_cons.mp hr
    rw [List.lookup_cons]
    have e2 : (m == T.nm g) = false := by
      rw [beq_eq_false_iff_ne]
      exact fun z => ha _ List.mem_cons_self z.symm
    rw [e2]
    exact repF_none h2 fun p hp => ha p (List.mem_cons_of_mem _ hp)
/-- the instance that stands for r: its class and attributes -/
def insOf (e : Env) : RV → Option (Nat × List (Nat × RV))
  | .val (.ins c fs) => some (c, fs.map fun p => (p.1, .val p.2))
  | .val _ => none
  | .ob k => match e.ob[k]? with
    | some (.ins c fs) => some (c, fs)
    | some (.fz (.ins c fs)) => some (c, fs.map fun p => (p.1, .val p.2))
    | _ => none
theorem rvF_of {T : Cn} {F : Hp} {ad : List Addr} : ∀ {fs : List (Nat × D)} {gs : List (Str × V)}, RepF T F fs gs → RvF T F ad (fs.map fun p => (p.1, .val p.2)) gs
  | [], gs, h => repF_nil.mp h
  | (f, d) :: fs, gs, h => by
    obtain ⟨v, r, h0, h1, h2⟩ := repF_cons.mp h
    exact ⟨v, r, h0, h1, rvF_of h2⟩
theorem insOf_ok {T : Cn} {c : BF} {e : Env} {σ : L2.St} {F H : Hp} {ad : List Addr} {r : RV} {v : V} {k : Nat} {fs : List (Nat × RV)} (R : Rel T c e σ F H ad) (h : RvR T F ad r v) (q : insOf e r = some (k, fs)) :
    ∃ a C dx gs, v = .ref a ∧ T.mg (T.nm k) = some (.ref C) ∧ H a = some (.ins C dx gs) ∧ RvF T F ad fs gs := by
  cases r with
  | val d =>
    cases d with
    | ins c' fs' =>
      cases q
      obtain ⟨a, C, dx, gs, rfl, h1, h2, h3⟩ := rep_ins.mp (show Rep T F (.ins _ fs') v from h)
      exact ⟨a, C, dx, gs, rfl, h1, R.fh _ _ h2, rvF_of h3⟩
    | _ => cases q
  | ob j =>
    obtain ⟨p, hp, rfl⟩ := h
    obtain ⟨o, ho, hat⟩ := R.obs hp
    have q' : (match e.ob[j]? with
      | some (.ins c fs) => some (c, fs)
      | some (.fz (.ins c fs)) => some (c, fs.map fun p => (p.1, RV.val p.2))
      | _ => none) = some (k, fs) := q
    rw [ho] at q'
    cases o with
    | ins c' fs' =>
      cases q'
      obtain ⟨_, _, C, dx, gs, h1, h2, h3⟩ := hat
      exact ⟨p, C, dx, gs, rfl, h1, h2, h3⟩
    | fz d =>
      cases d with
      | ins c' fs' =>
        cases q'
        obtain ⟨_, h2⟩ := hat
        obtain ⟨a, C, dx, gs, ea, h3, h4, h5⟩ := rep_ins.mp h2
        cases ea
        exact ⟨p, C, dx, gs, rfl, h3, R.fh _ _ h4, rvF_of h5⟩
      | _ => cases q'
    | _ => cases q'
def fldM (okF : Nat → Nat → Bool) (f : Nat) (r : RV) (e : Env) : Res RV := match insOf e r with
  | some (c, fs) => if (okF c f && fs.all fun p => okF c p.1) = true then (match fs.lookup f with
    | some v => .ok v e
    | none => .no) else .no
  | none => .no
def mFld (okF : Nat → Nat → Bool) (f : Nat) (m : ME) : ME := fun e => (m e).bind (fldM okF f)
section
variable {T : Cn} {X : Cx} {W : WX} {a o : Expr} {f : Str} {pos pos' : Pos} {mo mv : ME} {okF : Nat → Nat → Bool}
theorem me_fld (n : Nat) (O : OkF T okF) (h : DE T X W a (pm mo)) (hn : T.nm n = f := by rfl) (hK : X.K = T.K := by rfl) (hb : attributeBase a f X.env (eval a X.env) = eval a X.env := by rfl) : DE T X W (.Attribute a f pos) (pm (mFld okF n mo)) := ⟨PE.imp (pe_fld h.pe hb) fun σ H Q hh => by
  obtain ⟨c, F, ad, e, P, R, rel, q, hq, hx⟩ := hh
  refine ⟨c, F, ad, e, _, R, rel, post_bind' q, fun v H1 F1 ad1 e1 r x1 p1 rel1 r1 q1 => ?_, hx⟩
  have q0 : (fldM okF n r e1).post P R := q1
  clear q1
  have q1 := q0
  unfold fldM at q1
  cases hi : insOf e1 r with
  | none =>
    rw [hi] at q1
    exact q1.elim
  | some p =>
    obtain ⟨k, fs⟩ := p
    rw [hi] at q1
    dsimp only at q1
    split at q1
    · rename_i hc
      rw [Bool.and_eq_true] at hc
      cases hl : fs.lookup n with
      | none =>
        rw [hl] at q1
        exact q1.elim
      | some w =>
        rw [hl] at q1
        obtain ⟨a, C, dx, gs, rfl, h1, h2, h3⟩ := insOf_ok rel1 r1 hi
        obtain ⟨g1, g2⟩ := O.at_ k n hc.1 C h1
        obtain ⟨v, g3, g4⟩ := rvF_get O hc.1 h3 hc.2 hl
        rw [hn] at g2 g3
        exact ⟨a, C, dx, gs, v, rfl, h2, by rw [hK]; exact g1, by rw [hK]; exact g2, g3, (hq.mono x1 p1).any rel1 g4 q1⟩
    · exact q1.elim⟩
/-! o.f = e -/
def putN (f : Nat) (v : RV) : List (Nat × RV) → List (Nat × RV)
  | [] => [(f, v)]
  | (g, x) :: r => if g = f then (g, v) :: r else (g, x) :: putN f v r
theorem putN_ok {F : Hp} {ad : List Addr} (O : OkF T okF) {c n : Nat} (hf : okF c n = true) {r : RV} {v : V} (hv : RvR T F ad r v) : ∀ {fs : List (Nat × RV)} {gs : List (Str × V)}, RvF T F ad fs gs → (fs.all fun p => okF c p.1) = true → RvF T F ad (putN n r fs) (putF (T.nm n) v gs)
  | [], gs, h, _ => by
    rw [show gs = [] from h]
    exact ⟨v, [], rfl, hv, rfl⟩
  | (g, x) :: fs, gs, h, ha => by
    obtain ⟨y, q, rfl, h1, h2⟩ := h
    rw [List.all_cons, Bool.and_eq_true] at ha
    unfold putN
    rw [show putF (T.nm n) v ((T.nm g, y) :: q) = (if T.nm g = T.nm n then (T.nm g, v) :: q else (T.nm g, y) :: putF (T.nm n) v q) from rfl]
    by_cases hg : g = n
    · rw [if_pos hg, if_pos (by rw [hg])]
      exact ⟨v, q, rfl, hv, h2⟩
    · rw [if_neg hg, if_neg fun z => hg (O.inj c g n ha.1 hf z)]
      exact ⟨y, _, rfl, h1, putN_ok O hf hv h2 ha.2⟩
def mSetF (okF : Nat → Nat → Bool) (n : Nat) (mo mv : ME) : MS := fun e => (mv e).run fun v e1 => (mo e1).run fun o e2 => match o with
  | .ob k => (match e2.ob[k]? with
    | some (.ins c fs) => if (okF c n && fs.all fun p => okF c p.1) = true ∧ fs.length < 1000 then .nx { e2 with ob := e2.ob.set k (.ins c (putN n v fs)) } else .no
    | _ => .no)
  | _ => .no
theorem ms_setF (n : Nat) {v : Expr} (O : OkF T okF) (ho : DE T X W o (pm mo)) (hv : DE T X W v (pm mv)) (hn : T.nm n = f := by rfl) (hK : X.K = T.K := by rfl) (hs : swapsWith v (some (.Attribute o f pos')) pos.line X.env = pure false := by rfl) : DS T X W (.Assign [.Attribute o f pos'] v pos) (ps (mSetF okF n mo mv)) := ⟨PS.imp (ps_fld ho.pe hv.pe hs) fun D σ H hh => by
  obtain ⟨c, F, ad, e, Po, rel, q, nx, rt, xc, bk, ct⟩ := hh
  refine ⟨c, F, ad, e, _, _, rel, post_run' q, fun y H1 F1 ad1 e1 ry x1 p1 rel1 r1 q1 => ?_, xc⟩
  refine ⟨c, F1, ad1, e1, _, _, rel1, post_run' q1, fun z H2 F2 ad2 e2 rz x2 p2 rel2 r2 q2 => ?_, xc.mono x1 p1⟩
  cases rz with
  | val d => exact q2.elim
  | ob k =>
    obtain ⟨p, hp, rfl⟩ := r2
    obtain ⟨o, ho', hat⟩ := rel2.obs hp
    have q3 : (match e2.ob[k]? with
      | some (.ins c fs) => if (okF c n && fs.all fun p => okF c p.1) = true ∧ fs.length < 1000 then SR.nx { e2 with ob := e2.ob.set k (.ins c (putN n ry fs)) } else .no
      | _ => .no).post Po := q2
    rw [ho'] at q3
    cases o with
    | ins c' fs =>
      dsimp only at q3
      split at q3
      · rename_i hc
        obtain ⟨hc1, hc2⟩ := hc
        rw [Bool.and_eq_true] at hc1
        obtain ⟨n1, n2, C, dx, gs, h1, h2, h3⟩ := hat
        obtain ⟨g1, g2⟩ := O.at_ c' n hc1.1 C h1
        have hlen : gs.length = fs.length := by
          have : ∀ {fs : List (Nat × RV)} {gs : List (Str × V)}, RvF T F2 ad2 fs gs → gs.length = fs.length := by
            intro fs
            induction fs with
            | nil => intro gs h; rw [show gs = [] from h]; rfl
            | cons p fs ih =>
              intro gs h
              obtain ⟨f, r⟩ := p
              obtain ⟨v, q, rfl, _, h2⟩ := h
              rw [List.length_cons, List.length_cons, ih h2]
          exact this h3
        refine ⟨p, C, dx, gs, rfl, h2, by rw [hK]; exact g1, by rw [hK, ← hn]; exact g2, by omega, ?_⟩
        have hr := putN_ok O hc1.1 (r1.mono x2 p2) h3 hc1.2
        rw [hn] at hr
        have R2 := rel2.set (u := .ins C dx (putF f y gs)) (o' := .ins c' (putN n ry fs)) ho' rfl hp ⟨n1, n2, C, dx, _, h1, upd_same, hr⟩
        exact nx σ _ F2 ad2 _ (x1.trans x2) (p1.trans p2) R2 q3
      · exact q3.elim
    | fz d => exact q3.elim
    | lst d => exact q3.elim
    | lsr d => exact q3.elim
    | tpr d => exact q3.elim
    | dic d => exact q3.elim⟩
end
end DL
end
section
set_option Elab.async false
set_option linter.all false
set_option autoImplicit false
set_option maxRecDepth 100000
set_option maxHeartbeats 2000000
/-! DOB: own classes: methods called, instances made, isinstance, instances called. -/
namespace DL
open PySem PySem.Spec L2
open PyProof.Rows hiding St

/-- the class of number c has the method m, which keeps fx -/
structure GMe (T : Cn) (P : Program) (w : World) (base : Heap) (k c : Nat) (m : Str) (dd : List D) (fx : FX) : Prop where
  all : ∃ (C f : Addr) (fd : FuncData) (ps : List Str) (dvs : List V) (ds : List Value), T.mg (T.nm c) = some (.ref C) ∧ Cls T.K C ∧ Meth T.K C m f ∧ FnG T P w base k f fd ps fx ∧ Binds T.K fd ps ds ∧ Vals dvs ds ∧ (∀ F, RepL T F dd dvs) ∧ PySem.W.fnIn T.K f = true
/-- .. is made by an __init__ that keeps fx -/
structure GMk (T : Cn) (P : Program) (w : World) (base : Heap) (k c : Nat) (dd : List D) (fx : FX) : Prop where
  all : ∃ (C f : Addr) (fd : FuncData) (ps : List Str) (dvs : List V) (ds : List Value), T.mg (T.nm c) = some (.ref C) ∧ Mk T.K C f ∧ FnG T P w base k f fd ps fx ∧ Binds T.K fd ps ds ∧ Vals dvs ds ∧ (∀ F, RepL T F dd dvs)
/-- a table of methods: by class, which arguments change no more, the defaults, the def -/
abbrev MTab := Nat → Option (List Bool × List D × PF)
/-- no attribute is called m -/
def OkM (T : Cn) (okF : Nat → Nat → Bool) (m : Str) : Prop := ∀ c f, okF c f = true → T.nm f ≠ m
def mMeth (okF : Nat → Nat → Bool) (tab : MTab) (b : Bool) (mo : ME) (u : MA) : ME := fun e => (mo e).bind fun r e1 => match insOf e1 r with
  | some (c, fs) => if (fs.all fun p => okF c p.1) = true then (match tab c with
    | some (m, dd, p) => (u e1).bind fun rs e2 => mCal (b :: m) dd p (r :: rs) e2
    | none => .no) else .no
  | none => .no
/-- the arguments behind another value -/
theorem RvL.lone {T : Cn} {F : Hp} {ad : List Addr} {r : RV} {v : V} {rs : List RV} {vs : List V} (h : RvR T F ad r v) (g : RvL T F ad rs vs) : RvL T F ad (r :: rs) (v :: vs) := ⟨v, vs, rfl, h, g⟩
section
variable {T : Cn} {X : Cx} {W : WX} {o e : Expr} {es : List Expr} {m : Str} {pos apos p : Pos} {mo : ME} {u : MA} {okF : Nat → Nat → Bool}
theorem me_meth {pl : Sem Bool} {tab : MTab} {j k : Nat} (b : Bool) (ho : DE T X W o (pm mo)) (O : OkM T okF m) (G : ∀ c mm dd q, tab c = some (mm, dd, q) → GMe T X.prog X.w X.base j c m dd (fxP q)) (hr : Room k X.A) (hgd : X.A.guards = some []) (tk : Takes X W) (ha : DA T X W (e :: es) (pm u)) (hj : j ≤ k := by decide)
    (hK : X.K = T.K := by rfl) (hM : X.mg = T.mg := by rfl)
    (hst : starEach (e :: es) X.env = (false, eval e X.env) :: starEach es X.env := by rfl) (hpl : (backTo pos (starEach es X.env)).any (·.1) = false := by rfl)
    (ht : eval (.Call (.Attribute o m apos) (e :: es) [] pos) X.env = (do
      let ov ← eval o X.env
      standAt apos.atName
      let (f, first) ← holding [ov] (getMethod ov m pl)
      callWith pos f first (backTo pos (starEach (e :: es) X.env)) (backToKw pos (keywordEach [] X.env))) := by rfl) :
    DE T X W (.Call (.Attribute o m apos) (e :: es) [] pos) (pm (mMeth okF tab b mo u)) := ⟨⟨fun pins s σ H Q I h => by
  obtain ⟨c0, F0, ad, en, P, R, rel, q, hq, hx⟩ := h
  have q' := post_bind' q
  refine PySem.W.methodCall_KW (pl := pl) (thn (ho.pe.run pins s σ H (fun v H1 => ∃ F1 ad1 e1 r, Ex F0 F1 ∧ Px ad ad1 ∧ Rel T c0 e1 σ F1 H1 ad1 ∧ RvR T F1 ad1 r v ∧ ((match insOf e1 r with
    | some (c, fs) => if (fs.all fun p => okF c p.1) = true then (match tab c with
      | some (m, dd, p) => (u e1).bind fun rs e2 => mCal (b :: m) dd p (r :: rs) e2
      | none => .no) else .no
    | none => .no) : Res RV).post P R) I ⟨c0, F0, ad, en, _, R, rel, q', fun v H1 F1 ad1 e1 r x1 p1 rel1 r1 q1 => ⟨F1, ad1, e1, r, x1, p1, rel1, r1, q1⟩, hx⟩) fun uv s1 ⟨x, H1, I1, rx, F1, ad1, e1, r, x1, p1, rel1, r1, q1⟩ => ?_) ht
  cases hi : insOf e1 r with
  | none =>
    rw [hi] at q1
    exact q1.elim
  | some z =>
    obtain ⟨c, fs⟩ := z
    rw [hi] at q1
    dsimp only at q1
    split at q1
    · rename_i hall
      cases ht' : tab c with
      | none =>
        rw [ht'] at q1
        exact q1.elim
      | some z =>
        obtain ⟨mm, dd, pf⟩ := z
        rw [ht'] at q1
        dsimp only at q1
        obtain ⟨a, C, dx, gs, rfl, h1, h2, h3⟩ := insOf_ok rel1 r1 hi
        obtain ⟨C', f, fd, ps, dvs, ds, g1, g2, g3, g4, g5, g6, g7, _⟩ := (G c mm dd pf ht').all
        rw [h1] at g1
        cases g1
        obtain rfl : uv = Value.ref a := rx
        have hno : gs.lookup m = none := rvF_none h3 fun p hp => O c p.1 (List.all_eq_true.mp hall p hp)
        refine getmeth_ok I1 h2 (by rw [hK]; exact g2) (by rw [hK]; exact g3) hno ?_
        refine PySem.W.callWith_K (first := [.ref a]) (h₀ := X.base) I.ok.mod.kin (by rw [hK]; exact g3.kp) (thn (ha.pa.run pos pins s1 σ H1 _ I1 ⟨c0, F1, ad1, e1, _, R, rel1, post_bind' q1, fun vs H2 F2 ad2 e2 rs x2 p2 rel2 r2 q2 => cal_ok rel2 (RvL.lone (r1.mono x2 p2) r2) (mCal_to q2) (hq.mono (x1.trans x2) (p1.trans p2)) (hx.mono (x1.trans x2) (p1.trans p2)) g7, hx.mono x1 p1⟩) fun us s2 ⟨vs, H2, I2, r2, q2⟩ => ⟨I2.kIn, ?_⟩) hst hpl
        have rr : Vals (V.ref a :: vs) (Value.ref a :: us) := .cons rfl r2
        have rr2 := rr.append g6
        exact runG g4 (hr.mono hj) hgd hK hM tk I2 (g5 s2 (Value.ref a :: us) (by rw [← hK]; exact I2.kIn) (by rw [← rr2.length]; exact spF_len g4 q2)) rr2 q2
    · exact q1.elim⟩⟩
theorem me_meth0 {pl : Sem Bool} {tab : MTab} {j k : Nat} (b : Bool) (ho : DE T X W o (pm mo)) (O : OkM T okF m) (G : ∀ c mm dd q, tab c = some (mm, dd, q) → GMe T X.prog X.w X.base j c m dd (fxP q)) (hr : Room k X.A) (hgd : X.A.guards = some []) (tk : Takes X W) (hj : j ≤ k := by decide)
    (hK : X.K = T.K := by rfl) (hM : X.mg = T.mg := by rfl)
    (ht : eval (.Call (.Attribute o m apos) [] [] pos) X.env = (do
      let ov ← eval o X.env
      standAt apos.atName
      let (f, first) ← holding [ov] (getMethod ov m pl)
      callWith pos f first (backTo pos (starEach [] X.env)) (backToKw pos (keywordEach [] X.env))) := by rfl) :
    DE T X W (.Call (.Attribute o m apos) [] [] pos) (pm (mMeth okF tab b mo mNil)) := ⟨⟨fun pins s σ H Q I h => by
  obtain ⟨c0, F0, ad, en, P, R, rel, q, hq, hx⟩ := h
  have q' := post_bind' q
  refine PySem.W.methodCall_KW (pl := pl) (thn (ho.pe.run pins s σ H (fun v H1 => ∃ F1 ad1 e1 r, Ex F0 F1 ∧ Px ad ad1 ∧ Rel T c0 e1 σ F1 H1 ad1 ∧ RvR T F1 ad1 r v ∧ ((match insOf e1 r with
    | some (c, fs) => if (fs.all fun p => okF c p.1) = true then (match tab c with
      | some (m, dd, p) => (mNil e1).bind fun rs e2 => mCal (b :: m) dd p (r :: rs) e2
      | none => .no) else .no
    | none => .no) : Res RV).post P R) I ⟨c0, F0, ad, en, _, R, rel, q', fun v H1 F1 ad1 e1 r x1 p1 rel1 r1 q1 => ⟨F1, ad1, e1, r, x1, p1, rel1, r1, q1⟩, hx⟩) fun uv s1 ⟨x, H1, I1, rx, F1, ad1, e1, r, x1, p1, rel1, r1, q1⟩ => ?_) ht
  cases hi : insOf e1 r with
  | none =>
    rw [hi] at q1
    exact q1.elim
  | some z =>
    obtain ⟨c, fs⟩ := z
    rw [hi] at q1
    dsimp only at q1
    split at q1
    · rename_i hall
      cases ht' : tab c with
      | none =>
        rw [ht'] at q1
        exact q1.elim
      | some z =>
        obtain ⟨mm, dd, pf⟩ := z
        rw [ht'] at q1
        dsimp only at q1
        obtain ⟨a, C, dx, gs, rfl, h1, h2, h3⟩ := insOf_ok rel1 r1 hi
        obtain ⟨C', f, fd, ps, dvs, ds, g1, g2, g3, g4, g5, g6, g7, _⟩ := (G c mm dd pf ht').all
        rw [h1] at g1
        cases g1
        obtain rfl : uv = Value.ref a := rx
        have hno : gs.lookup m = none := rvF_none h3 fun p hp => O c p.1 (List.all_eq_true.mp hall p hp)
        refine getmeth_ok I1 h2 (by rw [hK]; exact g2) (by rw [hK]; exact g3) hno ?_
        have q2 : spF T (fxP pf) ([V.ref a] ++ dvs) H1 Q (fun cls d H' => W cls d σ H') := cal_ok rel1 (RvL.lone r1 (show RvL T F1 ad1 [] [] from rfl)) (mCal_to q1) (hq.mono x1 p1) (hx.mono x1 p1) g7
        have rr : Vals [V.ref a] [Value.ref a] := .cons rfl .nil
        have rr2 := rr.append g6
        exact PySem.W.callWith_K0 (first := [.ref a]) I1.kIn (by rw [hK]; exact g3.kp) (runG g4 (hr.mono hj) hgd hK hM tk I1 (g5 s1 [Value.ref a] (by rw [← hK]; exact I1.kIn) (by rw [← rr2.length]; exact spF_len g4 q2)) rr2 q2)
    · exact q1.elim⟩⟩
/-! ### instances made -/
/-- C(..): an object of the state -/
def mNew (c : Nat) (m : List Bool) (dd : List D) (p : PF) (u : MA) : ME := fun e => (u e).bind fun rs e1 => (mCal (false :: m) dd p (.ob e1.ob.length :: rs) ⟨e1.sl, e1.ob ++ [.ins c []]⟩).bind fun r e2 => match r with
  | .val .non => .ok (.ob e1.ob.length) e2
  | _ => .no
theorem guards_make {A : Around} {C : Addr} {us : List Value} (h : A.guards = some []) : (A.under (.builtin "type.__call__" ⟨.ref C :: us, []⟩)).guards = some [] := by
  first
    | exact h
    | (simp [Around.under, Code.guards, Code.isGuard, guardIds, h])
theorem run_makeG {pins : List (Addr × Obj)} {σ : L2.St} {H : Hp} {s : Shared} {Q : VK} {us us0 : List Value} {vs : List V} {k : Nat} {C f : Addr} {fd : FuncData} {ps : List Str} {fx : FX} (M : Mk X.K C f) (F : FnG T X.prog X.w X.base k f fd ps fx) (hr : Room (k + 1) X.A) (hgd : X.A.guards = some []) (hK : X.K = T.K) (hM : X.mg = T.mg) (tk : Takes X W)
    (hb : ∀ (s : Shared) (self : Value), X.K.In s.heap → BindsTo s fd ⟨self :: us0, []⟩ (ps.zip (self :: us))) (I : Inv X pins σ H s) (r : Vals vs us)
    (h : ∀ x dx, H x = none → H dx = none → dx ≠ x → spF T fx (.ref x :: vs) (upd (upd H dx (.own x)) x (.ins C dx [])) (fun v H2 => v = .non ∧ Q (.ref x) H2) (fun cls d H' => W cls d σ H')) :
    wpAny (model X.prog X.w) X.A (call (.ref C) us0) (EP X pins σ Q) X.xe s := by
  have hq := h (s.heap.objs.size + 1) s.heap.objs.size (I.hok.fresh (Nat.le_succ _)) (I.hok.fresh (Nat.le_refl _)) (Nat.ne_of_lt (Nat.lt_succ_self _))
  have I2 := Inv.made (C := C) I
  have r2 : Vals (V.ref (s.heap.objs.size + 1) :: vs) (Value.ref (s.heap.objs.size + 1) :: us) := .cons rfl r
  have e0 := I2.env0.make C us0 []
  rw [hK, hM] at e0
  refine wpAny_call (make_map (f := f) I.kIn M.makes M.init (beq_iff_eq.mp M.fn) (codeAny_mono (F.run _ X.stack _ _ ⟨Value.ref (s.heap.objs.size + 1) :: us0, []⟩ (Value.ref (s.heap.objs.size + 1) :: us) _ _ _ (hr.make C us0 [])
    (guards_make hgd) e0 (hb _ _ I2.kIn) r2 hq) fun r s' hq' => ?_))
  match r, hq' with
  | .error ex, hq' => exact tk ex s' (XE.of_call I2 (fun _ _ _ z => z) hq')
  | .ok (.ret u), hq' =>
    obtain ⟨v, H', I3, rv, ev, q3⟩ := I2.after hq'
    subst ev
    exact ⟨rv, ⟨V.ref (s.heap.objs.size + 1), H', I3, rfl, q3⟩⟩
theorem make_ok {c0 : BF} {en : Env} {σ : L2.St} {F0 H : Hp} {ad : List Addr} {P : RV → Env → Prop} {R : Xc → Env → Prop} {Q : VK} {c : Nat} {mm : List Bool} {dd : List D} {dvs : List V} {pf : PF} {rs : List RV} {vs : List V} {C : Addr} (rel : Rel T c0 en σ F0 H ad) (hv : RvL T F0 ad rs vs) (hC : T.mg (T.nm c) = some (.ref C))
    (q : ((mCal (false :: mm) dd pf (.ob en.ob.length :: rs) ⟨en.sl, en.ob ++ [.ins c []]⟩).bind fun r e2 => match r with
      | .val .non => .ok (.ob en.ob.length) e2
      | _ => .no).post P R) (hq : QL T c0 σ F0 ad P Q) (hx : XL T c0 W F0 ad R) (hdd : ∀ F, RepL T F dd dvs) :
    ∀ x dx, H x = none → H dx = none → dx ≠ x → spF T (fxP pf) (.ref x :: (vs ++ dvs)) (upd (upd H dx (.own x)) x (.ins C dx [])) (fun v H2 => v = .non ∧ Q (.ref x) H2) (fun cls d H' => W cls d σ H') := by
  intro x dx hxn hdn hne
  have hx1 : (upd H dx (.own x)) x = none := by
    rw [upd_ne (fun z => hne z.symm)]
    exact hxn
  have rel1 := rel.other (Ex.new (p := dx) (o := .own x) hdn)
  have rel2 : Rel T c0 ⟨en.sl, en.ob ++ [.ins c []]⟩ σ F0 (upd (upd H dx (.own x)) x (.ins C dx [])) (ad ++ [x]) := rel1.push (u := .ins C dx []) (o := .ins c []) hx1 ⟨rel1.fh.free hx1, rel1.bh.free hx1, C, dx, [], hC, upd_same, rfl⟩
  have hal : ad.length = en.ob.length := rel.adl
  have hself : RvR T F0 (ad ++ [x]) (.ob en.ob.length) (.ref x) := ⟨x, by rw [← hal]; simp, rfl⟩
  have hv2 := RvL.lone hself (hv.mono (Ex.refl F0) (Px.push ad x))
  have hq2 : QL T c0 σ F0 (ad ++ [x]) (fun r e2 => ((match r with
      | .val .non => .ok (.ob en.ob.length) e2
      | _ => .no) : Res RV).post P R) (fun v H2 => v = .non ∧ Q (.ref x) H2) := fun v H' F' ad' e' r x1 p1 rel' rr q' => by
    dsimp only at q'
    split at q'
    · refine ⟨rep_non.mp (show Rep T F' .non v from rr), hq (.ref x) H' F' ad' e' (.ob en.ob.length) x1 (fun k p h => p1 k p (Px.push ad x k p h)) rel' ⟨x, p1 _ _ (by rw [← hal]; simp), rfl⟩ q'⟩
    · exact q'.elim
  exact cal_ok rel2 hv2 (mCal_to (post_bind' q)) hq2 (hx.mono (Ex.refl F0) (Px.push ad x)) hdd
theorem me_new {x : Str} {c j k : Nat} {dd : List D} {q : PF} (mm : List Bool) (G : GMk T X.prog X.w X.base j c dd (fxP q)) (hr : Room k X.A) (hgd : X.A.guards = some []) (tk : Takes X W) (ha : DA T X W (e :: es) (pm u)) (hj : j + 1 ≤ k := by decide) (hn : T.nm c = x := by rfl)
    (hg : Gl X x := by rfl) (hK : X.K = T.K := by rfl) (hM : X.mg = T.mg := by rfl) (hdb : (x == ("__debug__" : Str)) = false := by decide) (he : starEach (e :: es) X.env = (false, eval e X.env) :: starEach es X.env := by rfl) (hpl : (backTo pos (starEach es X.env)).any (·.1) = false := by rfl) :
    DE T X W (.Call (.Name x p) (e :: es) [] pos) (pm (mNew c mm dd q u)) := ⟨⟨fun pins s σ H Q I h => by
  obtain ⟨c0, F0, ad, en, P, R, rel, qq, hq, hx⟩ := h
  obtain ⟨C, f, fd, ps, dvs, ds, g1, g2, g3, g4, g5, g6⟩ := G.all
  rw [← hK] at g2
  refine wpAny_Call_Name_kw (ld_glob I hg (by rw [hM, ← hn]; exact g1) ?_ hdb)
  refine PySem.W.callWith_K (h₀ := X.base) I.ok.mod.kin g2.kp (thn (ha.pa.run pos pins s σ H _ I ⟨c0, F0, ad, en, _, R, rel, post_bind' qq, fun vs H1 F1 ad1 e1 rs x1 p1 rel1 r1 q1 => make_ok rel1 r1 g1 q1 (hq.mono x1 p1) (hx.mono x1 p1) g6, hx⟩) fun us s1 ⟨vs, H1, I1, r, q1⟩ => ⟨I1.kIn, ?_⟩) he hpl
  have r2 := r.append g5
  refine run_makeG (us := us ++ ds) g2 g3 (hr.mono hj) hgd hK hM tk (fun s self kin => ?_) I1 r2 q1
  have hl : (us ++ ds).length + 1 = ps.length := by
    have hz := q1 (s1.heap.objs.size + 1) s1.heap.objs.size (I1.hok.fresh (Nat.le_succ _)) (I1.hok.fresh (Nat.le_refl _)) (Nat.ne_of_lt (Nat.lt_succ_self _))
    have := spF_len g3 hz
    rw [List.length_cons, r2.length] at this
    exact this
  have := g4 s (self :: us) (by rw [← hK]; exact kin) (by rw [List.cons_append, List.length_cons]; exact hl)
  exact this⟩⟩
end
end DL
end
section
set_option Elab.async false
set_option linter.all false
set_option autoImplicit false
set_option maxRecDepth 100000
set_option maxHeartbeats 2000000
/-! DOC: own classes: isinstance, an own ==, instances called. -/
namespace DL
open PySem PySem.Spec L2
open PyProof.Rows hiding St

/-- a value's type: a built-in one, or the class of a number -/
inductive TK where
  | bi (n : String) | ow (c : Nat)
  deriving DecidableEq
def tkOf (e : Env) (r : RV) : Option TK := match insOf e r with
  | some (c, _) => some (.ow c)
  | none => (tyOf e r).map .bi
/-- what the text says of a class whose instances are asked for their type -/
def GIn (T : Cn) (c : Nat) : Prop := ∃ C, T.mg (T.nm c) = some (.ref C) ∧ C8.InsC T.K C
/-- the type t as the model's value -/
def TKV (T : Cn) : TK → Value → Prop
  | .bi n, v => v = .type n
  | .ow c, v => ∃ C, T.mg (T.nm c) = some (.ref C) ∧ v = .ref C
theorem tk_ok {T : Cn} {c : BF} {e : Env} {σ : L2.St} {F H : Hp} {ad : List Addr} {r : RV} {v : V} {t : TK} (R : Rel T c e σ F H ad) (h : RvR T F ad r v) (q : tkOf e r = some t) (g : ∀ c, t = .ow c → GIn T c) : ∃ u, TKV T t u ∧ TyX T.K H v u := by
  unfold tkOf at q
  cases hi : insOf e r with
  | some p =>
    obtain ⟨k, fs⟩ := p
    rw [hi] at q
    cases q
    obtain ⟨a, C, dx, gs, rfl, h1, h2, h3⟩ := insOf_ok R h hi
    obtain ⟨C', g1, g2⟩ := g k rfl
    rw [h1] at g1
    cases g1
    exact ⟨.ref C, ⟨C, h1, rfl⟩, .base (TyOf.ins h2 g2.cl g2.ha g2.hn g2.htk g2.hm)⟩
  | none =>
    rw [hi] at q
    obtain ⟨n, h1, rfl⟩ := Option.map_eq_some_iff.mp q
    exact ⟨.type n, rfl, ty_ok R h h1⟩
/-- ans answers isinstance(.., the class at the module's name x) -/
def AnsC (T : Cn) (x : Str) (ans : TK → Option Bool) : Prop := ∃ C, T.mg x = some (.ref C) ∧ ∀ t b, ans t = some b → (∀ c, t = .ow c → GIn T c) ∧ ∀ u, TKV T t u → PySem.W.kitOne T.K u (.ref C) = some b
def mIsC (ans : TK → Option Bool) (m : ME) : ME := fun e => (m e).bind fun r e1 => match tkOf e1 r with
  | some t => (match ans t with
    | some b => .ok (.val (.bl b)) e1
    | none => .no)
  | none => .no
section
variable {T : Cn} {X : Cx} {W : WX} {a o e : Expr} {es : List Expr} {pos p p2 : Pos} {ma mo mb : ME} {u : MA}
theorem me_isC {n : Str} {ans : TK → Option Bool} (hm : X.mg "isinstance" = none) (A : AnsC T n ans) (ha : DE T X W a (pm ma)) (hK : X.K = T.K := by rfl) (hM : X.mg = T.mg := by rfl) (hg : Gl X "isinstance" := by rfl) (hg2 : Gl X n := by rfl)
    (hdb : (n == ("__debug__" : Str)) = false := by decide) (he : starEach (a :: [.Name n p2]) X.env = (false, eval a X.env) :: starEach [.Name n p2] X.env := by rfl) (he2 : starEach (.Name n p2 :: []) X.env = (false, eval (.Name n p2) X.env) :: starEach [] X.env := by rfl)
    (hpl : (backTo pos (starEach [.Name n p2] X.env)).any (·.1) = false := by rfl) :
    DE T X W (.Call (.Name "isinstance" p) [a, .Name n p2] [] pos) (pm (mIsC ans ma)) := by
  obtain ⟨C, hC, hA⟩ := A
  exact ⟨PE.imp (pe_callB (call_isi (X := X)) hg hm rfl (pa_cons ha.pe (pa_cons (pe_glob (v := .ref C) hg2 (by rw [hM]; exact hC) rfl hdb) pa_nil he2) he) (by decide) (by decide) he hpl) fun σ H Q h => by
    obtain ⟨c, F, ad, e, P, R, rel, q, hq, hx⟩ := h
    refine ⟨c, F, ad, e, _, R, rel, post_bind' q, fun v H1 F1 ad1 e1 r x1 p1 rel1 r1 q1 => ?_, hx⟩
    dsimp only at q1
    split at q1
    · rename_i t ht
      split at q1
      · rename_i b hb
        obtain ⟨g1, g2⟩ := hA t b hb
        obtain ⟨w, k1, k2⟩ := tk_ok rel1 r1 ht g1
        refine ⟨v, .ref C, w, .ref C, b, rfl, .own C, ?_, ?_, (hq.mono x1 p1).val rel1 (rep_bl.mpr rfl) q1⟩
        · rw [hK]
          exact k2
        · rw [hK]
          exact g2 w k1
      · exact q1.elim
    · exact q1.elim⟩

/-! ### an own == -/
theorem specialIfBound_K {M : Model} {A : Around} {E : Value → Shared → Prop} {s : Shared} {K : PySem.W.Frag} {v : Value} {C f : Addr} {name : Str} {args : List Value} {Q : Option Value → Shared → Prop} (kin : K.In s.heap) (hT : PySem.W.Looks M s.heap (typeOf v) (.ref C)) (hf : PySem.W.findIn K (.ref C) name = some (some (.ref f)))
    (ht : PySem.W.typeIn K (.ref f) = some (.type "function")) (hcall : wpAny M A (call (.ref f) (v :: args)) (fun r => Q (some r)) E s) : wpAny M A (callSpecialIfBound? v name args) Q E s := by
  simp only [callSpecialIfBound?, bindSpecialIfBound?]
  refine wpAny_holding (wpAny_bind (wpAny_bind ?_))
  unfold specialOf
  refine wpAny_bind (hT.here ((PySem.W.looks_findIn kin hf).here ?_))
  refine wpAny_bind (wpAny_askSetting (wpAny_ite ?_))
  have fin : wpAny M A (call (.ref f) ([v] ++ args) >>= fun r => pure (some r)) Q E s :=
    wpAny_bind (wpAny_mono hcall (fun v s' h' => wpAny_pure h') fun _ _ h' => h')
  split
  · exact wpAny_bind ((PySem.W.bind_fn kin v ht).here (wpAny_pure (by exact fin)))
  · exact wpAny_tryCatch (wpAny_bind ((PySem.W.bind_fn kin v ht).here (wpAny_pure (by exact fin))))
theorem richEq_K {prog : Program} {w : World} {A : Around} {E : Value → Shared → Prop} {s : Shared} {K : PySem.W.Frag} {x C f : Addr} {b tb : Value} {Q : Value → Shared → Prop} (hu : A.units < cLine) (kin : K.In s.heap) (hT : PySem.W.Looks (model prog w) s.heap (typeOf (.ref x)) (.ref C)) (hTb : PySem.W.Looks (model prog w) s.heap (typeOf b) tb)
    (hs : tb = .ref C ∨ PySem.W.subIn K tb (.ref C) = some false) (hf : PySem.W.findIn K (.ref C) "__eq__" = some (some (.ref f)))
    (ht : PySem.W.typeIn K (.ref f) = some (.type "function")) (hcall : wpAny (model prog w) A (call (.ref f) [.ref x, b]) (fun v s' => ∃ k, v = .bool k ∧ Q (.bool k) s') E s) : wpAny (model prog w) A (richCompare .Eq (.ref x) b) Q E s := by
  unfold richCompare
  simp only [oneThing_ref]
  refine wpAny_holding ?_
  refine wpAny_bind (wpAny_cRoomFor hu ?_)
  rw [cmpInfo_Eq]
  dsimp only
  refine wpAny_bind (hT.here ?_)
  refine wpAny_bind (hTb.here ?_)
  have fin : wpAny (model prog w) A (tryCompare (.ref x) "__eq__" b) (fun r s' => ∃ k, r = some (.bool k) ∧ Q (.bool k) s') E s := by
    unfold tryCompare
    refine wpAny_bind (specialIfBound_K kin hT hf ht (wpAny_mono hcall (fun v s' hv => ?_) fun _ _ e => e))
    obtain ⟨k, rfl, hq⟩ := hv
    exact wpAny_pure ⟨k, rfl, hq⟩
  have rest : ∀ (k : Option Value → Sem Value), (∀ z, k (some (.bool z)) = pure (.bool z)) → wpAny (model prog w) A (tryCompare (.ref x) "__eq__" b >>= k) Q E s := fun k hk => by
    refine wpAny_bind (wpAny_mono fin (fun r s' hr => ?_) fun _ _ e => e)
    obtain ⟨z, rfl, hq⟩ := hr
    rw [hk]
    exact wpAny_pure hq
  rcases hs with rfl | hs
  · rw [show (Value.ref C != Value.ref C) = false by simp]
    simp only [Bool.false_eq_true, if_false]
    first
      | exact rest _ fun _ => rfl
      | exact wpAny_bind (wpAny_pure (rest _ fun _ => rfl))
      | (refine wpAny_bind (wpAny_pure ?_); simp only [Bool.false_eq_true, if_false]; exact rest _ fun _ => rfl)
  · split
    · refine wpAny_bind ((PySem.W.looks_subIn kin hs).here ?_)
      simp only [Bool.false_eq_true, if_false]
      exact rest _ fun _ => rfl
    · first
        | exact rest _ fun _ => rfl
        | exact wpAny_bind (wpAny_pure (rest _ fun _ => rfl))
        | (refine wpAny_bind (wpAny_pure ?_); simp only [Bool.false_eq_true, if_false]; exact rest _ fun _ => rfl)
/-! .. as an operator -/
/-- x is an instance whose class has an own == -/
def rOwnEq (T : Cn) (P : Program) (w : World) (base : Heap) (k : Nat) : R2 := fun x y H Q => ∃ (a C dx : Addr) (gs : List (Str × V)) (f : Addr) (fd : FuncData) (ps : List Str) (dvs : List V) (ds : List Value) (fx : FX) (t : Value),
  x = .ref a ∧ H a = some (.ins C dx gs) ∧ PySem.W.findIn T.K (.ref C) "__eq__" = some (some (.ref f)) ∧ PySem.W.isFn T.K (.ref f) = true ∧ FnG T P w base k f fd ps fx ∧ Binds T.K fd ps ds ∧ Vals dvs ds ∧
  TyX T.K H y t ∧ (t = .ref C ∨ PySem.W.subIn T.K t (.ref C) = some false) ∧ spF T fx ([x, y] ++ dvs) H (fun v H' => ∃ b, v = .bl b ∧ Q (.bl b) H') (fun _ _ _ => False)
theorem op_ownEq {k : Nat} (hr : Room k X.A) (hgd : X.A.guards = some []) (hK : X.K = T.K) (hM : X.mg = T.mg) : OpR X (compareOp .Eq) (rOwnEq T X.prog X.w X.base k) := by
  intro pins s σ H x y v u Q I rx ry h
  obtain ⟨a, C, dx, gs, f, fd, ps, dvs, ds, fx, t, rfl, h1, h2, h3, h4, h5, h6, h7, h8, h9⟩ := h
  obtain rfl : v = Value.ref a := rx
  rw [← hK] at h7
  obtain ⟨Pt, Z, p, _⟩ := kit_of I ry h7
  obtain ⟨mA, O, _⟩ := ins_get I.hok h1
  have hobj : s.heap.get? a = some ⟨.ref C, some dx, .plain, #[]⟩ := O.obj
  have hTx : PySem.W.Looks (model X.prog X.w) s.heap (typeOf (.ref a)) (.ref C) := fun A Q E s2 kk q => wpAny_typeOf_ref (kk _ _ hobj) q
  show wpAny _ _ (richCompare .Eq (.ref a) u) _ _ s
  have rr : Vals [V.ref a, y] [Value.ref a, u] := .cons rfl (.cons ry .nil)
  have rr2 := rr.append h6
  have hls : (([Value.ref a, u] : List Value) ++ ds).length = ps.length := by rw [← rr2.length]; exact spF_len h4 h9
  refine richEq_K hr.units0 I.kIn hTx (Z.ty _ _ I.kIn p) (by rw [hK]; exact h8) (by rw [hK]; exact h2) (by rw [hK]; exact beq_iff_eq.mp h3) ?_
  refine wpAny_mono (runG (W := W0) h4 hr hgd hK hM takes_W0 I (h5 s [Value.ref a, u] (by rw [← hK]; exact I.kIn) hls) rr2 h9) (fun w s' hw => ?_) fun _ _ z => z
  obtain ⟨v', H', I', rv, b, rfl, q⟩ := hw
  exact ⟨b, rv, ⟨.bl b, H', I', rfl, q⟩⟩
/-- the table of the classes' own ==; sub: what stands on the right is of the class itself or of none below it -/
def eqIM (et : MTab) (sub : Nat → TK → Bool) (b : Bool) : OM := fun e x y => match insOf e x with
  | some (c, _) => (match et c, tkOf e y with
    | some (m, dd, p), some t => if sub c t = true then (match mCal (b :: m) dd p [x, y] e with
      | .ok (.val (.bl k)) e1 => .ok (.val (.bl k)) e1
      | _ => .no) else .no
    | _, _ => .no)
  | none => eqM false e x y
def eqIX (T : Cn) (et : MTab) (sub : Nat → TK → Bool) (b : Bool) : OX := fun e x y P => (∃ c fs m dd p t, insOf e x = some (c, fs) ∧ et c = some (m, dd, p) ∧ tkOf e y = some t ∧ sub c t = true ∧ cal (b :: m) dd (fxP p) [x, y] e (fun r e1 => ∃ k, r = .val (.bl k) ∧ P (.val (.bl k)) e1) (fun _ _ => False)) ∨ eqX false e x y P
/-- what the text says of these -/
structure OkE (T : Cn) (P : Program) (w : World) (base : Heap) (k : Nat) (et : MTab) (sub : Nat → TK → Bool) : Prop where
  me : ∀ c m dd q, et c = some (m, dd, q) → GMe T P w base k c "__eq__" dd (fxP q)
  sub : ∀ c t, sub c t = true → (∀ d, t = .ow d → GIn T d) ∧ ∀ C u, T.mg (T.nm c) = some (.ref C) → TKV T t u → (u = .ref C ∨ PySem.W.subIn T.K u (.ref C) = some false)
theorem ad_ownEq {et : MTab} {sub : Nat → TK → Bool} {b : Bool} {k : Nat} (O : OkE T X.prog X.w X.base k et sub) (hK : X.K = T.K) : OpD T (fun x y H Q => rOwnEq T X.prog X.w X.base k x y H Q ∨ (rEqD X.K x y H Q ∨ rEq x y H Q)) (eqIX T et sub b) := by
  intro c F ad e σ H x y rx ry P Q rel r1 r2 h q
  rcases h with ⟨cc, fs, m, dd, p, t, h1, h2, h3, h4, h5⟩ | h
  · left
    obtain ⟨a, C, dx, gs, rfl, g1, g2, g3⟩ := insOf_ok rel r1 h1
    obtain ⟨C', f, fd, ps, dvs, ds, k1, k2, k3, k4, k5, k6, k7, _⟩ := (O.me cc m dd p h2).all
    rw [g1] at k1
    cases k1
    obtain ⟨s1, s2⟩ := O.sub cc t h4
    obtain ⟨u, t1, t2⟩ := tk_ok rel r2 h3 s1
    refine ⟨a, C, dx, gs, f, fd, ps, dvs, ds, fxP p, u, rfl, g2, k3.at_, k3.fn, k4, k5, k6, t2, s2 C u g1 t1, ?_⟩
    exact cal_ok (W := W0) rel (RvL.lone r1 (RvL.lone r2 (show RvL T F ad [] [] from rfl))) h5 (fun v H' F' ad' e' r x1 p1 rel' rr ⟨z, hz, qz⟩ => by
      subst hz
      obtain rfl := rv_bl rr
      exact ⟨z, rfl, q (.bl z) H' F' ad' e' _ x1 p1 rel' rr qz⟩) xl_no k7
  · right
    exact ad_eq hK c F ad e σ H x y rx ry P Q rel r1 r2 h q
theorem oj_eqI {et : MTab} {sub : Nat → TK → Bool} {b : Bool} : OJ (eqIX T et sub b) (eqIM et sub b) := fun e x y P R h => by
  unfold eqIM at h
  cases hi : insOf e x with
  | none =>
    rw [hi] at h
    exact .inr (oj_eq e x y P _ h)
  | some z =>
    obtain ⟨c, fs⟩ := z
    rw [hi] at h
    dsimp only at h
    split at h
    · rename_i m dd p t h1 h2
      split at h
      · rename_i hs
        refine .inl ⟨c, fs, m, dd, p, t, hi, h1, h2, hs, mCal_to ?_⟩
        split at h
        · rename_i k e1 hk
          rw [hk]
          exact ⟨k, rfl, h⟩
        · exact h.elim
      · exact h.elim
    · exact h.elim
theorem me_eqI {j k : Nat} {et : MTab} {sub : Nat → TK → Bool} (bb : Bool) (hu : U X) (O : OkE T X.prog X.w X.base j et sub) (hr : Room k X.A) (hgd : X.A.guards = some []) (ha : DE T X W a (pm ma)) (hb : DE T X W o (pm mb)) (hj : j ≤ k := by decide) (hK : X.K = T.K := by rfl) (hM : X.mg = T.mg := by rfl) :
    DE T X W (.Compare a [.Eq] [o] pos) (pm (m2 (eqIM et sub bb) ma mb)) := me_2 (de_cmp (OpR.or (op_ownEq (hr.mono hj) hgd hK hM) (OpR.or (op_eqD (u64 hu)) op_eq)) (ad_ownEq O hK) ha hb) oj_eqI
theorem mt_eqI {j k : Nat} {et : MTab} {sub : Nat → TK → Bool} (bb : Bool) (hu : U X) (O : OkE T X.prog X.w X.base j et sub) (hr : Room k X.A) (hgd : X.A.guards = some []) (ha : DE T X W a (pm ma)) (hb : DE T X W o (pm mb)) (hj : j ≤ k := by decide) (hK : X.K = T.K := by rfl) (hM : X.mg = T.mg := by rfl) :
    DT T X W (.Compare a [.Eq] [o] pos) (pm (mVal (m2 (eqIM et sub bb) ma mb))) := mt_2 (dt_cmp (OpR.or (op_ownEq (hr.mono hj) hgd hK hM) (OpR.or (op_eqD (u64 hu)) op_eq)) (ad_ownEq O hK) ha hb) oj_eqI

/-! ### instances called -/
def mCallI (tab : MTab) (b : Bool) (mo : ME) (u : MA) : ME := fun e => (mo e).bind fun r e1 => if (insOf e1 r).isSome = true then (u e1).bind fun rs e2 => match insOf e2 r with
  | some (c, _) => (match tab c with
    | some (m, dd, p) => mCal (b :: m) dd p (r :: rs) e2
    | none => .no)
  | none => .no else .no
theorem me_callI {tab : MTab} {j k : Nat} (b : Bool) (ho : DE T X W o (pm mo)) (G : ∀ c mm dd q, tab c = some (mm, dd, q) → GMe T X.prog X.w X.base j c "__call__" dd (fxP q)) (hr : Room k X.A) (hgd : X.A.guards = some []) (tk : Takes X W) (ha : DA T X W (e :: es) (pm u)) (hj : j ≤ k := by decide)
    (hK : X.K = T.K := by rfl) (hM : X.mg = T.mg := by rfl)
    (ht : eval (.Call o (e :: es) [] pos) X.env = (do callWith pos (← eval o X.env) [] (backTo pos (starEach (e :: es) X.env)) (backToKw pos (keywordEach [] X.env))) := by rfl)
    (he : starEach (e :: es) X.env = (false, eval e X.env) :: starEach es X.env := by rfl) (hpl : (backTo pos (starEach es X.env)).any (·.1) = false := by rfl) :
    DE T X W (.Call o (e :: es) [] pos) (pm (mCallI tab b mo u)) := ⟨⟨fun pins s σ H Q I h => by
  obtain ⟨c0, F0, ad, en, P, R, rel, q, hq, hx⟩ := h
  refine Call_ (thn (ho.pe.run pins s σ H (fun v H1 => ∃ F1 ad1 e1 r, Ex F0 F1 ∧ Px ad ad1 ∧ Rel T c0 e1 σ F1 H1 ad1 ∧ RvR T F1 ad1 r v ∧ (((u e1).bind fun rs e2 => match insOf e2 r with
    | some (c, _) => (match tab c with
      | some (m, dd, p) => mCal (b :: m) dd p (r :: rs) e2
      | none => .no)
    | none => .no) : Res RV).post P R ∧ ∃ a, v = .ref a) I ⟨c0, F0, ad, en, _, R, rel, post_bind' q, fun v H1 F1 ad1 e1 r x1 p1 rel1 r1 q1 => ?_, hx⟩) fun uv s1 ⟨x, H1, I1, rx, F1, ad1, e1, r, x1, p1, rel1, r1, q1, a, ea⟩ => ?_) ht
  · dsimp only at q1
    split at q1
    · rename_i hi
      obtain ⟨z, hz⟩ := Option.isSome_iff_exists.mp hi
      obtain ⟨c, fs⟩ := z
      obtain ⟨a, C, dx, gs, rfl, _⟩ := insOf_ok rel1 r1 hz
      exact ⟨F1, ad1, e1, r, x1, p1, rel1, r1, q1, a, rfl⟩
    · exact q1.elim
  · subst ea
    obtain rfl : uv = Value.ref a := rx
    refine StX.callO_with (thn (ha.pa.run pos pins s1 σ H1 (fun vs H2 => ∃ F2 ad2 e2 rs, Ex F1 F2 ∧ Px ad1 ad2 ∧ Rel T c0 e2 σ F2 H2 ad2 ∧ RvL T F2 ad2 rs vs ∧ ((match insOf e2 r with
      | some (c, _) => (match tab c with
        | some (m, dd, p) => mCal (b :: m) dd p (r :: rs) e2
        | none => .no)
      | none => .no) : Res RV).post P R) I1 ⟨c0, F1, ad1, e1, _, R, rel1, post_bind' q1, fun vs H2 F2 ad2 e2 rs x2 p2 rel2 r2 q2 => ⟨F2, ad2, e2, rs, x2, p2, rel2, r2, q2⟩, hx.mono x1 p1⟩) fun us s2 ⟨vs, H2, I2, r2', F2, ad2, e2, rs, x2, p2, rel2, r2, q2⟩ => ?_) he hpl
    have r1' := r1.mono x2 p2
    cases hi : insOf e2 r with
    | none =>
      rw [hi] at q2
      exact q2.elim
    | some z =>
      obtain ⟨c, fs⟩ := z
      rw [hi] at q2
      dsimp only at q2
      cases ht' : tab c with
      | none =>
        rw [ht'] at q2
        exact q2.elim
      | some z =>
        obtain ⟨mm, dd, pf⟩ := z
        rw [ht'] at q2
        dsimp only at q2
        obtain ⟨a', C, dx, gs, ea, h1, h2, h3⟩ := insOf_ok rel2 r1' hi
        cases ea
        obtain ⟨C', f, fd, ps, dvs, ds, g1, g2, g3, g4, g5, g6, g7, g8⟩ := (G c mm dd pf ht').all
        rw [h1] at g1
        cases g1
        obtain ⟨ox, od, J, hd⟩ := StX.insC_at (X := X) (C := C) I2 (.inr ⟨dx, gs, h2⟩)
        refine ⟨⟨C, ox, od, J, hd⟩, ?_⟩
        have q3 : spF T (fxP pf) ((V.ref a :: vs) ++ dvs) H2 Q (fun cls d H' => W cls d σ H') := cal_ok rel2 (RvL.lone r1' r2) (mCal_to q2) (hq.mono (x1.trans x2) (p1.trans p2)) (hx.mono (x1.trans x2) (p1.trans p2)) g7
        have rr : Vals (V.ref a :: vs) (Value.ref a :: us) := .cons rfl r2'
        have rr2 := rr.append g6
        have e0 : Env0 X.prog X.w T.K T.mg X.base X.A X.stack s2 H2 := by
          rw [← hK, ← hM]
          exact I2.env0
        have hb := g5 s2 (Value.ref a :: us) (by rw [← hK]; exact I2.kIn) (by rw [← rr2.length]; exact spF_len g4 q3)
        refine wpAny_call (PySem.W.kco_code I2.kIn J hd (by rw [hK]; exact g3.at_) (by rw [hK]; exact g3.fn) (by rw [hK]; exact g8) (codeAny_mono (g4.run X.A X.stack s2 H2 ⟨Value.ref a :: us, []⟩ _ _ Q _ (hr.mono hj) hgd e0 hb rr2 q3) fun res s' hq' => ?_))
        match res, hq' with
        | .error ex, hq' => exact tk ex s' (XE.of_call I2 (fun _ _ _ z => z) hq')
        | .ok (.ret _), hq' => exact I2.after hq'⟩⟩
end
end DL
end
section
set_option Elab.async false
set_option linter.all false
set_option autoImplicit false
set_option maxRecDepth 100000
set_option maxHeartbeats 2000000
/-! DOD: lists changed in place, more operators, items that are objects. -/
namespace DL
open PySem PySem.Spec L2
open PyProof.Rows hiding St
section
variable {T : Cn} {X : Cx} {W : WX} {a b o i : Expr} {es : List Expr} {pos pos' apos cpos tpos : Pos} {ma mb mo mi : ME} {u : MA}
/-! insert -/
def insX : MX := fun e r rs P => ∃ k n q ds d, r = .ob k ∧ rs = [.val (.int (n : Nat)), q] ∧ e.ob[k]? = some (.lst ds) ∧ dv e q = some d ∧ ds.length < sizeLine ∧ n < 2 ^ 62 ∧ P (.val .non) { e with ob := e.ob.set k (.lst (ds.take n ++ [d] ++ ds.drop n)) }
def insM : MM := fun e r rs => match r, rs with
  | .ob k, [.val (.int i), q] => (match e.ob[k]? with
    | some (.lst ds) => if 0 ≤ i ∧ i < 4611686018427387904 ∧ ds.length < 16777216 then (match dv e q with
      | some d => .ok (.val .non) { e with ob := e.ob.set k (.lst (ds.take i.toNat ++ [d] ++ ds.drop i.toNat)) }
      | none => .no) else .no
    | _ => .no)
  | _, _ => .no
theorem me_ins : MeD T (fun x vs H Q => ∃ (l : Addr) (xs : List V) (i : Int) (y : V), x = .ref l ∧ vs = [.int i, y] ∧ H l = some (.lst xs) ∧ xs.length < sizeLine ∧ 0 ≤ i ∧ i < 2 ^ 63 ∧ Q .non (upd H l (.lst (xs.take i.toNat ++ [y] ++ xs.drop i.toNat)))) insX := by
  intro c F ad e σ H x xs rx rs P Q R hr hl h hq
  obtain ⟨k, n, q, ds, d, rfl, rfl, hk, hd, hz, hn, hp⟩ := h
  obtain ⟨p, ha, rfl⟩ := hr
  obtain ⟨v, w, rfl, r1, r2⟩ := rv2 hl
  obtain rfl := rv_int r1
  obtain ⟨n1, n2, vs, g1, g2⟩ := R.ob k _ p hk ha
  have hy := dv_ok R r2 hd
  have hlen := g2.len
  have R2 := R.set (u := .lst (vs.take n ++ [w] ++ vs.drop n)) (o' := .lst (ds.take n ++ [d] ++ ds.drop n)) hk rfl ha ⟨n1, n2, _, upd_same, ((g2.take n).append (.cons hy .nil)).append (g2.drop n)⟩
  refine ⟨p, vs, n, w, rfl, rfl, g1, by omega, by omega, by omega, ?_⟩
  exact hq .non _ F ad _ (.val .non) (Ex.refl F) (Px.refl ad) R2 (show Rep T F .non .non from rep_non.mpr rfl) hp
theorem mj_ins : ∀ e r rs P R, (insM e r rs).post P R → insX e r rs P := fun e r rs P R h => by
  unfold insM at h
  split at h
  · rename_i k i q
    split at h
    · rename_i ds hk
      split at h
      · rename_i hc
        split at h
        · rename_i d hd
          refine ⟨k, i.toNat, q, ds, d, rfl, ?_, hk, hd, by rw [sizeLine_eq]; exact hc.2.2, by omega, h⟩
          rw [Int.toNat_of_nonneg hc.1]
        · exact h.elim
      · exact h.elim
    · exact h.elim
  · exact h.elim
theorem me_insert (ho : DE T X W b (pm mo)) (ha : DA T X W (a :: es) (pm u)) (hK : X.K = T.K := by rfl) (hbase : attributeBase b "insert" X.env (eval b X.env) = eval b X.env := by rfl)
    (hfew : ((backTo cpos (starEach (a :: es) X.env)).all (fun x => !x.1) && (backToKw cpos (keywordEach [] X.env)).all (fun x => x.1.isSome) && decide ((a :: es).length + ([] : List Keyword).length + (if ([] : List Keyword).isEmpty then 0 else 1) < 30)) = true := by rfl)
    (hline : (apos.endLine == cpos.line) = true := by rfl) (hs : starEach (a :: es) X.env = (false, eval a X.env) :: starEach es X.env := by rfl) (hplain : (backTo cpos (starEach es X.env)).any (·.1) = false := by rfl) :
    DE T X W (.Call (.Attribute b "insert" apos) (a :: es) [] cpos) (pm (mM tbLs insM mo u)) := me_M (de_m PySem.F.plainAttrs_list PySem.F.slot_list_insert PySem.F.type_list_insert mt_insert ty_ls me_ins ho ha hK hbase hfew hline hs hplain) tbLs_ok mj_ins
/-! del xs[i] -/
def mDel (mo mi : ME) : MS := fun e => (mo e).run fun o e1 => (mi e1).run fun i e2 => match o, dv e2 i with
  | .ob k, some (.int n) => (match e2.ob[k]? with
    | some (.lst ds) => if 0 ≤ n ∧ n < ds.length ∧ ds.length ≤ 16777216 then .nx { e2 with ob := e2.ob.set k (.lst (ds.eraseIdx n.toNat)) } else .no
    | _ => .no)
  | _, _ => .no
theorem repL_erase {F : Hp} : ∀ {ds : List D} {vs : List V} (n : Nat), RepL T F ds vs → RepL T F (ds.eraseIdx n) (vs.eraseIdx n)
  | [], _, n, h => by
    rw [repL_nil.mp h]
    simpa using RepL.nil
  | d :: ds, _, 0, h => by
    obtain ⟨v, r, rfl, h1, h2⟩ := repL_cons.mp h
    exact h2
  | d :: ds, _, n + 1, h => by
    obtain ⟨v, r, rfl, h1, h2⟩ := repL_cons.mp h
    exact RepL.cons h1 (repL_erase n h2)
theorem ms_del (ho : DE T X W o (pm mo)) (hi : DE T X W i (pm mi)) : DS T X W (.Delete [.Subscript o i tpos] pos) (ps (mDel mo mi)) := ⟨PS.imp (ps_delL ho.pe hi.pe) fun D σ H hh => by
  obtain ⟨c, F, ad, e, Po, rel, q, nx, rt, xc, bk, ct⟩ := hh
  refine ⟨c, F, ad, e, _, _, rel, post_run' q, fun y H1 F1 ad1 e1 ry x1 p1 rel1 r1 q1 => ?_, xc⟩
  refine ⟨c, F1, ad1, e1, _, _, rel1, post_run' q1, fun z H2 F2 ad2 e2 rz x2 p2 rel2 r2 q2 => ?_, xc.mono x1 p1⟩
  have q3 : (match ry, dv e2 rz with
    | .ob k, some (.int n) => (match e2.ob[k]? with
      | some (.lst ds) => if 0 ≤ n ∧ n < ds.length ∧ ds.length ≤ 16777216 then SR.nx { e2 with ob := e2.ob.set k (.lst (ds.eraseIdx n.toNat)) } else .no
      | _ => .no)
    | _, _ => .no).post Po := q2
  split at q3
  · rename_i k n hn
    split at q3
    · rename_i ds hk
      split at q3
      · rename_i hc
        obtain ⟨p, hp, rfl⟩ := r1
        have hp2 := p2 _ _ hp
        obtain ⟨n1, n2, vs, g1, g2⟩ := rel2.ob k _ p hk hp2
        obtain rfl := rep_int.mp (dv_ok rel2 r2 hn)
        have hlen := g2.len
        have R2 := rel2.set (u := .lst (vs.eraseIdx n.toNat)) (o' := .lst (ds.eraseIdx n.toNat)) hk rfl hp2 ⟨n1, n2, _, upd_same, repL_erase _ g2⟩
        refine ⟨p, vs, n, n.toNat, rfl, rfl, g1, by omega, by omega, ?_, nx σ _ F2 ad2 _ (x1.trans x2) (p1.trans p2) R2 q3⟩
        have e1 : ixN vs.length n = some n.toNat := by
          unfold ixN
          rw [if_pos hc.1, if_pos (by omega)]
        exact (ixN_seq e1).1
      · exact q3.elim
    · exact q3.elim
  · exact q3.elim⟩
/-! xs[i] as a target -/
def mSub (mo mi : ME) : MG := fun r e => match mo e with
  | .ok o e1 => (match mi e1 with
    | .ok i e2 => (match o, dv e2 i with
      | .ob k, some (.int n) => (match e2.ob[k]? with
        | some (.lst ds) => (match plN ds.length n, dv e2 r with
          | some j, some d => some { e2 with ob := e2.ob.set k (.lst (ds.set j d)) }
          | _, _ => none)
        | _ => none)
      | _, _ => none)
    | _ => none)
  | _ => none
theorem mg_sub (ho : DE T X W0 o (pm mo)) (hi : DE T X W0 i (pm mi))
    (ha : ∀ v, assign (.Subscript o i pos) X.env v = (do
      let ov ← holding [v] (eval o X.env)
      let iv ← holding [v, ov] (eval i X.env)
      standAt pos
      holding [v, ov, iv] (setItem ov iv v)
      release [v, ov, iv] []) := by intro _; rfl) : DG T X (.Subscript o i pos) (pg (mSub mo mi)) := ⟨PG.imp (pg_sub ho.pe hi.pe set_list ha) fun v σ H Q hh => by
  obtain ⟨c, F, ad, e, r, P, rel, rr, q, k⟩ := hh
  unfold pg mSub at q
  cases h1 : mo e with
  | ok ov e1 =>
    rw [h1] at q
    dsimp only at q
    cases h2 : mi e1 with
    | ok iv e2 =>
      rw [h2] at q
      dsimp only at q
      refine ⟨c, F, ad, e, fun o' e' => o' = ov ∧ e' = e1, fun _ _ => False, rel, pm_ok h1 ⟨rfl, rfl⟩, fun y H1 F1 ad1 e1' ry x1 p1 rel1 r1 hq => ?_, xl_no⟩
      obtain ⟨rfl, rfl⟩ := hq
      refine ⟨c, F1, ad1, e1', fun o' e' => o' = iv ∧ e' = e2, fun _ _ => False, rel1, pm_ok h2 ⟨rfl, rfl⟩, fun z H2 F2 ad2 e2' rz x2 p2 rel2 r2 hq2 => ?_, xl_no⟩
      obtain ⟨rfl, rfl⟩ := hq2
      split at q
      · rename_i e' he
        split at he
        · rename_i kk n hn
          split at he
          · rename_i ds hk
            split at he
            · rename_i j d hj hd
              cases he
              obtain ⟨p, hp, rfl⟩ := r1
              have hp2 := p2 _ _ hp
              obtain ⟨n1, n2, vs, g1, g2⟩ := rel2.ob kk _ p hk hp2
              obtain rfl := rep_int.mp (dv_ok rel2 r2 hn)
              have hy := dv_ok rel2 (rr.mono (x1.trans x2) (p1.trans p2)) hd
              have R2 := rel2.set (u := .lst (vs.set j v)) (o' := .lst (ds.set j d)) hk rfl hp2 ⟨n1, n2, _, upd_same, g2.set j hy⟩
              exact ⟨p, vs, n, j, rfl, rfl, g1, by rw [g2.len]; exact hj, k σ _ F2 ad2 _ (x1.trans x2) (p1.trans p2) R2 q⟩
            · cases he
          · cases he
        · cases he
      · exact q.elim
    | xc x e2 =>
      rw [h2] at q
      exact q.elim
    | no =>
      rw [h2] at q
      exact q.elim
  | xc x e1 =>
    rw [h1] at q
    exact q.elim
  | no =>
    rw [h1] at q
    exact q.elim⟩
/-! * of texts and lists -/
def rSMul : R2 := fun x y H Q => ∃ (s : List Nat) (k : Nat), x = .str (S s) ∧ y = .int (k : Nat) ∧ k ≤ 1000 ∧ 2 ≤ k ∧ s ≠ [] ∧ s.length ≤ 1000 ∧ Q (.str (S (List.replicate k s).flatten)) H
theorem fold_S (s : List Nat) : ∀ (k : Nat) (acc : Array Nat), ((List.replicate k (S s).cps).foldl (· ++ ·) acc) = acc ++ (List.replicate k s).flatten.toArray
  | 0, acc => by simp
  | k + 1, acc => by
    rw [List.replicate_succ, List.foldl_cons, fold_S s k, List.replicate_succ, List.flatten_cons]
    show acc ++ s.toArray ++ _ = acc ++ (s ++ _).toArray
    rw [Array.append_assoc]
    simp
theorem op_smul : OpR X (binaryOp .Mult) rSMul := by
  intro pins s σ H x y v w Q I rx ry h
  obtain ⟨z, k, rfl, rfl, h1, h2, h3, h4, q⟩ := h
  obtain ⟨t, rfl⟩ := (show ∃ t, v = Value.str (S z) t from rx)
  obtain ⟨t2, rfl⟩ := (show ∃ t, w = Value.int (k : Nat) t from ry)
  have hz : (S z).length = z.length := S_len z
  have hz0 : z.length ≠ 0 := fun e => h3 (List.eq_nil_of_length_eq_zero e)
  have hm : z.length * k ≤ 1000000 := Nat.le_trans (Nat.mul_le_mul h4 h1) (by decide)
  refine PySem.P.mul_str ?_ (fun _ _ => ?_) (fun _ _ => ?_) ?_
  · have a1 : ¬ ((k : Nat) : Int) < -(2 ^ 63 : Int) := by omega
    have a2 : ¬ ((k : Nat) : Int) ≥ 2 ^ 63 := by omega
    rw [decide_eq_false a1, decide_eq_false a2]
    rfl
  · rw [hz]
    have : ((z.length : Nat) : Int) ≤ (2 ^ 63 - 1) / ((k : Nat) : Int) := by
      refine (Int.le_ediv_iff_mul_le (by omega)).mpr ?_
      have : ((z.length : Nat) : Int) * ((k : Nat) : Int) = ((z.length * k : Nat) : Int) := by simp
      rw [this]
      omega
    omega
  · rw [hz, Int.toNat_natCast]
    first
      | (unfold PySem.Builtin.Str.tooLong; exact decide_eq_false (by rw [sizeLine_eq]; omega))
      | (unfold PySem.Builtin.Str.tooLong; simp; omega)
      | (simp [PySem.Builtin.Str.tooLong]; omega)
  · rw [if_neg (by omega)]
    have e1 : (((k : Nat) : Int) == 1 || (S z).length == 0) = false := by
      rw [hz, Bool.or_eq_false_iff]
      exact ⟨by simp; omega, by simpa using hz0⟩
    rw [if_neg (by rw [e1]; exact Bool.false_ne_true)]
    have e2 : (List.replicate ((k : Nat) : Int).toNat (S z).cps).foldl (· ++ ·) #[] = (List.replicate k z).flatten.toArray := by
      rw [Int.toNat_natCast, fold_S]
      simp
    rw [e2]
    refine ⟨?_, .str (S (List.replicate k z).flatten), H, I.tok _, ⟨_, rfl⟩, q⟩
    show ((List.replicate k z).flatten.toArray).size ≤ _
    first
      | (rw [List.size_toArray, List.length_flatten]; simp; rw [sizeLine_eq]; omega)
      | (simp [sizeLine_eq]; rw [Nat.mul_comm]; omega)
end
end DL
end
section
set_option Elab.async false
set_option linter.all false
set_option autoImplicit false
set_option maxRecDepth 100000
set_option maxHeartbeats 2000000
/-! DOE: `not` as a value, items that are objects, text times a number; what the head says of own classes. -/
namespace DL
open PySem PySem.Spec L2
open PyProof.Rows hiding St
section
variable {T : Cn} {X : Cx} {W : WX} {a b : Expr} {pos : Pos} {ma mb : ME}
/-! ### not -/
def mNotT (m : ME) : ME := fun e => (m e).bind fun r e1 => match truM r e1 with
  | .ok b e2 => .ok (.val (.bl (!b))) e2
  | _ => .no
theorem me_notT (ha : DE T X W a (pm ma)) (hK : X.K = T.K := by rfl) : DE T X W (.UnaryOp .Not a pos) (pm (mNotT ma)) := ⟨PE.imp (pe_notT ha.pe) fun σ H Q h => by
  obtain ⟨c, F, ad, e, P, R, rel, q, hq, hx⟩ := h
  refine ⟨c, F, ad, e, _, R, rel, post_bind' q, fun v H1 F1 ad1 e1 r x1 p1 rel1 r1 q1 => ?_, hx⟩
  dsimp only at q1
  unfold truM at q1
  split at q1
  · rename_i b e2 hb
    split at hb
    · rename_i b' hb'
      split at hb
      · rename_i hf
        cases hb
        refine ⟨_, by rw [hK]; exact tru_ok' rel1 r1 hb' (fitB_ok hf), ?_⟩
        exact (hq.mono x1 p1).val rel1 (rep_bl.mpr rfl) q1
      · cases hb
    · cases hb
  · exact q1.elim⟩
/-! ### items that may be objects -/
def itsR (e : Env) : RV → Option (List RV)
  | .ob k => (match e.ob[k]? with
    | some (.tpr xs) => some xs
    | some (.lsr xs) => some xs
    | _ => none)
  | .val _ => none
def ixOM : OM := fun e x y => match itsR e x with
  | some xs => (match dv e y with
    | some (.int i) => (match atZ xs i with
      | some r => .ok r e
      | none => .no)
    | _ => .no)
  | none => ixM e x y
def ixOX : OX := fun e x y P => (∃ xs i r, itsR e x = some xs ∧ dv e y = some (.int i) ∧ L2.atI xs i = some r ∧ P r e) ∨ ixX e x y P
theorem RvL.atI {F : Hp} {ad : List Addr} {rs : List RV} {vs : List V} {i : Int} {r : RV} (h : RvL T F ad rs vs) (q : L2.atI rs i = some r) : ∃ v, L2.atI vs i = some v ∧ RvR T F ad r v := by
  unfold L2.atI at q ⊢
  rw [h.len]
  cases hx : ixN rs.length i with
  | none =>
    rw [hx] at q
    cases q
  | some j =>
    rw [hx] at q
    exact h.get q
theorem ad_ixO {K : PySem.W.Frag} (hK : K = T.K) : OpD T (rIx K) ixOX := by
  intro c F ad e σ H x y rx ry P Q rel r1 r2 h q
  rcases h with ⟨xs, i, r, h1, h2, h3, hp⟩ | h
  · cases rx with
    | val d => cases h1
    | ob k =>
      obtain ⟨p, hp', rfl⟩ := r1
      obtain ⟨o, ho, oa⟩ := rel.obs hp'
      unfold itsR at h1
      dsimp only at h1
      rw [ho] at h1
      cases o with
      | tpr ys =>
        cases h1
        obtain ⟨_, _, vs, g1, g2⟩ := oa
        obtain ⟨w, hw, rw⟩ := g2.atI h3
        exact .inr (.inl ⟨p, vs, i, w, rfl, rep_int.mp (dv_ok rel r2 h2), .inl (.inl g1), hw, q w H F ad e r (Ex.refl F) (Px.refl ad) rel rw hp⟩)
      | lsr ys =>
        cases h1
        obtain ⟨_, _, vs, g1, g2⟩ := oa
        obtain ⟨w, hw, rw⟩ := g2.atI h3
        exact .inl ⟨p, vs, i, w, rfl, rep_int.mp (dv_ok rel r2 h2), .inl (.inl g1), hw, q w H F ad e r (Ex.refl F) (Px.refl ad) rel rw hp⟩
      | _ => cases h1
  · exact ad_ix3 hK c F ad e σ H x y rx ry P Q rel r1 r2 h q
theorem oj_ixO : OJ ixOX ixOM := fun e x y P R h => by
  unfold ixOM at h
  split at h
  · rename_i xs h1
    split at h
    · rename_i i h2
      split at h
      · rename_i r hr
        exact .inl ⟨xs, i, r, h1, h2, atZ_ok hr, h⟩
      · exact h.elim
    · exact h.elim
  · exact .inr (oj_ix e x y P R h)
theorem me_ixO (ha : DE T X W a (pm ma)) (hb : DE T X W b (pm mb)) (hK : X.K = T.K := by rfl) (hs : PlainIx b := by exact fun _ _ => rfl) : DE T X W (.Subscript a b pos) (pm (m2 ixOM ma mb)) :=
  me_2 ⟨PE.imp (pe_ix ix_seq ha.pe hb.pe hs) fun σ H Q h => le2 (ad_ixO hK) h⟩ oj_ixO
/-! ### a text times a number -/
def smulM : OM := fun e x y => match dv e x, dv e y with
  | some (.str s), some (.int k) => if 2 ≤ k ∧ k ≤ 1000 ∧ s ≠ [] ∧ s.length ≤ 1000 then .ok (.val (.str (List.replicate k.toNat s).flatten)) e else .no
  | _, _ => .no
def smulX : OX := fun e x y P => ∃ s k, dv e x = some (.str s) ∧ dv e y = some (.int k) ∧ (2 ≤ k ∧ k ≤ 1000 ∧ s ≠ [] ∧ s.length ≤ 1000) ∧ P (.val (.str (List.replicate k.toNat s).flatten)) e
theorem ad_smul : OpD T rSMul smulX := by
  intro c F ad e σ H x y rx ry P Q rel r1 r2 h q
  obtain ⟨s, k, h1, h2, ⟨h3, h4, h5, h6⟩, hp⟩ := h
  refine ⟨s, k.toNat, rep_str.mp (dv_ok rel r1 h1), ?_, by omega, by omega, h5, h6, q.val rel (rep_str.mpr rfl) hp⟩
  rw [rep_int.mp (dv_ok rel r2 h2), Int.toNat_of_nonneg (by omega)]
theorem oj_smul : OJ smulX smulM := fun e x y P R h => by
  unfold smulM at h
  split at h
  · rename_i s k h1 h2
    split at h
    · rename_i hc
      exact ⟨s, k, h1, h2, hc, h⟩
    · exact h.elim
  · exact h.elim
theorem me_smul (ha : DE T X W a (pm ma)) (hb : DE T X W b (pm mb)) : DE T X W (.BinOp a .Mult b pos) (pm (m2 smulM ma mb)) := me_2 (de_op op_smul ad_smul ha hb) oj_smul
/-! ### tuple(..) of data -/
variable {es : List Expr} {u : MA} {p : Pos}
def tupleM : BM := b1 fun e r => match lsD e r with
  | some ds => .ok (.val (.tup ds)) e
  | none => (match dv e r with
    | some (.tup ds) => .ok (.val (.tup ds)) e
    | _ => .no)
def tupleX : BX := fun e rs P => ∃ r ds, rs = [r] ∧ (lsD e r = some ds ∨ tpD e r = some ds) ∧ P (.val (.tup ds)) e
theorem me_tupleC (hm : X.mg "tuple" = none) (ha : DA T X W (a :: es) (pm u)) (hK : X.K = T.K := by rfl) (hg : Gl X "tuple" := by rfl) : DE T X W (.Call (.Name "tuple" p) (a :: es) [] pos) (pm (mB tupleM u)) := me_B (f := tupleX) (de_Ty call_tuple_of (by
  rw [hK]
  intro c F ad e σ H xs rs P Q rel r1 h q
  obtain ⟨r, ds, rfl, h1, hp⟩ := h
  obtain ⟨v, rfl, rr⟩ := rv1 r1
  rcases h1 with h1 | h1
  · obtain ⟨a, vs, rfl, g1, g2⟩ := lsD_ok rel rr h1
    exact ⟨a, vs, rfl, .inl ⟨.inl g1, fun l hl => q.laid rel hl (fun x => rep_tup.mpr ⟨l, vs, rfl, .inl (.inl upd_same), g2.mono x⟩) hp⟩⟩
  · obtain ⟨a, vs, rfl, g1, g2⟩ := tpD_ok rel rr h1
    exact ⟨a, vs, rfl, .inr ⟨rel.fh.sqt g1, q.val rel (rep_tup.mpr ⟨a, vs, rfl, g1, g2⟩) hp⟩⟩) hg hm (by decide +kernel) ha) fun e rs P R h => by
  unfold tupleM b1 at h
  split at h
  · rename_i r
    try dsimp only at h
    split at h
    · rename_i ds h1
      exact ⟨r, ds, rfl, .inl h1, h⟩
    · split at h
      · rename_i ds h2
        exact ⟨r, ds, rfl, .inr (by unfold tpD; rw [h2]), h⟩
      · exact h.elim
  · exact h.elim
end
/-! ### what the head says of own classes -/
def fIns (x : Str) : Fk := fun K => (He.Fa.glo x).ok K && ((He.Fa.cls x).ok K && (He.eqO (PySem.W.findIn K (.ref (He.ga K x)) "__class__") (some (some (.builtin "object.__class__"))) && (He.eqO (PySem.W.specialIn K (.builtin "object.__class__") "__get__") (some (some (.builtin "getset_descriptor.__get__"))) &&
  (decide (PySem.W.takesIn K (.builtin "object.__class__") = some true) && (decide (PySem.W.mroIn K (He.ga K x) (.type "object") = some true) && decide (PySem.W.kitOne K (.ref (He.ga K x)) (.ref (He.ga K x)) = some true))))))
theorem fIns_ok {K : PySem.W.Frag} {x : Str} (h : fIns x K = true) : C8.InsC K (He.ga K x) := by
  obtain ⟨_, h⟩ := He.ba h
  obtain ⟨h1, h⟩ := He.ba h
  obtain ⟨h2, h⟩ := He.ba h
  obtain ⟨h3, h⟩ := He.ba h
  obtain ⟨h4, h⟩ := He.ba h
  obtain ⟨h5, h6⟩ := He.ba h
  exact ⟨He.cls_ok h1, He.eqO_ok h2, He.eqO_ok h3, of_decide_eq_true h4, of_decide_eq_true h5, of_decide_eq_true h6⟩
section
variable {T : Cn} {h : Heap}
theorem fIns_glo (X : T.K.In h) (G : h.Ns mainGlobals T.mg) {x : Str} (c : fIns x T.K = true) : T.mg x = some (.ref (He.ga T.K x)) := He.glo_ok X G (He.ba c).1
theorem fIns_in (X : T.K.In h) (G : h.Ns mainGlobals T.mg) {c : Nat} (f : fIns (T.nm c) T.K = true) : GIn T c := ⟨_, fIns_glo X G f, fIns_ok f⟩
/-- the table of the attributes -/
def okT (l : List (Nat × List Nat)) (c f : Nat) : Bool := match l.lookup c with
  | some fs => fs.contains f
  | none => false
theorem okT_mem {l : List (Nat × List Nat)} {c f : Nat} (q : okT l c f = true) : ∃ fs, (c, fs) ∈ l ∧ f ∈ fs := by
  unfold okT at q
  split at q
  · rename_i fs hf
    exact ⟨fs, mem_look hf, by simpa using q⟩
  · cases q
def fTabF (nm : Nat → Str) (l : List (Nat × List Nat)) : Fk := fun K => l.all fun p => fIns (nm p.1) K && p.2.all fun f => fNoat (nm p.1) (nm f) K
def injB (nm : Nat → Str) (l : List (Nat × List Nat)) : Bool := l.all fun p => p.2.all fun f => p.2.all fun g => decide (nm f = nm g → f = g)
theorem OkF.of {l : List (Nat × List Nat)} (X : T.K.In h) (G : h.Ns mainGlobals T.mg) (c : fTabF T.nm l T.K = true) (i : injB T.nm l = true) (nd : (l.map (·.1)).Nodup) : OkF T (okT l) where
  at_ := fun k f hk C hC => by
    obtain ⟨fs, h1, h2⟩ := okT_mem hk
    obtain ⟨c1, c2⟩ := He.ba (List.all_eq_true.mp c _ h1)
    have e := (fIns_glo X G c1).symm.trans hC
    cases e
    exact ⟨(fIns_ok c1).cl, He.eqO_ok (List.all_eq_true.mp c2 _ h2)⟩
  inj := fun k f g hf hg e => by
    obtain ⟨fs, h1, h2⟩ := okT_mem hf
    obtain ⟨gs, g1, g2⟩ := okT_mem hg
    unfold okT at hf hg
    cases hl : l.lookup k with
    | none =>
      rw [hl] at hf
      cases hf
    | some zs =>
      rw [hl] at hf hg
      have m := mem_look hl
      have a := List.all_eq_true.mp (List.all_eq_true.mp (List.all_eq_true.mp i _ m) f (by simpa using hf)) g (by simpa using hg)
      exact of_decide_eq_true a e
theorem OkM.of {l : List (Nat × List Nat)} {m : Str} (c : (l.all fun p => p.2.all fun f => decide (T.nm f ≠ m)) = true) : OkM T (okT l) m := fun k f hk => by
  obtain ⟨fs, h1, h2⟩ := okT_mem hk
  exact of_decide_eq_true (List.all_eq_true.mp (List.all_eq_true.mp c _ h1) _ h2)
/-- answers by a list -/
def ansT (l : List (TK × Bool)) : TK → Option Bool := fun t => l.lookup t
def fAns (nm : Nat → Str) (x : Str) (l : List (TK × Bool)) : Fk := fun K => fGlo x K && l.all fun p => match p.1 with
  | .bi n => decide (PySem.W.kitOne K (.type n) (.ref (He.ga K x)) = some p.2)
  | .ow c => fIns (nm c) K && decide (PySem.W.kitOne K (.ref (He.ga K (nm c))) (.ref (He.ga K x)) = some p.2)
theorem AnsC.of {x : Str} {l : List (TK × Bool)} (X : T.K.In h) (G : h.Ns mainGlobals T.mg) (c : fAns T.nm x l T.K = true) : AnsC T x (ansT l) := by
  obtain ⟨c1, c2⟩ := He.ba c
  refine ⟨_, He.glo_ok X G c1, fun t b q => ?_⟩
  have m := List.all_eq_true.mp c2 _ (mem_look q)
  cases t with
  | bi n =>
    refine ⟨fun c e => (by cases e), fun u hu => ?_⟩
    obtain rfl : u = .type n := hu
    exact of_decide_eq_true m
  | ow c =>
    obtain ⟨m1, m2⟩ := He.ba (show (fIns (T.nm c) T.K && decide (PySem.W.kitOne T.K (.ref (He.ga T.K (T.nm c))) (.ref (He.ga T.K x)) = some b)) = true from m)
    refine ⟨fun c' e => by cases e; exact fIns_in X G m1, fun u hu => ?_⟩
    obtain ⟨C, hC, rfl⟩ := hu
    have e := (fIns_glo X G m1).symm.trans hC
    cases e
    exact of_decide_eq_true m2
/-- what stands on the right of an own == -/
def subT (l : List (Nat × TK)) : Nat → TK → Bool := fun c t => l.contains (c, t)
def fSub (nm : Nat → Str) (l : List (Nat × TK)) : Fk := fun K => l.all fun p => fIns (nm p.1) K && (match p.2 with
  | .bi n => decide (PySem.W.subIn K (.type n) (.ref (He.ga K (nm p.1))) = some false)
  | .ow d => fIns (nm d) K && (decide (He.ga K (nm d) = He.ga K (nm p.1)) || decide (PySem.W.subIn K (.ref (He.ga K (nm d))) (.ref (He.ga K (nm p.1))) = some false)))
theorem sub_of {l : List (Nat × TK)} (X : T.K.In h) (G : h.Ns mainGlobals T.mg) (cc : fSub T.nm l T.K = true) : ∀ c t, subT l c t = true → (∀ d, t = .ow d → GIn T d) ∧ ∀ C u, T.mg (T.nm c) = some (.ref C) → TKV T t u → (u = .ref C ∨ PySem.W.subIn T.K u (.ref C) = some false) := fun c t q => by
  have m := List.all_eq_true.mp cc (c, t) (by simpa [subT] using q)
  obtain ⟨m1, m2⟩ := He.ba m
  cases t with
  | bi n =>
    refine ⟨fun d e => (by cases e), fun C u hC hu => ?_⟩
    have e := (fIns_glo X G m1).symm.trans hC
    cases e
    obtain rfl : u = .type n := hu
    exact .inr (of_decide_eq_true m2)
  | ow d =>
    obtain ⟨m3, m4⟩ := He.ba (show (fIns (T.nm d) T.K && (decide (He.ga T.K (T.nm d) = He.ga T.K (T.nm c)) || decide (PySem.W.subIn T.K (.ref (He.ga T.K (T.nm d))) (.ref (He.ga T.K (T.nm c))) = some false))) = true from m2)
    refine ⟨fun d' e => by cases e; exact fIns_in X G m3, fun C u hC hu => ?_⟩
    have e := (fIns_glo X G m1).symm.trans hC
    cases e
    obtain ⟨D, hD, rfl⟩ := hu
    have e2 := (fIns_glo X G m3).symm.trans hD
    cases e2
    rcases Bool.or_eq_true_iff.mp m4 with z | z
    · exact .inl (by rw [of_decide_eq_true z])
    · exact .inr (of_decide_eq_true z)
/-! methods and makers -/
def fMeth (x m : Str) : Fk := fun K => (He.Fa.meth x m).ok K && PySem.W.fnIn K (He.ma K (He.ga K x) m)
def fMkr (x : Str) : Fk := fun K => (He.Fa.mkr x).ok K
variable {P : Program} {w : World} {base : Heap}
theorem GMe.of {k c : Nat} {x m : Str} {fd : FuncData} {ps : List Str} {dvs : List V} {ds : List Value} {dd : List D} {fx : FX} (X : T.K.In h) (G : h.Ns mainGlobals T.mg) (hn : T.nm c = x) (c0 : fIns x T.K = true) (c1 : fMeth x m T.K = true)
    (F : FnG T P w base k (He.ma T.K (He.ga T.K x) m) fd ps fx) (B : Binds T.K fd ps ds) (vs : Vals dvs ds) (rd : ∀ F, RepL T F dd dvs) : GMe T P w base k c m dd fx := by
  subst hn
  obtain ⟨c2, c3⟩ := He.ba c1
  exact ⟨_, _, fd, ps, dvs, ds, fIns_glo X G c0, (fIns_ok c0).cl, He.meth_ok c2, F, B, vs, rd, c3⟩
theorem GMk.of {k c : Nat} {x : Str} {fd : FuncData} {ps : List Str} {dvs : List V} {ds : List Value} {dd : List D} {fx : FX} (X : T.K.In h) (G : h.Ns mainGlobals T.mg) (hn : T.nm c = x) (c0 : fIns x T.K = true) (c1 : fMkr x T.K = true)
    (F : FnG T P w base k (He.ma T.K (He.ga T.K x) "__init__") fd ps fx) (B : Binds T.K fd ps ds) (vs : Vals dvs ds) (rd : ∀ F, RepL T F dd dvs) : GMk T P w base k c dd fx := by
  subst hn
  exact ⟨_, _, fd, ps, dvs, ds, fIns_glo X G c0, He.mkr_ok c1, F, B, vs, rd⟩
theorem GMe.mono {j k c : Nat} {m : Str} {dd : List D} {fx : FX} (g : GMe T P w base j c m dd fx) (hj : j ≤ k := by decide) : GMe T P w base k c m dd fx := by
  obtain ⟨C, f, fd, ps, dvs, ds, h1, h2, h3, h4, h5⟩ := g
  exact ⟨C, f, fd, ps, dvs, ds, h1, h2, h3, h4.mono hj, h5⟩
/-- a table of one class -/
def tab1 (c : Nat) (m : List Bool) (dd : List D) (p : PF) : MTab := fun k => if k = c then some (m, dd, p) else none
/-- .. and others -/
def tabC (c : Nat) (m : List Bool) (dd : List D) (p : PF) (t : MTab) : MTab := fun k => if k = c then some (m, dd, p) else t k
theorem tab1_ok {k c : Nat} {x : Str} {m : List Bool} {dd : List D} {p : PF} (g : GMe T P w base k c x dd (fxP p)) : ∀ c' mm dd' q, tab1 c m dd p c' = some (mm, dd', q) → GMe T P w base k c' x dd' (fxP q) := fun c' mm dd' q h => by
  unfold tab1 at h
  split at h
  · rename_i e
    subst e
    cases h
    exact g
  · cases h
theorem tabC_ok {k c : Nat} {x : Str} {m : List Bool} {dd : List D} {p : PF} {t : MTab} (g : GMe T P w base k c x dd (fxP p)) (o : ∀ c' mm dd' q, t c' = some (mm, dd', q) → GMe T P w base k c' x dd' (fxP q)) : ∀ c' mm dd' q, tabC c m dd p t c' = some (mm, dd', q) → GMe T P w base k c' x dd' (fxP q) := fun c' mm dd' q h => by
  unfold tabC at h
  split at h
  · rename_i e
    subst e
    cases h
    exact g
  · exact o c' mm dd' q h
end
end DL
end
section
set_option Elab.async false
set_option linter.all false
set_option autoImplicit false
set_option maxRecDepth 100000
set_option maxHeartbeats 2000000
/-! DPA: loop bodies that let their objects go; posts as rules for simp; draws. -/
namespace DL
open PySem PySem.Spec L2
open PyProof.Rows hiding St
/-! ### what a body made is let go -/
def mGo (vs : List Nat) (b : MS) : MS := fun e => match b e with
  | .nx e1 => if goB vs e.ob.length e1 = true then .nx (letGo vs e.ob.length e1) else .no
  | .ct e1 => if goB vs e.ob.length e1 = true then .ct (letGo vs e.ob.length e1) else .no
  | .rt r e1 => .rt r e1
  | .xc x e1 => .xc x e1
  | .bk e1 => .bk e1
  | .no => .no
theorem go_post {vs : List Nat} {b : MS} {e : Env} {Po : Post} : (mGo vs b e).post Po = (b e).post { Po with
    nx := fun e1 => goB vs e.ob.length e1 = true ∧ Po.nx (letGo vs e.ob.length e1)
    ct := fun e1 => goB vs e.ob.length e1 = true ∧ Po.ct (letGo vs e.ob.length e1) } := by
  unfold mGo
  cases b e with
  | nx e1 =>
    dsimp only
    split
    · rename_i h; simp [SR.post, h]
    · rename_i h; simp [SR.post, h]
  | ct e1 =>
    dsimp only
    split
    · rename_i h; simp [SR.post, h]
    · rename_i h; simp [SR.post, h]
  | _ => rfl
theorem mss_go {T : Cn} {X : Cx} {W : WX} {b : List Stmt} {m : MS} (vs : List Nat) (h : DSs T X W b (ps m)) : DSs T X W b (ps (mGo vs m)) := (dss_fr vs h).to fun e Po h => by
  unfold ps at h
  rw [go_post] at h
  exact h

/-! ### posts -/
section
variable {α β : Type} {a : α} {e : Env} {x : Xc} {r : RV} {P : α → Env → Prop} {R : Xc → Env → Prop} {Po : Post} {sl : List (Option RV)} {ob : List OD}
@[simp] theorem post_ok : (Res.ok a e).post P R = P a e := rfl
@[simp] theorem post_xc : (Res.xc x e : Res α).post P R = R x e := rfl
@[simp] theorem post_no : (Res.no : Res α).post P R = False := rfl
@[simp] theorem sp_nx : (SR.nx e).post Po = Po.nx e := rfl
@[simp] theorem sp_rt : (SR.rt r e).post Po = Po.rt r e := rfl
@[simp] theorem sp_xc : (SR.xc x e).post Po = Po.xc x e := rfl
@[simp] theorem sp_bk : (SR.bk e).post Po = Po.bk e := rfl
@[simp] theorem sp_ct : (SR.ct e).post Po = Po.ct e := rfl
@[simp] theorem sp_no : (SR.no).post Po = False := rfl
@[simp] theorem sp_ite {p : Prop} [Decidable p] {m n : SR} : (if p then m else n).post Po = if p then m.post Po else n.post Po := by split <;> rfl
@[simp] theorem p_bind {m : Res α} {k : α → Env → Res β} {P : β → Env → Prop} : (m.bind k).post P R = m.post (fun a e => (k a e).post P R) R := post_bind
@[simp] theorem p_run {m : Res α} {k : α → Env → SR} : (m.run k).post Po = m.post (fun a e => (k a e).post Po) Po.xc := post_run
@[simp] theorem p_seq {m : SR} {k : Env → SR} : (m.seq k).post Po = m.post { Po with nx := fun e => (k e).post Po } := post_seq
@[simp] theorem p_lp {m : SR} {k : Env → SR} : (m.lp k).post Po = m.post { nx := fun e => (k e).post Po, rt := Po.rt, xc := Po.xc, bk := Po.nx, ct := fun e => (k e).post Po } := post_lp
@[simp] theorem p_ite {p : Prop} [Decidable p] {m n : Res α} : (if p then m else n).post P R = if p then m.post P R else n.post P R := post_ite
@[simp] theorem p_go {vs : List Nat} {b : MS} : (mGo vs b e).post Po = (b e).post { Po with
    nx := fun e1 => goB vs e.ob.length e1 = true ∧ Po.nx (letGo vs e.ob.length e1)
    ct := fun e1 => goB vs e.ob.length e1 = true ∧ Po.ct (letGo vs e.ob.length e1) } := go_post
def FR.post (f : FR) (P : RV → List OD → Prop) (R : Xc → List OD → Prop) : Prop := match f with
  | .ok r ob => P r ob
  | .xc x ob => R x ob
  | .no => False
theorem fxP_post {p : PF} {rs : List RV} {P : RV → List OD → Prop} {R : Xc → List OD → Prop} : fxP p rs ob P R = (p rs ob).post P R := rfl
/-- the post of a def -/
theorem def_post {np N : Nat} {own : Bool} {m : MS} {rs : List RV} {P : RV → List OD → Prop} {R : Xc → List OD → Prop} (h : rs.length = np) : (defP np N own m rs ob).post P R = (m (startE N rs ob)).post {
    nx := fun e => (finV ob.length (.val .non) e).post P R
    rt := fun r e => (if own then finO ob.length r e else finV ob.length r e).post P R
    xc := fun x e => if flatB ob.length e.ob = true then R x (e.ob.take ob.length) else False } := by
  rw [def_ev h]
  cases m (startE N rs ob) with
  | nx e => rfl
  | rt r e => cases own <;> rfl
  | xc x e =>
    show (finR own _ (.xc x e)).post P R = _
    unfold finR
    dsimp only [SR.post]
    split <;> rfl
  | bk e => rfl
  | ct e => rfl
  | no => rfl
theorem finV_v {n : Nat} {d : D} {P : RV → List OD → Prop} {R : Xc → List OD → Prop} : (finV n (.val d) ⟨sl, ob⟩).post P R = (flatB n ob = true ∧ P (.val d) (ob.take n)) := by
  unfold finV
  rw [fzR_val]
  dsimp only
  split
  · rename_i h; simp [FR.post, h]
  · rename_i h; simp [FR.post, h]
/-! ### loops -/
theorem for_inv {g : MG} {b : MS} (I : List RV → Env → Prop) (h0 : ∀ e, I [] e → Po.nx e)
    (h1 : ∀ r rs e, I (r :: rs) e → match g r e with
      | some e1 => (b e1).post { nx := I rs, rt := Po.rt, xc := Po.xc, bk := Po.nx, ct := I rs }
      | none => False) : ∀ (rs : List RV) (e : Env), I rs e → (mForL g b rs e).post Po
  | [], e, h => h0 e h
  | r :: rs, e, h => by
    rw [mForL]
    have := h1 r rs e h
    split at this
    · rename_i e1 he
      try rw [he]
      try dsimp only
      rw [post_lp]
      cases hb : b e1 with
      | nx e2 => rw [hb] at this; exact for_inv I h0 h1 rs e2 this
      | ct e2 => rw [hb] at this; exact for_inv I h0 h1 rs e2 this
      | rt r e2 => rw [hb] at this; exact this
      | xc r e2 => rw [hb] at this; exact this
      | bk e2 => rw [hb] at this; exact this
      | no => rw [hb] at this; exact this
    · exact this.elim
/-- a loop whose measure k falls -/
theorem wh_inv {c : MT} {b : MS} (I : Nat → Env → Prop) (h1 : ∀ k e, I k e → (c e).post (fun t e1 => if t = true then (b e1).post { nx := fun e2 => ∃ j, j < k ∧ I j e2, rt := Po.rt, xc := Po.xc, bk := Po.nx, ct := fun e2 => ∃ j, j < k ∧ I j e2 } else Po.nx e1) Po.xc) :
    ∀ (n k : Nat) (e : Env), k < n → I k e → (mWhL c b n e).post Po
  | 0, k, e, hn, _ => by omega
  | n + 1, k, e, hn, h => by
    rw [mWhL, post_run]
    refine (h1 k e h).mono (fun t e1 h2 => ?_) fun _ _ h => h
    split at h2
    · rename_i ht
      rw [if_pos ht, post_lp]
      cases hb : b e1 with
      | nx e2 =>
        rw [hb] at h2
        obtain ⟨j, hj, hi⟩ := h2
        exact wh_inv I h1 n j e2 (by omega) hi
      | ct e2 =>
        rw [hb] at h2
        obtain ⟨j, hj, hi⟩ := h2
        exact wh_inv I h1 n j e2 (by omega) hi
      | rt r e2 => rw [hb] at h2; exact h2
      | xc r e2 => rw [hb] at h2; exact h2
      | bk e2 => rw [hb] at h2; exact h2
      | no => rw [hb] at h2; exact h2
    · rename_i ht
      rw [if_neg ht]
      exact h2
theorem wh_ev {c : MT} {b : MS} : mWhile c b e = mWhL c b 1000000 e := rfl
/-! ### calls -/
theorem cal_io {bs : List Bool} {dd : List D} {p : PF} {k : Nat} {ds pl pl' : List D} {d : D} (h : ob[k]? = some (.lst pl)) (hl : ds.length ≤ bs.length) (hp : p (.ob 0 :: (ds ++ dd).map .val) [.lst pl] = .ok (.val d) [.lst pl']) :
    mCal (false :: bs) dd p (.ob k :: ds.map .val) ⟨sl, ob⟩ = .ok (.val d) ⟨sl, ob.set k (.lst pl')⟩ := by
  unfold mCal
  rw [frz, frz_vals ds bs ob hl]
  dsimp only
  have e1 : ksOf (.ob k :: ds.map .val) = [k] := by
    rw [ksOf, ks_vals]
    try simp
  rw [e1, oblOf, h, oblOf]
  dsimp only
  have e2 : (RV.ob k :: ds.map RV.val).map (RV.loc [k]) = .ob 0 :: ds.map .val := by
    rw [List.map_cons, List.map_map]
    simp [RV.loc]
    try (intro _ _; rfl)
  have hf : (OD.lst pl).flat = true := rfl
  simp only [hf, if_true]
  rw [e2, List.cons_append, ← List.map_append, hp]
  dsimp only
  unfold back putAll
  simp [putAll]
/-- p draws n times at most and gives good data -/
def DrawF (p : PF) (args : List D) (n : Nat) (good : D → Prop) : Prop := ∀ b pl, Pl b pl → b + n < 1000000 → ∃ d pl', good d ∧ Pl (b + n) pl' ∧ p (.ob 0 :: args.map .val) [.lst pl] = .ok (.val d) [.lst pl']
/-- .. from its post -/
theorem DrawF.of {p : PF} {args : List D} {n : Nat} {good : D → Prop} (h : ∀ b pl, Pl b pl → b + n < 1000000 → (p (.ob 0 :: args.map .val) [.lst pl]).post (fun r ob' => ∃ d pl', r = .val d ∧ ob' = [.lst pl'] ∧ good d ∧ Pl (b + n) pl') fun _ _ => False) : DrawF p args n good := fun b pl hp hb => by
  have := h b pl hp hb
  cases hh : p (.ob 0 :: args.map .val) [.lst pl] with
  | ok r ob' =>
    rw [hh] at this
    obtain ⟨d, pl', rfl, rfl, h1, h2⟩ := this
    exact ⟨d, pl', h1, h2, rfl⟩
  | xc x ob' => rw [hh] at this; exact this.elim
  | no => rw [hh] at this; exact this.elim
theorem DrawF.mono {p : PF} {args : List D} {n : Nat} {good good' : D → Prop} (h : DrawF p args n good) (g : ∀ d, good d → good' d) : DrawF p args n good' := fun b pl hp hb => by
  obtain ⟨d, pl', h1, h2, h3⟩ := h b pl hp hb
  exact ⟨d, pl', g d h1, h2, h3⟩
theorem cal_draw {bs : List Bool} {p : PF} {args : List D} {n : Nat} {good : D → Prop} {k b : Nat} {pl : List D} {P : RV → Env → Prop} (h : ob[k]? = some (.lst pl)) (hp : Pl b pl) (G : DrawF p args n good) (hb : b + n < 1000000) (hl : args.length ≤ bs.length)
    (q : ∀ d pl', good d → Pl (b + n) pl' → P (.val d) ⟨sl, ob.set k (.lst pl')⟩) : (mCal (false :: bs) [] p (.ob k :: args.map .val) ⟨sl, ob⟩).post P R := by
  obtain ⟨d, pl', h1, h2, h3⟩ := G b pl hp hb
  rw [cal_io h hl (by rw [List.append_nil]; exact h3)]
  exact q d pl' h1 h2
theorem cal_draw0 {bs : List Bool} {p : PF} {n : Nat} {good : D → Prop} {k b : Nat} {pl : List D} {P : RV → Env → Prop} (hp : Pl b pl) (G : DrawF p [] n good) (hb : b + n < 1000000) (h : ob[k]? = some (.lst pl))
    (q : ∀ d pl', good d → Pl (b + n) pl' → P (.val d) ⟨sl, ob.set k (.lst pl')⟩) : (mCal (false :: bs) [] p [.ob k] ⟨sl, ob⟩).post P R := cal_draw (args := []) h hp G hb (by simp) q
theorem cal_draw1 {c : Bool} {bs : List Bool} {p : PF} {d1 : D} {n : Nat} {good : D → Prop} {k b : Nat} {pl : List D} {P : RV → Env → Prop} (hp : Pl b pl) (G : DrawF p [d1] n good) (hb : b + n < 1000000) (h : ob[k]? = some (.lst pl))
    (q : ∀ d pl', good d → Pl (b + n) pl' → P (.val d) ⟨sl, ob.set k (.lst pl')⟩) : (mCal (false :: c :: bs) [] p [.ob k, .val d1] ⟨sl, ob⟩).post P R := cal_draw (args := [d1]) h hp G hb (by simp) q
theorem cal_draw2 {c c2 : Bool} {bs : List Bool} {p : PF} {d1 d2 : D} {n : Nat} {good : D → Prop} {k b : Nat} {pl : List D} {P : RV → Env → Prop} (hp : Pl b pl) (G : DrawF p [d1, d2] n good) (hb : b + n < 1000000) (h : ob[k]? = some (.lst pl))
    (q : ∀ d pl', good d → Pl (b + n) pl' → P (.val d) ⟨sl, ob.set k (.lst pl')⟩) : (mCal (false :: c :: c2 :: bs) [] p [.ob k, .val d1, .val d2] ⟨sl, ob⟩).post P R := cal_draw (args := [d1, d2]) h hp G hb (by simp) q
/-! ### comprehensions that draw -/
def lcK (rv : Bool) (g : MG) (tt : MT) (te : ME) (vs : List Nat) (all : List RV) (e : Env) : Res RV := match compM vs g tt te e.sl e.ob.length all (e.ob ++ [if rv then .lsr [] else .lst []]) with
  | some ob => .ok (.ob e.ob.length) ⟨e.sl, ob⟩
  | none => .no
def fzK (n : Nat) (r : RV) (e : Env) : Res RV := match fzR 9 e.ob r with
  | some (d, ob') => if goB [] n ⟨e.sl, ob'⟩ = true then .ok (.val d) ⟨e.sl, ob'.take n⟩ else .no
  | none => .no
@[simp] theorem ev_lc {rv : Bool} {ti : MI} {g : MG} {tt : MT} {te : ME} {vs : List Nat} : mLc rv ti g tt te vs e = (ti e).bind (lcK rv g tt te vs) := rfl
@[simp] theorem ev_fzV {m : ME} : mFzV m e = (m e).bind (fzK e.ob.length) := rfl
@[simp] theorem fzK_v {n : Nat} {d : D} : fzK n (.val d) ⟨sl, ob⟩ = if goB [] n ⟨sl, ob⟩ = true then .ok (.val d) ⟨sl, ob.take n⟩ else .no := by
  unfold fzK
  rw [fzR_val]
/-- te draws n times at most from the object k and gives good data -/
def DrawsE (te : ME) (sl : List (Option RV)) (k n : Nat) (good : D → Prop) : Prop := ∀ (b : Nat) (pl : List D) (ob : List OD), ob[k]? = some (.lst pl) → Pl b pl → b + n < 1000000 →
  ∃ d pl' sl', good d ∧ Pl (b + n) pl' ∧ te ⟨sl, ob⟩ = .ok (.val d) ⟨sl', ob.set k (.lst pl')⟩
theorem DrawsE.of {te : ME} {k n : Nat} {good : D → Prop} (h : ∀ (b : Nat) (pl : List D) (ob : List OD), ob[k]? = some (.lst pl) → Pl b pl → b + n < 1000000 → (te ⟨sl, ob⟩).post (fun r e => ∃ d pl', r = .val d ∧ good d ∧ Pl (b + n) pl' ∧ e.ob = ob.set k (.lst pl')) fun _ _ => False) : DrawsE te sl k n good := fun b pl ob h0 hp hb => by
  have := h b pl ob h0 hp hb
  cases hh : te ⟨sl, ob⟩ with
  | ok r e =>
    rw [hh] at this
    obtain ⟨d, pl', rfl, h1, h2, h3⟩ := this
    obtain ⟨sl', ob'⟩ := e
    obtain rfl : ob' = _ := h3
    exact ⟨d, pl', sl', h1, h2, rfl⟩
  | xc x e => rw [hh] at this; exact this.elim
  | no => rw [hh] at this; exact this.elim
theorem set_same {α : Type} {l : List α} {k : Nat} {x : α} (h : l[k]? = some x) : l.set k x = l := by
  apply List.ext_getElem?
  intro j
  by_cases hj : k = j
  · subst hj
    rw [List.getElem?_set_self (List.getElem?_eq_some_iff.mp h).1, h]
  · rw [List.getElem?_set_ne hj]
theorem comp_drawM {te : ME} {sl : List (Option RV)} {vs : List Nat} {i k K n : Nat} {good : D → Prop} (hd : ∀ r, DrawsE te ((wipeE sl vs).set i (some r)) k n good) (hk : k ≠ K) : ∀ (l : List RV) (b : Nat) (pl acc : List D) (ob : List OD),
    ob[k]? = some (.lst pl) → ob[K]? = some (.lst acc) → Pl b pl → b + n * l.length < 1000000 → acc.length + l.length ≤ 1000000 →
    ∃ ds pl', ds.length = l.length ∧ (∀ d ∈ ds, good d) ∧ Pl (b + n * l.length) pl' ∧ compM vs (mNm i) mYes te sl K l ob = some ((ob.set k (.lst pl')).set K (.lst (acc ++ ds)))
  | [], b, pl, acc, ob, h0, hK, hp, hb, hz => ⟨[], pl, rfl, fun d hd => (by cases hd), hp, by rw [compM, List.append_nil, set_same h0, set_same hK]⟩
  | r :: l, b, pl, acc, ob, h0, hK, hp, hb, hz => by
    rw [List.length_cons, Nat.mul_add] at hb
    have hz2 : acc.length + (l.length + 1) ≤ 1000000 := hz
    obtain ⟨d, pl1, sl1, g1, g2, g3⟩ := hd r b pl ob h0 hp (by omega)
    have hK1 : (ob.set k (.lst pl1))[K]? = some (.lst acc) := by rw [List.getElem?_set_ne hk]; exact hK
    have hk1 : ((ob.set k (.lst pl1)).set K (.lst (acc ++ [d])))[k]? = some (.lst pl1) := by
      rw [List.getElem?_set_ne (Ne.symm hk), List.getElem?_set_self (List.getElem?_eq_some_iff.mp h0).1]
    have hK2 : ((ob.set k (.lst pl1)).set K (.lst (acc ++ [d])))[K]? = some (.lst (acc ++ [d])) := List.getElem?_set_self (List.getElem?_eq_some_iff.mp hK1).1
    obtain ⟨ds, pl2, k1, k2, k3, k4⟩ := comp_drawM hd hk l (b + n) pl1 (acc ++ [d]) _ hk1 hK2 g2 (by omega) (by simp; omega)
    refine ⟨d :: ds, pl2, by simp [k1], ?_, k3.mono (by rw [List.length_cons, Nat.mul_add]; omega), ?_⟩
    · intro x hx
      rcases List.mem_cons.mp hx with rfl | hx
      · exact g1
      · exact k2 x hx
    · have e1 : stepM vs (mNm i) mYes te sl K r ob = some ((ob.set k (.lst pl1)).set K (.lst (acc ++ [d]))) := by
        show (match te ⟨(wipeE sl vs).set i (some r), ob⟩ with
          | .ok y e4 => putM K e4.ob y
          | _ => none) = _
        rw [g3]
        dsimp only
        unfold putM
        rw [hK1]
        dsimp only
        rw [if_pos (by omega), dv_v]
      rw [compM, e1]
      dsimp only
      rw [k4]
      congr 1
      rw [List.set_comm _ _ (Ne.symm hk), List.set_set, List.set_set, List.append_assoc]
      rfl
/-- .. told as data -/
theorem lc_draw {te : ME} {vs : List Nat} {i k n b N : Nat} {good : D → Prop} {all : List RV} {pl : List D} {P : RV → Env → Prop} {R' : Xc → Env → Prop} (hp : Pl b pl) (hd : ∀ r, DrawsE te ((wipeE sl vs).set i (some r)) k n good) (hb : b + n * all.length < 1000000) (hl : all.length ≤ 1000000) (h : ob[k]? = some (.lst pl)) (hN : N = ob.length)
    (hg : ∀ pl', goB [] ob.length ⟨sl, ob.set k (.lst pl') ++ [.fz .non]⟩ = true)
    (q : ∀ ds pl', ds.length = all.length → (∀ d ∈ ds, good d) → Pl (b + n * all.length) pl' → P (.val (.lst ds)) ⟨sl, ob.set k (.lst pl')⟩) :
    (lcK false (mNm i) mYes te vs all ⟨sl, ob⟩).post (fun r e1 => (fzK N r e1).post P R') R := by
  subst hN
  have hk := (List.getElem?_eq_some_iff.mp h).1
  obtain ⟨ds, pl', k1, k2, k3, k4⟩ := comp_drawM (K := ob.length) (te := te) (sl := sl) (vs := vs) (i := i) (good := good) hd (by omega) all b pl [] (ob ++ [.lst []]) (by rw [List.getElem?_append_left hk]; exact h) (by simp) hp hb (by simpa using hl)
  unfold lcK
  dsimp only
  rw [if_neg (by exact Bool.false_ne_true), k4]
  dsimp only [post_ok]
  have e1 : (((ob ++ [OD.lst []]).set k (.lst pl')).set ob.length (.lst ([] ++ ds))) = ob.set k (.lst pl') ++ [.lst ds] := by
    rw [List.set_append_left _ _ hk]
    have : ob.length = (ob.set k (OD.lst pl')).length := by simp
    rw [this, List.set_append_right _ _ (Nat.le_refl _)]
    simp
  rw [e1]
  unfold fzK
  have e2 : fzR 9 (ob.set k (.lst pl') ++ [.lst ds]) (.ob ob.length) = some (.lst ds, ob.set k (.lst pl') ++ [.fz (.lst ds)]) := by
    rw [fzR]
    have e3 : (ob.set k (.lst pl') ++ [OD.lst ds])[ob.length]? = some (.lst ds) := by
      have : ob.length = (ob.set k (OD.lst pl')).length := by simp
      rw [this]
      simp
    rw [e3]
    dsimp only
    congr 2
    have : ob.length = (ob.set k (OD.lst pl')).length := by simp
    rw [this, List.set_append_right _ _ (Nat.le_refl _)]
    simp
  rw [e2]
  dsimp only
  have e4 : goB [] ob.length ⟨sl, ob.set k (.lst pl') ++ [.fz (.lst ds)]⟩ = true := by
    have := hg pl'
    unfold goB flatB at this ⊢
    dsimp only at this ⊢
    have l1 : (ob.set k (OD.lst pl')).length = ob.length := by simp
    rw [List.take_append_of_le_length (by omega)] at this ⊢
    exact this
  rw [if_pos e4, post_ok]
  have l1 : (ob.set k (OD.lst pl')).length = ob.length := by simp
  rw [List.take_append_of_le_length (by omega), List.take_of_length_le (by omega)]
  exact q ds pl' k1 k2 k3
end
end DL
end
section
set_option Elab.async false
set_option linter.all false
set_option autoImplicit false
set_option maxRecDepth 100000
set_option maxHeartbeats 2000000
/-! DPB: further rules for simp: objects, stores, errors. -/
namespace DL
open PySem PySem.Spec L2
open PyProof.Rows hiding St
section
variable {α β : Type} {a : α} {e : Env} {x : Xc} {r : RV} {P : α → Env → Prop} {R : Xc → Env → Prop} {Po : Post} {sl : List (Option RV)} {ob : List OD} {k : Nat} {d : D} {ds : List D} {i : Int}
theorem of_def {np N : Nat} {own : Bool} {m : MS} {rs : List RV} {P : RV → List OD → Prop} {R : Xc → List OD → Prop} (h : rs.length = np) (q : (m (startE N rs ob)).post {
    nx := fun e => (finV ob.length (.val .non) e).post P R
    rt := fun r e => (if own then finO ob.length r e else finV ob.length r e).post P R
    xc := fun x e => if flatB ob.length e.ob = true then R x (e.ob.take ob.length) else False }) : (defP np N own m rs ob).post P R := by
  rw [def_post h]
  exact q
@[simp] theorem lsD_obj : lsD ⟨sl, ob⟩ (.ob k) = match ob[k]? with
    | some (.fz (.lst ds)) => some ds
    | some (.lst ds) => some ds
    | _ => none := rfl
@[simp] theorem dv_obj : dv ⟨sl, ob⟩ (.ob k) = match ob[k]? with
    | some (.fz d) => some d
    | _ => none := rfl
@[simp] theorem lsD_l : lsD e (.val (.lst ds)) = some ds := rfl
@[simp] theorem lsD_t : lsD e (.val (.tup ds)) = none := rfl
@[simp] theorem lsD_s {s : List Nat} : lsD e (.val (.str s)) = none := rfl
@[simp] theorem lsD_n : lsD e (.val .non) = none := rfl
@[simp] theorem sqD_l : sqD e (.val (.lst ds)) = some ds := rfl
@[simp] theorem sqD_t : sqD e (.val (.tup ds)) = some ds := rfl
@[simp] theorem tpD_t : tpD e (.val (.tup ds)) = some ds := rfl
@[simp] theorem ev_ixOb {ob : List OD} (h : ob[k]? = some (.lst ds)) : ixM ⟨sl, ob⟩ (.ob k) (.val (.int i)) = match atZ ds i with
  | some d => .ok (.val d) ⟨sl, ob⟩
  | none => .no := by
  unfold ixM
  rw [dv_v]
  dsimp only
  rw [dv_obj, h]
  dsimp only
  unfold sqD
  rw [lsD_obj, h]
  try rfl
@[simp] theorem ev_ix0' {l : List OD} : ixM ⟨sl, .lst ds :: l⟩ (.ob 0) (.val (.int i)) = match atZ ds i with
  | some d => .ok (.val d) ⟨sl, .lst ds :: l⟩
  | none => .no := ev_ixOb rfl
@[simp] theorem ev_ix1' {o : OD} {l : List OD} : ixM ⟨sl, o :: .lst ds :: l⟩ (.ob 1) (.val (.int i)) = match atZ ds i with
  | some d => .ok (.val d) ⟨sl, o :: .lst ds :: l⟩
  | none => .no := ev_ixOb rfl
def setK (o i v : RV) (e3 : Env) : SR := match o, dv e3 i with
  | .ob k, some (.int n) => (match e3.ob[k]? with
    | some (.lst ds) => (match plN ds.length n, dv e3 v with
      | some j, some d => .nx { e3 with ob := e3.ob.set k (.lst (ds.set j d)) }
      | _, _ => .no)
    | _ => .no)
  | _, _ => .no
@[simp] theorem ev_setIx {mo mi mv : ME} : mSetIx mo mi mv e = (mv e).run fun v e1 => (mo e1).run fun o e2 => (mi e2).run fun i e3 => setK o i v e3 := rfl
@[simp] theorem setK_v : setK (.ob k) (.val (.int i)) (.val d) ⟨sl, ob⟩ = match ob[k]? with
  | some (.lst ds) => (match plN ds.length i with
    | some j => .nx ⟨sl, ob.set k (.lst (ds.set j d))⟩
    | none => .no)
  | _ => .no := by
  unfold setK
  simp only [dv_v]
  cases ob[k]? with
  | none => rfl
  | some o => cases o with
    | lst ds =>
      simp only []
      cases plN ds.length i with
      | none => rfl
      | some j => rfl
    | _ => rfl
def parK (i j : Nat) (rs : List RV) (e1 : Env) : SR := match rs with
  | [a, b] => .nx { e1 with sl := (e1.sl.set i (some a)).set j (some b) }
  | _ => .no
@[simp] theorem ev_par {i j : Nat} {u : MA} : mPar i j u e = (u e).run (parK i j) := rfl
@[simp] theorem parK_2 {i j : Nat} {a b : RV} : parK i j [a, b] e = .nx { e with sl := (e.sl.set i (some a)).set j (some b) } := rfl
def raiseK (c : Nat) (fl : List Nat) (rs : List RV) (e1 : Env) : SR := match frz (allFrz rs) e1.ob rs with
  | some (qs, ob') => (match valsOf qs with
    | some ds => if rs.length ≤ 900 ∧ ds.length = fl.length then .xc ⟨c, fl.zip ds⟩ ⟨e1.sl, ob'⟩ else .no
    | none => .no)
  | none => .no
@[simp] theorem ev_raise {c : Nat} {fl : List Nat} {u : MA} : mRaise c fl u e = (u e).run (raiseK c fl) := rfl
@[simp] theorem raiseK_1 {c f : Nat} : raiseK c [f] [.val d] e = .xc ⟨c, [(f, d)]⟩ e := by
  unfold raiseK
  rw [show frz (allFrz [RV.val d]) e.ob [.val d] = _ from frz_vals [d] [true] e.ob (by simp)]
  rfl
@[simp] theorem raiseK_2 {c f g : Nat} {d2 : D} : raiseK c [f, g] [.val d, .val d2] e = .xc ⟨c, [(f, d), (g, d2)]⟩ e := by
  unfold raiseK
  rw [show frz (allFrz [RV.val d, .val d2]) e.ob [.val d, .val d2] = _ from frz_vals [d, d2] [true, true] e.ob (by simp)]
  rfl
def r1K (rs : List RV) (e1 : Env) : Res (List RV) := match rs with
  | [.val (.int j)] => if -4611686018427387904 ≤ j ∧ j < 4611686018427387904 then .ok ((List.range j.toNat).map fun i : Nat => .val (.int (i : Nat))) e1 else .no
  | _ => .no
@[simp] theorem ev_r1 {u : MA} : mR1 u e = (u e).bind r1K := rfl
@[simp] theorem r1K_i (h0 : 0 ≤ i) (h1 : i ≤ 1000000) : r1K [.val (.int i)] e = .ok ((List.range i.toNat).map fun j : Nat => .val (.int (j : Nat))) e := by
  unfold r1K
  dsimp only
  rw [if_pos (by omega)]
def r2K (rs : List RV) (e1 : Env) : Res (List RV) := match rs with
  | [.val (.int i), .val (.int j)] => if (-4611686018427387904 ≤ i ∧ i < 4611686018427387904) ∧ (-4611686018427387904 ≤ j ∧ j < 4611686018427387904) then .ok ((List.range (j - i).toNat).map fun n : Nat => .val (.int (i + (n : Nat)))) e1 else .no
  | _ => .no
@[simp] theorem ev_r2 {u : MA} : mR2 u e = (u e).bind r2K := rfl
@[simp] theorem r2K_i {j : Int} (h0 : 0 ≤ i) (h1 : i ≤ 1000000) (h2 : 0 ≤ j) (h3 : j ≤ 1000000) : r2K [.val (.int i), .val (.int j)] e = .ok ((List.range (j - i).toNat).map fun n : Nat => .val (.int (i + (n : Nat)))) e := by
  unfold r2K
  dsimp only
  rw [if_pos (by omega)]
@[simp] theorem app_ob : appM ⟨sl, ob⟩ (.ob k) [.val d] = match ob[k]? with
    | some (.lst ds) => if ds.length < 16777216 then .ok (.val .non) ⟨sl, ob.set k (.lst (ds ++ [d]))⟩ else .no
    | some (.lsr xs) => if xs.length < 16777216 then .ok (.val .non) ⟨sl, ob.set k (.lsr (xs ++ [.val d]))⟩ else .no
    | _ => .no := by
  unfold appM
  dsimp only
  cases ob[k]? with
  | none => rfl
  | some o => cases o <;> rfl
@[simp] theorem tbLs_lst {l : List OD} : tbLs ⟨sl, .lst ds :: l⟩ (.ob 0) = true := rfl
@[simp] theorem tbLs_lst1 {o : OD} {l : List OD} : tbLs ⟨sl, o :: .lst ds :: l⟩ (.ob 1) = true := rfl
@[simp] theorem tbLs_lst2 {o o2 : OD} {l : List OD} : tbLs ⟨sl, o :: o2 :: .lst ds :: l⟩ (.ob 2) = true := rfl
@[simp] theorem lenO {ob : List OD} (h : ob[k]? = some (.lst ds)) : lenM ⟨sl, ob⟩ [.ob k] = .ok (.val (.int (ds.length : Nat))) ⟨sl, ob⟩ := by
  simp [lenM, b1, h, sqD]
@[simp] theorem ev_yes : mYes e = .ok true e := rfl
@[simp] theorem startE_ev {N : Nat} {rs : List RV} : startE N rs ob = ⟨rs.map some ++ List.replicate (N - rs.length) none, ob⟩ := rfl
@[simp] theorem mO_none : mNone e = .ok none e := rfl
def someK (r : RV) (e1 : Env) : Res (Option Int) := match dv e1 r with
  | some (.int i) => .ok (some i) e1
  | _ => .no
@[simp] theorem mO_some {m : ME} : mSome m e = (m e).bind someK := rfl
@[simp] theorem someK_i : someK (.val (.int i)) e = .ok (some i) e := rfl
@[simp] theorem ev_sl {own : Bool} {ma : ME} {ml mh : MP} : mSl own ma ml mh e = (ma e).bind fun x e1 => (ml e1).bind fun lo e2 => (mh e2).bind fun hi e3 => slM own e3 x lo hi := rfl
@[simp] theorem slM_l {lo hi : Option Int} : slM false e (.val (.lst ds)) lo hi = .ok (.val (.lst (cut ds lo hi))) e := rfl
@[simp] theorem slM_t {own : Bool} {lo hi : Option Int} : slM own e (.val (.tup ds)) lo hi = .ok (.val (.tup (cut ds lo hi))) e := rfl
@[simp] theorem slM_s {own : Bool} {s : List Nat} {lo hi : Option Int} : slM own e (.val (.str s)) lo hi = if s.length ≤ 16777216 then .ok (.val (.str (cut s lo hi))) e else .no := rfl
@[simp] theorem ev_sum {ns : List Int} : sumM e [.val (.lst (ns.map .int))] = .ok (.val (.int ns.sum)) e := by
  unfold sumM b1
  dsimp only
  rw [lsD_l]
  dsimp only
  rw [intsOf_map]
@[simp] theorem flat_0 : DL.flatB 0 ob = true := rfl
@[simp] theorem flat_1 {l : List OD} : DL.flatB 1 (.lst ds :: l) = true := rfl
@[simp] theorem flat_2 {ds2 : List D} {l : List OD} : DL.flatB 2 (.lst ds :: .lst ds2 :: l) = true := rfl
@[simp] theorem p_finV {n : Nat} {d : D} {P : RV → List OD → Prop} {R : Xc → List OD → Prop} : (finV n (.val d) ⟨sl, ob⟩).post P R = (DL.flatB n ob = true ∧ P (.val d) (ob.take n)) := finV_v
@[simp] theorem finO_00 : finO 0 (.ob 0) ⟨sl, [.lst ds]⟩ = .ok (.ob 0) [.lst ds] := rfl
@[simp] theorem finO_v {n : Nat} {P : RV → List OD → Prop} {R : Xc → List OD → Prop} : (finO n (.val d) ⟨sl, ob⟩).post P R = (DL.flatB n ob = true ∧ P (.val d) (ob.take n)) := finV_v
theorem atZ_map {xs : List Int} {n : Nat} : atZ (xs.map D.int) (n : Nat) = (xs[n]?).map D.int := by rw [atZ_nat, List.getElem?_map]
@[simp] theorem FRp_ok {r : RV} {P : RV → List OD → Prop} {R : Xc → List OD → Prop} : (FR.ok r ob).post P R = P r ob := rfl
@[simp] theorem FRp_xc {x : Xc} {P : RV → List OD → Prop} {R : Xc → List OD → Prop} : (FR.xc x ob).post P R = R x ob := rfl
@[simp] theorem FRp_no {P : RV → List OD → Prop} {R : Xc → List OD → Prop} : (FR.no).post P R = False := rfl
@[simp] theorem sIx_none {n k : Nat} : HT.sIx n k none = k := rfl
theorem cut_take {α : Type} {xs : List α} {i : Nat} : cut xs none (some (i : Nat)) = xs.take i := by
  unfold cut HT.sIx
  have : ¬ ((i : Nat) : Int) < 0 := by omega
  simp only [this, if_false, List.drop_zero, Nat.sub_zero, Int.toNat_natCast]
  by_cases h : i ≤ xs.length
  · rw [show min i xs.length = i by omega]
  · rw [show min i xs.length = xs.length by omega, List.take_length, List.take_of_length_le (by omega)]
theorem cut_drop {α : Type} {xs : List α} {i : Nat} : cut xs (some (i : Nat)) none = xs.drop i := by
  unfold cut HT.sIx
  have : ¬ ((i : Nat) : Int) < 0 := by omega
  simp only [this, if_false, Int.toNat_natCast]
  by_cases h : i ≤ xs.length
  · rw [List.take_of_length_le (by simp), show min i xs.length = i by omega]
  · rw [List.drop_eq_nil_of_le (by omega), List.drop_eq_nil_of_le (by omega)]
    simp
section
variable {P : RV → Env → Prop} {j : Int}
@[simp] theorem p_ix2 {C : Int → Int → Bool} {g : Int → Int → D} : (ixM2 C g e (.val (.int i)) (.val (.int j))).post P R = (C i j = true ∧ P (.val (g i j)) e) := by
  rw [ev_ix2]
  split <;> simp_all
@[simp] theorem p_mod : (modM e (.val (.int i)) (.val (.int j))).post P R = (0 < j ∧ P (.val (.int (i % j))) e) := by
  unfold modM
  rw [p_ix2, decide_eq_true_eq]
@[simp] theorem p_fdiv : (fdivM e (.val (.int i)) (.val (.int j))).post P R = ((0 < j ∧ j < 1073741824) ∧ P (.val (.int (i / j))) e) := by
  unfold fdivM
  rw [p_ix2, Bool.and_eq_true, decide_eq_true_eq, decide_eq_true_eq]
@[simp] theorem p_pow : (powM e (.val (.int i)) (.val (.int j))).post P R = ((0 ≤ j ∧ j ≤ 1000000 ∧ i.natAbs < 18446744073709551616) ∧ P (.val (.int (i ^ j.toNat))) e) := by
  unfold powM
  rw [p_ix2, Bool.and_eq_true, Bool.and_eq_true, decide_eq_true_eq, decide_eq_true_eq, decide_eq_true_eq]
  simp only [and_assoc]
@[simp] theorem p_imul : (imulM e (.val (.int i)) (.val (.int j))).post P R = (((-18446744073709551616 < i ∧ i < 18446744073709551616) ∨ (-18446744073709551616 < j ∧ j < 18446744073709551616)) ∧ P (.val (.int (i * j))) e) := by
  unfold imulM
  rw [p_ix2]
  simp
@[simp] theorem p_eqS {neg : Bool} {s t : List Nat} : eqM neg e (.val (.str s)) (.val (.str t)) = .ok (.val (.bl (ng neg (s == t)))) e := rfl
theorem p_eq {neg : Bool} {d d2 : D} : (eqM neg e (.val d) (.val d2)).post P R = ((layB 60 d = true ∧ layB 60 d2 = true) ∧ P (.val (.bl (ng neg (D.eq d d2)))) e) ∨ (∃ s t, d = .str s ∧ d2 = .str t) := by
  by_cases h : ∃ s t, d = .str s ∧ d2 = .str t
  · exact .inr h
  · refine .inl ?_
    unfold eqM
    rw [dv_v, dv_v]
    split
    · rename_i s t h1 h2
      cases h1
      cases h2
      exact absurd ⟨s, t, rfl, rfl⟩ h
    · rw [rd_val, rd_val]
      simp only []
      split <;> simp_all
@[simp] theorem p_eqI {neg : Bool} {a b : Int} : eqM neg e (.val (.int a)) (.val (.int b)) = .ok (.val (.bl (ng neg (a == b)))) e := by
  rw [ev_eq (by simp) (by simp), D.eq]
@[simp] theorem p_repr {d : D} : (reprM e [.val d]).post P R = ((layB 60 d = true ∧ shows d = true ∧ (PyData.shown d.py).length ≤ 16777216) ∧ P (.val (.str (reprL d))) e) := by
  unfold reprM b1
  dsimp only
  rw [rd_val]
  dsimp only
  split
  · rename_i h
    simp [h]
  · rename_i h
    simp only [post_no]
    exact propext ⟨False.elim, fun q => h q.1⟩
end
end
end DL
end
section
set_option Elab.async false
set_option linter.all false
set_option autoImplicit false
set_option maxRecDepth 100000
set_option maxHeartbeats 2000000
/-! DPC: repr of small data; equality of data; plain comprehensions. -/
namespace DL
open PySem PySem.Spec L2
open PyProof.Rows hiding St
/-! ### small data -/
mutual
def rB : D → Bool
  | .non => true
  | .bl _ => true
  | .int i => decide (i.natAbs < 1180591620717411303424)
  | .str s => s.all fun c => decide (c < 1114112)
  | .lst xs => rBL xs
  | .tup xs => rBL xs
  | _ => false
def rBL : List D → Bool
  | [] => true
  | x :: xs => rB x && rBL xs
end
mutual
def rW : D → Nat
  | .str s => s.length
  | .lst xs => rWL xs
  | .tup xs => rWL xs
  | .int _ => 70
  | _ => 0
def rWL : List D → Nat
  | [] => 0
  | x :: xs => rW x + 1 + rWL xs
end
theorem two70 : (1180591620717411303424 : Nat) = 2 ^ 70 := by decide
theorem rB_int {i : Int} (h : i.natAbs < 1180591620717411303424) : i.natAbs = 0 ∨ i.natAbs.log2 < 70 := by
  by_cases h0 : i.natAbs = 0
  · exact .inl h0
  · exact .inr ((Nat.log2_lt h0).mpr (by rw [← two70]; exact h))
mutual
theorem rB_ok : ∀ d : D, rB d = true → PyData.leavesShort 1921 d.py = true ∧ PyData.showable d.py = true ∧ PyData.weight d.py ≤ rW d
  | .non, _ => by rw [D.py]; exact ⟨rfl, by rw [PyData.showable], by rw [PyData.weight]; exact Nat.zero_le _⟩
  | .bl b, _ => by rw [D.py]; exact ⟨rfl, by rw [PyData.showable], by rw [PyData.weight]; exact Nat.zero_le _⟩
  | .int i, h => by
    have h1 : i.natAbs < 1180591620717411303424 := of_decide_eq_true h
    have h2 : i.natAbs.log2 < 1920 := by
      rcases rB_int h1 with e | e
      · rw [e]; decide
      · omega
    rw [D.py]
    refine ⟨?_, by rw [PyData.showable]; exact decide_eq_true h2, ?_⟩
    · rw [PyData.leavesShort]
      refine decide_eq_true ?_
      show (PySem.Str.ofString (toString i)).length ≤ 1921
      rw [PySem.ofString_length]
      exact int_text_length_le (k := 1920) (by decide) h2
    · rw [PyData.weight, rW]
      split
      · omega
      · rename_i h0
        rcases rB_int h1 with e | e
        · simp at h0; omega
        · omega
  | .str s, h => by
    rw [D.py]
    have h1 : ∀ c ∈ s, c < 1114112 := fun c hc => of_decide_eq_true (List.all_eq_true.mp h c hc)
    refine ⟨?_, by rw [PyData.showable], ?_⟩
    · rw [PyData.leavesShort]
      refine List.all_eq_true.mpr fun c hc => decide_eq_true ?_
      have : c < 1114112 := h1 c (by simpa [S] using hc)
      have e : (16 : Nat) ^ 8 = 4294967296 := by decide
      omega
    · rw [PyData.weight, rW]
      exact Nat.le_of_eq (S_len s)
  | .lst xs, h => by
    have := rBL_ok xs (by rw [rB] at h; exact h)
    rw [D.py, PyData.leavesShort, PyData.showable, PyData.weight, rW]
    exact this
  | .tup xs, h => by
    have := rBL_ok xs (by rw [rB] at h; exact h)
    rw [D.py, PyData.leavesShort, PyData.showable, PyData.weight, rW]
    exact this
  | .dic _, h => by simp [rB] at h
  | .ins _ _, h => by simp [rB] at h
  | .glo _, h => by simp [rB] at h
  | .exn _ _ _ _, h => by simp [rB] at h
theorem rBL_ok : ∀ xs : List D, rBL xs = true → PyData.leavesShortAll 1921 (pyL xs) = true ∧ PyData.showableAll (pyL xs) = true ∧ PyData.weightAll (pyL xs) ≤ rWL xs
  | [], _ => by rw [pyL_nil, PyData.leavesShortAll, PyData.showableAll, PyData.weightAll]; exact ⟨rfl, rfl, Nat.zero_le _⟩
  | x :: xs, h => by
    rw [rBL, Bool.and_eq_true] at h
    obtain ⟨a1, a2, a3⟩ := rB_ok x h.1
    obtain ⟨b1, b2, b3⟩ := rBL_ok xs h.2
    rw [pyL_cons, PyData.leavesShortAll, PyData.showableAll, PyData.weightAll, rWL, a1, a2, b1, b2]
    exact ⟨rfl, rfl, by omega⟩
end
/-- repr can be asked -/
def okR (d : D) : Bool := layB 60 d && (rB d && decide (rW d ≤ 8000))
theorem okR_ok {d : D} (h : okR d = true) : layB 60 d = true ∧ shows d = true ∧ (PyData.shown d.py).length ≤ 16777216 := by
  unfold okR at h
  rw [Bool.and_eq_true, Bool.and_eq_true, decide_eq_true_eq] at h
  obtain ⟨h1, h2, h3⟩ := h
  obtain ⟨a1, a2, a3⟩ := rB_ok d h2
  refine ⟨h1, a2, ?_⟩
  have := PyData.shown_le 1921 (by decide) d.py a1
  have e : (1921 + 2) * d.py.weight ≤ (1921 + 2) * 8000 := Nat.mul_le_mul_left _ (by omega)
  omega
/-- a small item -/
def okI (d : D) : Bool := layB 50 d && (rB d && decide (rW d ≤ 100))
mutual
theorem layB_mono : ∀ {n m : Nat} (d : D), layB n d = true → n ≤ m → layB m d = true
  | n, m, .non, _, _ => layB_non
  | n, m, .bl _, _, _ => layB_bl
  | n, m, .int _, _, _ => layB_int
  | n, m, .str s, h, _ => by rw [layB_str] at h ⊢; exact h
  | 0, m, .lst xs, h, _ => by simp [layB] at h
  | n + 1, 0, .lst xs, h, hm => by omega
  | n + 1, m + 1, .lst xs, h, hm => by
    rw [layB_lst] at h ⊢
    exact layBL_mono xs h (by omega)
  | 0, m, .tup xs, h, _ => by simp [layB] at h
  | n + 1, 0, .tup xs, h, hm => by omega
  | n + 1, m + 1, .tup xs, h, hm => by
    rw [layB_tup] at h ⊢
    exact layBL_mono xs h (by omega)
  | n, m, .dic _, h, _ => by cases n <;> simp [layB] at h
  | n, m, .ins _ _, h, _ => by cases n <;> simp [layB] at h
  | n, m, .glo _, h, _ => by cases n <;> simp [layB] at h
  | n, m, .exn _ _ _ _, h, _ => by cases n <;> simp [layB] at h
theorem layBL_mono : ∀ {n m : Nat} (xs : List D), xs.all (layB n) = true → n ≤ m → xs.all (layB m) = true
  | _, _, [], _, _ => rfl
  | n, m, x :: xs, h, hm => by
    rw [List.all_cons, Bool.and_eq_true] at h ⊢
    exact ⟨layB_mono x h.1 hm, layBL_mono xs h.2 hm⟩
end
theorem okI_all {ds : List D} (h : ∀ d ∈ ds, okI d = true) (k : Nat) (hk : 50 ≤ k) : ds.all (layB k) = true ∧ rBL ds = true ∧ rWL ds ≤ 101 * ds.length := by
  induction ds with
  | nil => exact ⟨rfl, rfl, by rw [rWL]; omega⟩
  | cons d ds ih =>
    obtain ⟨i1, i2, i3⟩ := ih fun x hx => h x (List.mem_cons_of_mem _ hx)
    have hd := h d List.mem_cons_self
    unfold okI at hd
    rw [Bool.and_eq_true, Bool.and_eq_true, decide_eq_true_eq] at hd
    obtain ⟨a1, a2, a3⟩ := hd
    rw [List.all_cons, i1, rBL, i2, rWL, a2, layB_mono d a1 hk, List.length_cons]
    exact ⟨rfl, rfl, by omega⟩
theorem okR_lst {ds : List D} (h : ∀ d ∈ ds, okI d = true) (hl : ds.length ≤ 70) : okR (.lst ds) = true := by
  obtain ⟨a1, a2, a3⟩ := okI_all h 59 (by decide)
  unfold okR
  rw [layB_lst, a1, rB, a2, rW]
  simp
  omega
theorem okR_tup {ds : List D} (h : ∀ d ∈ ds, okI d = true) (hl : ds.length ≤ 70) : okR (.tup ds) = true := by
  obtain ⟨a1, a2, a3⟩ := okI_all h 59 (by decide)
  unfold okR
  rw [layB_tup, a1, rB, a2, rW]
  simp
  omega
theorem okI_lay {d : D} (h : okI d = true) : layB 50 d = true := by
  unfold okI at h
  rw [Bool.and_eq_true] at h
  exact h.1
theorem okI_str {s : List Nat} (h : ∀ c ∈ s, c < 1114112) (hl : s.length ≤ 100) : okI (.str s) = true := by
  have : (s.all fun c => decide (c < 1114112)) = true := List.all_eq_true.mpr fun c hc => decide_eq_true (h c hc)
  unfold okI
  rw [layB_str, this, rB, this, rW]
  simpa using hl
@[simp] theorem okI_int {i : Int} : okI (.int i) = decide (i.natAbs < 1180591620717411303424) := by
  unfold okI
  rw [layB_int, rB, rW]
  simp
@[simp] theorem okI_non : okI .non = true := by unfold okI; rw [layB_non, rB]; simp [rW]
@[simp] theorem okI_bl {b : Bool} : okI (.bl b) = true := by unfold okI; rw [layB_bl, rB]; simp [rW]
/-! ### equality of data is sameness, for data without bools in the place of numbers -/
section
variable {e : Env} {R : Xc → Env → Prop} {P : RV → Env → Prop} {sl : List (Option RV)} {ob : List OD}
theorem p_eqD {neg : Bool} {d d2 : D} (h1 : layB 60 d = true) (h2 : layB 60 d2 = true) : eqM neg e (.val d) (.val d2) = .ok (.val (.bl (ng neg (D.eq d d2)))) e := ev_eq h1 h2
/-! ### comprehensions that change nothing -/
theorem comp_det {te : ME} {tt : MT} {vs : List Nat} {i K : Nat} (t : RV → Bool) (f : RV → D) : ∀ (l : List RV) (acc : List D) (ob : List OD),
    (∀ r ∈ l, ∀ ob : List OD, tt ⟨(wipeE sl vs).set i (some r), ob⟩ = .ok (t r) ⟨(wipeE sl vs).set i (some r), ob⟩) → (∀ r ∈ l, ∀ ob : List OD, t r = true → ∃ sl', te ⟨(wipeE sl vs).set i (some r), ob⟩ = .ok (.val (f r)) ⟨sl', ob⟩) →
    ob[K]? = some (.lst acc) → acc.length + l.length ≤ 1000000 → compM vs (mNm i) tt te sl K l ob = some (ob.set K (.lst (acc ++ (l.filter t).map f)))
  | [], acc, ob, ht, he, hK, hz => by rw [compM]; simp [set_same hK]
  | r :: l, acc, ob, ht, he, hK, hz => by
    rw [compM]
    have hz2 : acc.length + (l.length + 1) ≤ 1000000 := hz
    have e1 : stepM vs (mNm i) tt te sl K r ob = some (if t r = true then ob.set K (.lst (acc ++ [f r])) else ob) := by
      show (match tt ⟨(wipeE sl vs).set i (some r), ob⟩ with
        | .ok true e3 => (match te e3 with
          | .ok y e4 => putM K e4.ob y
          | _ => none)
        | .ok false e3 => some e3.ob
        | _ => none) = _
      rw [ht r List.mem_cons_self ob]
      cases htr : t r with
      | false => simp
      | true =>
        obtain ⟨sl', h2⟩ := he r List.mem_cons_self ob htr
        simp only [if_true]
        rw [h2]
        dsimp only
        unfold putM
        rw [hK]
        dsimp only
        rw [if_pos (by omega), dv_v]
    rw [e1]
    dsimp only
    cases htr : t r with
    | false =>
      rw [if_neg (by decide), List.filter_cons_of_neg (by rw [htr]; decide)]
      exact comp_det t f l acc ob (fun x hx => ht x (List.mem_cons_of_mem _ hx)) (fun x hx => he x (List.mem_cons_of_mem _ hx)) hK (by omega)
    | true =>
      rw [if_pos rfl, List.filter_cons_of_pos htr, List.map_cons]
      have hK2 : (ob.set K (.lst (acc ++ [f r])))[K]? = some (.lst (acc ++ [f r])) := List.getElem?_set_self (List.getElem?_eq_some_iff.mp hK).1
      rw [comp_det t f l (acc ++ [f r]) _ (fun x hx => ht x (List.mem_cons_of_mem _ hx)) (fun x hx => he x (List.mem_cons_of_mem _ hx)) hK2 (by simp; omega)]
      rw [List.set_set, List.append_assoc]
      rfl
theorem lc_det {te : ME} {tt : MT} {vs : List Nat} {i N : Nat} {all : List RV} {R' : Xc → Env → Prop} (t : RV → Bool) (f : RV → D) (hN : N = ob.length) (hl : all.length ≤ 1000000)
    (ht : ∀ r ∈ all, ∀ ob : List OD, tt ⟨(wipeE sl vs).set i (some r), ob⟩ = .ok (t r) ⟨(wipeE sl vs).set i (some r), ob⟩) (he : ∀ r ∈ all, ∀ ob : List OD, t r = true → ∃ sl', te ⟨(wipeE sl vs).set i (some r), ob⟩ = .ok (.val (f r)) ⟨sl', ob⟩)
    (hg : goB [] ob.length ⟨sl, ob ++ [.fz .non]⟩ = true) (q : P (.val (.lst ((all.filter t).map f))) ⟨sl, ob⟩) :
    (lcK false (mNm i) tt te vs all ⟨sl, ob⟩).post (fun r e1 => (fzK N r e1).post P R') R := by
  subst hN
  have k4 := comp_det (K := ob.length) (sl := sl) (vs := vs) (i := i) (te := te) (tt := tt) t f all [] (ob ++ [.lst []]) ht he (by simp) (by simpa using hl)
  unfold lcK
  dsimp only
  rw [if_neg (by exact Bool.false_ne_true), k4]
  dsimp only [post_ok]
  have e1 : ((ob ++ [OD.lst []]).set ob.length (.lst ([] ++ (all.filter t).map f))) = ob ++ [.lst ((all.filter t).map f)] := by
    rw [List.set_append_right _ _ (Nat.le_refl _)]
    simp
  rw [e1]
  unfold fzK
  have e2 : fzR 9 (ob ++ [.lst ((all.filter t).map f)]) (.ob ob.length) = some (.lst ((all.filter t).map f), ob ++ [.fz (.lst ((all.filter t).map f))]) := by
    rw [fzR]
    have e3 : (ob ++ [OD.lst ((all.filter t).map f)])[ob.length]? = some (.lst ((all.filter t).map f)) := by simp
    rw [e3]
    dsimp only
    congr 2
    rw [List.set_append_right _ _ (Nat.le_refl _)]
    simp
  rw [e2]
  dsimp only
  have e4 : goB [] ob.length ⟨sl, ob ++ [.fz (.lst ((all.filter t).map f))]⟩ = true := by
    unfold goB DL.flatB at hg ⊢
    dsimp only at hg ⊢
    rw [List.take_append_of_le_length (Nat.le_refl _)] at hg ⊢
    exact hg
  rw [if_pos e4, post_ok, List.take_append_of_le_length (Nat.le_refl _), List.take_length]
  exact q
@[simp] theorem p_finV_o1 {a ds : List D} {P : RV → List OD → Prop} {R : Xc → List OD → Prop} : (finV 1 (.ob 1) ⟨sl, [.lst a, .lst ds]⟩).post P R = P (.val (.lst ds)) [.lst a] := by
  unfold finV
  rw [fzR]
  rfl
@[simp] theorem p_finV_o0 {ds : List D} {P : RV → List OD → Prop} {R : Xc → List OD → Prop} : (finV 0 (.ob 0) ⟨sl, [.lst ds]⟩).post P R = P (.val (.lst ds)) [] := by
  unfold finV
  rw [fzR]
  rfl
theorem addO {ob : List OD} {k : Nat} {i ds : List D} (h : ob[k]? = some (.lst ds)) : addV ⟨sl, ob⟩ (.val (.lst i)) (.ob k) = if i.length + ds.length ≤ 16777216 then .ok (.val (.lst (i ++ ds))) ⟨sl, ob⟩ else .no := by
  unfold addV
  rw [dv_obj, h]
  simp [h]
@[simp] theorem addO_0 {l : List OD} {i ds : List D} : addV ⟨sl, .lst ds :: l⟩ (.val (.lst i)) (.ob 0) = if i.length + ds.length ≤ 16777216 then .ok (.val (.lst (i ++ ds))) ⟨sl, .lst ds :: l⟩ else .no := addO rfl
@[simp] theorem addO_1 {o : OD} {l : List OD} {i ds : List D} : addV ⟨sl, o :: .lst ds :: l⟩ (.val (.lst i)) (.ob 1) = if i.length + ds.length ≤ 16777216 then .ok (.val (.lst (i ++ ds))) ⟨sl, o :: .lst ds :: l⟩ else .no := addO rfl
@[simp] theorem kit_NoneType_str : kitB "NoneType" "str" = some false := by decide +kernel
@[simp] theorem kit_NoneType_int : kitB "NoneType" "int" = some false := by decide +kernel
@[simp] theorem kit_NoneType_list : kitB "NoneType" "list" = some false := by decide +kernel
@[simp] theorem kit_NoneType_tuple : kitB "NoneType" "tuple" = some false := by decide +kernel
@[simp] theorem kit_NoneType_dict : kitB "NoneType" "dict" = some false := by decide +kernel
@[simp] theorem kit_NoneType_bool : kitB "NoneType" "bool" = some false := by decide +kernel
@[simp] theorem kit_bool_str : kitB "bool" "str" = some false := by decide +kernel
@[simp] theorem kit_bool_int : kitB "bool" "int" = some true := by decide +kernel
@[simp] theorem kit_bool_list : kitB "bool" "list" = some false := by decide +kernel
@[simp] theorem kit_bool_tuple : kitB "bool" "tuple" = some false := by decide +kernel
@[simp] theorem kit_bool_dict : kitB "bool" "dict" = some false := by decide +kernel
@[simp] theorem kit_bool_bool : kitB "bool" "bool" = some true := by decide +kernel
@[simp] theorem kit_int_str : kitB "int" "str" = some false := by decide +kernel
@[simp] theorem kit_int_int : kitB "int" "int" = some true := by decide +kernel
@[simp] theorem kit_int_list : kitB "int" "list" = some false := by decide +kernel
@[simp] theorem kit_int_tuple : kitB "int" "tuple" = some false := by decide +kernel
@[simp] theorem kit_int_dict : kitB "int" "dict" = some false := by decide +kernel
@[simp] theorem kit_int_bool : kitB "int" "bool" = some false := by decide +kernel
@[simp] theorem kit_str_str : kitB "str" "str" = some true := by decide +kernel
@[simp] theorem kit_str_int : kitB "str" "int" = some false := by decide +kernel
@[simp] theorem kit_str_list : kitB "str" "list" = some false := by decide +kernel
@[simp] theorem kit_str_tuple : kitB "str" "tuple" = some false := by decide +kernel
@[simp] theorem kit_str_dict : kitB "str" "dict" = some false := by decide +kernel
@[simp] theorem kit_str_bool : kitB "str" "bool" = some false := by decide +kernel
@[simp] theorem kit_list_str : kitB "list" "str" = some false := by decide +kernel
@[simp] theorem kit_list_int : kitB "list" "int" = some false := by decide +kernel
@[simp] theorem kit_list_list : kitB "list" "list" = some true := by decide +kernel
@[simp] theorem kit_list_tuple : kitB "list" "tuple" = some false := by decide +kernel
@[simp] theorem kit_list_dict : kitB "list" "dict" = some false := by decide +kernel
@[simp] theorem kit_list_bool : kitB "list" "bool" = some false := by decide +kernel
@[simp] theorem kit_tuple_str : kitB "tuple" "str" = some false := by decide +kernel
@[simp] theorem kit_tuple_int : kitB "tuple" "int" = some false := by decide +kernel
@[simp] theorem kit_tuple_list : kitB "tuple" "list" = some false := by decide +kernel
@[simp] theorem kit_tuple_tuple : kitB "tuple" "tuple" = some true := by decide +kernel
@[simp] theorem kit_tuple_dict : kitB "tuple" "dict" = some false := by decide +kernel
@[simp] theorem kit_tuple_bool : kitB "tuple" "bool" = some false := by decide +kernel
@[simp] theorem kit_dict_str : kitB "dict" "str" = some false := by decide +kernel
@[simp] theorem kit_dict_int : kitB "dict" "int" = some false := by decide +kernel
@[simp] theorem kit_dict_list : kitB "dict" "list" = some false := by decide +kernel
@[simp] theorem kit_dict_tuple : kitB "dict" "tuple" = some false := by decide +kernel
@[simp] theorem kit_dict_dict : kitB "dict" "dict" = some true := by decide +kernel
@[simp] theorem kit_dict_bool : kitB "dict" "bool" = some false := by decide +kernel
theorem p_ixS {s : List Nat} {i : Int} : (ixM e (.val (.str s)) (.val (.int i))).post P R = (s.length ≤ 16777216 ∧ match atZ s i with | some k => P (.val (.str [k])) e | none => False) := by
  unfold ixM
  rw [dv_v, dv_v]
  dsimp only
  split
  · rename_i h
    cases atZ s i <;> simp [h]
  · rename_i h
    simp [h]
theorem p_in {neg : Bool} {d : D} {js : List D} : layB 59 d = true → js.all (layB 59) = true → inM neg e (.val d) (.val (.lst js)) = .ok (.val (.bl (ng neg (memL d js)))) e := fun h k => ev_inL h k
end
end DL
end
section
set_option Elab.async false
set_option linter.all false
set_option autoImplicit false
set_option maxRecDepth 100000
set_option maxHeartbeats 2000000
/-! DPD: rules for simp: instances, errors caught, stores. -/
namespace DL
open PySem PySem.Spec L2
open PyProof.Rows hiding St
section
variable {α : Type} {e : Env} {R : Xc → Env → Prop} {Po : Post} {sl : List (Option RV)} {ob : List OD} {k n c : Nat} {v : RV} {d : D} {fd : List (Nat × D)}
theorem eq_post {f : FR} {r : RV} {ob : List OD} (h : f.post (fun r' ob' => r' = r ∧ ob' = ob) fun _ _ => False) : f = .ok r ob := by
  cases f with
  | ok r' ob' => obtain ⟨rfl, rfl⟩ := h; rfl
  | xc x ob' => exact h.elim
  | no => exact h.elim
theorem eq_post_x {f : FR} {x : Xc} {ob : List OD} (h : f.post (fun _ _ => False) fun x' ob' => x' = x ∧ ob' = ob) : f = .xc x ob := by
  cases f with
  | ok r' ob' => exact h.elim
  | xc x ob' => obtain ⟨rfl, rfl⟩ := h; rfl
  | no => exact h.elim
def setFK (okF : Nat → Nat → Bool) (n : Nat) (v : RV) (o : RV) (e2 : Env) : SR := match o with
  | .ob k => (match e2.ob[k]? with
    | some (.ins c fs) => if (okF c n && fs.all fun p => okF c p.1) = true ∧ fs.length < 1000 then .nx { e2 with ob := e2.ob.set k (.ins c (putN n v fs)) } else .no
    | _ => .no)
  | _ => .no
@[simp] theorem ev_setF {ok : Nat → Nat → Bool} {mo mv : ME} : mSetF ok n mo mv e = (mv e).run fun v e1 => (mo e1).run fun o e2 => setFK ok n v o e2 := rfl
@[simp] theorem setFK_ob {ok : Nat → Nat → Bool} {fs : List (Nat × RV)} {l : List OD} : setFK ok n v (.ob 0) ⟨sl, .ins c fs :: l⟩ = if (ok c n && fs.all fun p => ok c p.1) = true ∧ fs.length < 1000 then .nx ⟨sl, .ins c (putN n v fs) :: l⟩ else .no := rfl
@[simp] theorem flat_ins {fs : List (Nat × RV)} {l : List OD} : DL.flatB 1 (.ins c fs :: l) = fs.all fun p => p.2.below 1 := by simp [DL.flatB, OD.below]
@[simp] theorem below_v : (RV.val d).below n = true := rfl
/-! attributes read -/
@[simp] theorem ev_fld {ok : Nat → Nat → Bool} {m : ME} : mFld ok n m e = (m e).bind (fldM ok n) := rfl
theorem lookV (f : Nat) : ∀ fd : List (Nat × D), (fd.map fun p => (p.1, RV.val p.2)).lookup f = (fd.lookup f).map .val
  | [] => rfl
  | (g, d) :: fd => by
    rw [List.map_cons, List.lookup_cons, List.lookup_cons, lookV f fd]
    cases f == g <;> rfl
@[simp] theorem fldM_v {ok : Nat → Nat → Bool} : fldM ok n (.val (.ins c fd)) e = if (ok c n && fd.all fun p => ok c p.1) = true then (match fd.lookup n with
    | some d => .ok (.val d) e
    | none => .no) else .no := by
  unfold fldM insOf
  dsimp only
  rw [lookV, List.all_map]
  show (if (ok c n && fd.all fun p => ok c p.1) = true then _ else _) = _
  split
  · cases fd.lookup n <;> rfl
  · rfl
/-! methods -/
def methK (ok : Nat → Nat → Bool) (tab : MTab) (b : Bool) (u : MA) (r : RV) (e1 : Env) : Res RV := match insOf e1 r with
  | some (c, fs) => if (fs.all fun p => ok c p.1) = true then (match tab c with
    | some (m, dd, p) => (u e1).bind fun rs e2 => mCal (b :: m) dd p (r :: rs) e2
    | none => .no) else .no
  | none => .no
@[simp] theorem ev_meth {ok : Nat → Nat → Bool} {tab : MTab} {b : Bool} {mo : ME} {u : MA} : mMeth ok tab b mo u e = (mo e).bind (methK ok tab b u) := rfl
@[simp] theorem methK_v {ok : Nat → Nat → Bool} {tab : MTab} {b : Bool} {u : MA} : methK ok tab b u (.val (.ins c fd)) e = if (fd.all fun p => ok c p.1) = true then (match tab c with
    | some (m, dd, p) => (u e).bind fun rs e2 => mCal (b :: m) dd p (.val (.ins c fd) :: rs) e2
    | none => .no) else .no := by
  unfold methK insOf
  dsimp only
  rw [List.all_map]
  rfl
def callIK (tab : MTab) (b : Bool) (u : MA) (r : RV) (e1 : Env) : Res RV := if (insOf e1 r).isSome = true then (u e1).bind fun rs e2 => match insOf e2 r with
  | some (c, _) => (match tab c with
    | some (m, dd, p) => mCal (b :: m) dd p (r :: rs) e2
    | none => .no)
  | none => .no else .no
@[simp] theorem ev_callI {tab : MTab} {b : Bool} {mo : ME} {u : MA} : mCallI tab b mo u e = (mo e).bind (callIK tab b u) := rfl
@[simp] theorem callIK_v {tab : MTab} {b : Bool} {u : MA} : callIK tab b u (.val (.ins c fd)) e = (u e).bind fun rs e2 => match tab c with
    | some (m, dd, p) => mCal (b :: m) dd p (.val (.ins c fd) :: rs) e2
    | none => .no := rfl
/-! types -/
def isCK (ans : TK → Option Bool) (r : RV) (e1 : Env) : Res RV := match tkOf e1 r with
  | some t => (match ans t with
    | some b => .ok (.val (.bl b)) e1
    | none => .no)
  | none => .no
@[simp] theorem ev_isC {ans : TK → Option Bool} {m : ME} : mIsC ans m e = (m e).bind (isCK ans) := rfl
@[simp] theorem isCK_ins {ans : TK → Option Bool} : isCK ans (.val (.ins c fd)) e = match ans (.ow c) with
    | some b => .ok (.val (.bl b)) e
    | none => .no := rfl
@[simp] theorem isCK_tup {ans : TK → Option Bool} {ds : List D} : isCK ans (.val (.tup ds)) e = match ans (.bi "tuple") with
    | some b => .ok (.val (.bl b)) e
    | none => .no := rfl
@[simp] theorem isCK_non {ans : TK → Option Bool} : isCK ans (.val .non) e = match ans (.bi "NoneType") with
    | some b => .ok (.val (.bl b)) e
    | none => .no := rfl
@[simp] theorem isCK_str {ans : TK → Option Bool} {s : List Nat} : isCK ans (.val (.str s)) e = match ans (.bi "str") with
    | some b => .ok (.val (.bl b)) e
    | none => .no := rfl
@[simp] theorem isCK_int {ans : TK → Option Bool} {i : Int} : isCK ans (.val (.int i)) e = match ans (.bi "int") with
    | some b => .ok (.val (.bl b)) e
    | none => .no := rfl
@[simp] theorem tk_ins : tkOf e (.val (.ins c fd)) = some (.ow c) := rfl
@[simp] theorem tk_tup {ds : List D} : tkOf e (.val (.tup ds)) = some (.bi "tuple") := rfl
/-! own == -/
@[simp] theorem eqI_v {et : MTab} {sub : Nat → TK → Bool} {b : Bool} {y : RV} : eqIM et sub b e (.val (.ins c fd)) y = (match et c, tkOf e y with
    | some (m, dd, p), some t => if sub c t = true then (match mCal (b :: m) dd p [.val (.ins c fd), y] e with
      | .ok (.val (.bl k)) e1 => .ok (.val (.bl k)) e1
      | _ => .no) else .no
    | _, _ => .no) := rfl
/-! errors caught -/
@[simp] theorem p_tryAs {i : Nat} {isA : Nat → Option Bool} {b : MS} {h : Nat → List (Nat × D) → MS} : (mTryAs i isA b h e).post Po = (b e).post { Po with xc := fun x e1 => match isA x.c with
    | some true => i < e1.sl.length ∧ ((h x.c x.fs (DL.unp i e1)).unp i).post Po
    | some false => Po.xc x e1
    | none => False } := by
  unfold mTryAs
  cases b e with
  | xc x e1 =>
    show _ = (match isA x.c with
      | some true => i < e1.sl.length ∧ ((h x.c x.fs (DL.unp i e1)).unp i).post Po
      | some false => Po.xc x e1
      | none => False)
    dsimp only
    cases isA x.c with
    | none => rfl
    | some t =>
      cases t with
      | false => rfl
      | true =>
        dsimp only
        split
        · rename_i h'; simp [h']
        · rename_i h'; simp [h']
  | _ => rfl
@[simp] theorem unp_rt {i : Nat} : (SR.rt v e).unp i = .rt v (DL.unp i e) := rfl
@[simp] theorem unp_nx {i : Nat} : (SR.nx e).unp i = .nx (DL.unp i e) := rfl
@[simp] theorem unp_e {i : Nat} : DL.unp i ⟨sl, ob⟩ = ⟨sl.set i none, ob⟩ := rfl
@[simp] theorem ev_fd {cs : List Nat} {fs : List (Nat × D)} {f : Nat} : mFd cs c fs f e = if c ∈ cs then (match fs.lookup f with
  | some v => .ok (.val v) e
  | none => .no) else .no := rfl
/-! instances made -/
theorem ks_one {k : Nat} {ds : List D} : ksOf (.ob k :: ds.map .val) = [k] := by
  rw [ksOf, ks_vals]
  try simp
theorem cal_ob {bs : List Bool} {dd : List D} {p : PF} {k : Nat} {ds : List D} {o : OD} (h : ob[k]? = some o) (hf : o.flat = true) (hl : ds.length ≤ bs.length) : mCal (false :: bs) dd p (.ob k :: ds.map .val) ⟨sl, ob⟩ = match p (.ob 0 :: (ds ++ dd).map .val) [o] with
    | .ok r ob' => .ok (r.ren (out [k] ob.length)) ⟨sl, back [k] ob ob'⟩
    | .xc x ob' => .xc x ⟨sl, back [k] ob ob'⟩
    | .no => .no := by
  unfold mCal
  rw [frz, frz_vals ds bs ob hl]
  dsimp only
  rw [ks_one, oblOf, h, oblOf]
  dsimp only
  have e2 : (RV.ob k :: ds.map RV.val).map (RV.loc [k]) = .ob 0 :: ds.map .val := by
    rw [List.map_cons, List.map_map]
    simp [RV.loc]
    try (intro _ _; rfl)
  simp only [hf, if_true]
  rw [e2, List.cons_append, ← List.map_append]
  try rfl
theorem back_1 {k : Nat} {o : OD} (hf : o.flat = true) : back [k] ob [o] = ob.set k o := by
  unfold back
  simp [putAll, flat_ren hf]
def newK (c : Nat) (m : List Bool) (dd : List D) (p : PF) (rs : List RV) (e1 : Env) : Res RV := (mCal (false :: m) dd p (.ob e1.ob.length :: rs) ⟨e1.sl, e1.ob ++ [.ins c []]⟩).bind fun r e2 => match r with
  | .val .non => .ok (.ob e1.ob.length) e2
  | _ => .no
@[simp] theorem ev_new {m : List Bool} {dd : List D} {p : PF} {u : MA} : mNew c m dd p u e = (u e).bind (newK c m dd p) := rfl
theorem newK_ok {m : List Bool} {dd : List D} {p : PF} {ds : List D} {fs : List (Nat × D)} (hl : ds.length ≤ m.length) (hp : p (.ob 0 :: (ds ++ dd).map .val) [.ins c []] = .ok (.val .non) [.ins c (fs.map fun p => (p.1, .val p.2))]) :
    newK c m dd p (ds.map .val) ⟨sl, ob⟩ = .ok (.ob ob.length) ⟨sl, ob ++ [.ins c (fs.map fun p => (p.1, .val p.2))]⟩ := by
  unfold newK
  dsimp only
  rw [cal_ob (o := .ins c []) (by simp) rfl hl, hp]
  dsimp only
  rw [back_1 (by simp [OD.flat, isV])]
  simp
theorem newK_xc {m : List Bool} {dd : List D} {p : PF} {ds : List D} {x : Xc} (hl : ds.length ≤ m.length) (hp : p (.ob 0 :: (ds ++ dd).map .val) [.ins c []] = .xc x [.ins c []]) :
    newK c m dd p (ds.map .val) ⟨sl, ob⟩ = .xc x ⟨sl, ob ++ [.ins c []]⟩ := by
  unfold newK
  dsimp only
  rw [cal_ob (o := .ins c []) (by simp) rfl hl, hp]
  dsimp only
  rw [back_1 rfl]
  simp
theorem fzF_vals (n : Nat) (ob : List OD) : ∀ fs : List (Nat × D), fzF n ob (fs.map fun p => (p.1, .val p.2)) = some (fs, ob)
  | [] => by rw [List.map_nil, fzF]
  | (f, d) :: fs => by
    rw [List.map_cons, fzF, fzR_val]
    dsimp only
    rw [fzF_vals n ob fs]
theorem fzK_ins {fs : List (Nat × D)} (hg : goB [] ob.length ⟨sl, ob⟩ = true) : fzK ob.length (.ob ob.length) ⟨sl, ob ++ [.ins c (fs.map fun p => (p.1, .val p.2))]⟩ = .ok (.val (.ins c fs)) ⟨sl, ob⟩ := by
  unfold fzK
  have e2 : fzR 9 (ob ++ [.ins c (fs.map fun p => (p.1, .val p.2))]) (.ob ob.length) = some (.ins c fs, ob ++ [.fz (.ins c fs)]) := by
    rw [fzR]
    have e3 : (ob ++ [OD.ins c (fs.map fun p => (p.1, .val p.2))])[ob.length]? = some (.ins c (fs.map fun p => (p.1, .val p.2))) := by simp
    rw [e3]
    dsimp only
    rw [fzF_vals]
    dsimp only
    rw [e3]
    dsimp only
    congr 2
    rw [List.set_append_right _ _ (Nat.le_refl _)]
    simp
  rw [e2]
  dsimp only
  have e4 : goB [] ob.length ⟨sl, ob ++ [.fz (.ins c fs)]⟩ = true := by
    unfold goB DL.flatB at hg ⊢
    dsimp only at hg ⊢
    rw [List.take_append_of_le_length (Nat.le_refl _), List.take_length]
    rw [List.take_length] at hg
    exact hg
  rw [if_pos e4, List.take_append_of_le_length (Nat.le_refl _), List.take_length]
theorem fzK_lst {ds : List D} (hg : goB [] ob.length ⟨sl, ob⟩ = true) : fzK ob.length (.ob ob.length) ⟨sl, ob ++ [.lst ds]⟩ = .ok (.val (.lst ds)) ⟨sl, ob⟩ := by
  unfold fzK
  have e2 : fzR 9 (ob ++ [.lst ds]) (.ob ob.length) = some (.lst ds, ob ++ [.fz (.lst ds)]) := by
    rw [fzR]
    have e3 : (ob ++ [OD.lst ds])[ob.length]? = some (.lst ds) := by simp
    rw [e3]
    dsimp only
    congr 2
    rw [List.set_append_right _ _ (Nat.le_refl _)]
    simp
  rw [e2]
  dsimp only
  have e4 : goB [] ob.length ⟨sl, ob ++ [.fz (.lst ds)]⟩ = true := by
    unfold goB DL.flatB at hg ⊢
    dsimp only at hg ⊢
    rw [List.take_append_of_le_length (Nat.le_refl _), List.take_length]
    rw [List.take_length] at hg
    exact hg
  rw [if_pos e4, List.take_append_of_le_length (Nat.le_refl _), List.take_length]
@[simp] theorem back_o {ds : List D} : (FR.ok (.ob 0) [.lst ds]).back ⟨sl, ob⟩ = .ok (.ob ob.length) ⟨sl, ob ++ [.lst ds]⟩ := by
  unfold FR.back
  simp [RV.ren, out]
/-- what a def hands back as its own, told as data -/
theorem p_own {ds : List D} {n : Nat} {P : RV → Env → Prop} {R' : Xc → Env → Prop} (hn : n = ob.length) (hg : goB [] ob.length ⟨sl, ob⟩ = true) (q : P (.val (.lst ds)) ⟨sl, ob⟩) : (Res.ok (.ob ob.length) ⟨sl, ob ++ [.lst ds]⟩).post (fun a e => (fzK n a e).post P R') R := by
  subst hn
  rw [post_ok, fzK_lst hg]
  exact q
@[simp] theorem fzK_0 {ds : List D} : fzK 0 (.ob 0) ⟨sl, [.lst ds]⟩ = if sl.all (slotB 0) = true then .ok (.val (.lst ds)) ⟨sl, []⟩ else .no := by
  unfold fzK
  rw [fzR]
  dsimp only
  show (if (((sl.all (slotB 0)) && DL.flatB 0 ([OD.lst ds].set 0 (.fz (.lst ds)))) = true) then _ else _) = _
  rw [flat_0, Bool.and_true]
  rfl
@[simp] theorem slotB_v {n : Nat} : slotB n (some (.val d)) = true := rfl
@[simp] theorem slotB_n {n : Nat} : slotB n none = true := rfl
@[simp] theorem slotB_o {n k : Nat} : slotB n (some (.ob k)) = decide (k < n) := rfl
/-! stores -/
def delK (o i : RV) (e2 : Env) : SR := match o, dv e2 i with
  | .ob k, some (.int n) => (match e2.ob[k]? with
    | some (.lst ds) => if 0 ≤ n ∧ n < ds.length ∧ ds.length ≤ 16777216 then .nx { e2 with ob := e2.ob.set k (.lst (ds.eraseIdx n.toNat)) } else .no
    | _ => .no)
  | _, _ => .no
@[simp] theorem ev_del {mo mi : ME} : mDel mo mi e = (mo e).run fun o e1 => (mi e1).run fun i e2 => delK o i e2 := rfl
@[simp] theorem delK_0 {i : Int} {ds : List D} {l : List OD} : delK (.ob 0) (.val (.int i)) ⟨sl, .lst ds :: l⟩ = if 0 ≤ i ∧ i < ds.length ∧ ds.length ≤ 16777216 then .nx ⟨sl, .lst (ds.eraseIdx i.toNat) :: l⟩ else .no := rfl
@[simp] theorem ins_0 {i : Int} {ds : List D} {l : List OD} : insM ⟨sl, .lst ds :: l⟩ (.ob 0) [.val (.int i), .val d] = if 0 ≤ i ∧ i < 4611686018427387904 ∧ ds.length < 16777216 then .ok (.val .non) ⟨sl, .lst (ds.take i.toNat ++ [d] ++ ds.drop i.toNat) :: l⟩ else .no := rfl
def subK (o i r : RV) (e2 : Env) : Option Env := match o, dv e2 i with
  | .ob k, some (.int n) => (match e2.ob[k]? with
    | some (.lst ds) => (match plN ds.length n, dv e2 r with
      | some j, some d => some { e2 with ob := e2.ob.set k (.lst (ds.set j d)) }
      | _, _ => none)
    | _ => none)
  | _, _ => none
theorem ev_sub' {mo mi : ME} {r o i : RV} (h1 : mo e = .ok o e) (h2 : mi e = .ok i e) : mSub mo mi r e = subK o i r e := by
  unfold mSub
  rw [h1]
  dsimp only
  rw [h2]
  rfl
@[simp] theorem subK_0 {i : Int} {ds : List D} {l : List OD} : subK (.ob 0) (.val (.int i)) (.val d) ⟨sl, .lst ds :: l⟩ = match plN ds.length i with
    | some j => some ⟨sl, .lst (ds.set j d) :: l⟩
    | none => none := by
  unfold subK
  simp only [dv_v]
  show (match plN ds.length i, some d with
    | some j, some d => some (⟨sl, (OD.lst ds :: l).set 0 (.lst (ds.set j d))⟩ : Env)
    | _, _ => none) = _
  cases plN ds.length i <;> rfl
@[simp] theorem tupleM_l {ds : List D} : tupleM e [.val (.lst ds)] = .ok (.val (.tup ds)) e := rfl
@[simp] theorem tupleM_t {ds : List D} : tupleM e [.val (.tup ds)] = .ok (.val (.tup ds)) e := rfl
theorem repr_ev (h : okR d = true) : reprM e [.val d] = .ok (.val (.str (reprL d))) e := ev_repr (okR_ok h).1 (okR_ok h).2.1 (okR_ok h).2.2
@[simp] theorem tpI_t {ds : List D} : tpI e (.val (.tup ds)) = some (ds.map .val) := rfl
end
end DL
end
section
set_option Elab.async false
set_option linter.all false
set_option autoImplicit false
set_option maxRecDepth 100000
set_option maxHeartbeats 1000000
namespace LW
open PySem PySem.Spec PyProof.Rows DL
open L2 hiding St start
def isA_BadSlip : Nat → Option Bool := fun c => [(100, false), (105, true)].lookup c
def okl : List (Nat × List Nat) := [(262, [393, 357, 447])]
abbrev okF := okT okl
def anl_Slip : List (TK × Bool) := [(.bi "NoneType", false), (.bi "bool", false), (.bi "int", false), (.bi "str", false), (.bi "list", false), (.bi "tuple", false), (.ow 262, true)]
abbrev an_Slip := ansT anl_Slip
def sul : List (Nat × TK) := [(262, .bi "NoneType"), (262, .bi "bool"), (262, .bi "int"), (262, .bi "str"), (262, .bi "list"), (262, .bi "tuple"), (262, .ow 262)]
abbrev sub_eq := subT sul
def m_trimmed_1 : MS := (mAug 4 (mD (.int 1)) (ixM0 fun i j => .int (i + j)))
def m_trimmed_2 : MT := (mAnd (mVal (m2 iltM (mVar 4) (m2 subM (mVar 2) (mVar 3)))) (mVal (m2 (eqM false) (m2 ixM (mVar 0) (m2 subM (m2 subM (mB lenM (mCons (mVar 0) mNil)) (mD (.int 1))) (mVar 4))) (m2 ixM (mVar 1) (m2 subM (m2 subM (mB lenM (mCons (mVar 1) mNil)) (mD (.int 1))) (mVar 4))))))
def m_trimmed_3 : MS := (mAug 3 (mD (.int 1)) (ixM0 fun i j => .int (i + j)))
def m_trimmed_4 : MT := (mAnd (mVal (m2 iltM (mVar 3) (mVar 2))) (mVal (m2 (eqM false) (m2 ixM (mVar 0) (mVar 3)) (m2 ixM (mVar 1) (mVar 3)))))
def m_trimmed : MS := (mSeq (mAsg (mB minM (mCons (mB lenM (mCons (mVar 0) mNil)) (mCons (mB lenM (mCons (mVar 1) mNil)) mNil))) (mNm 2)) (mSeq (mAsg (mD (.int 0)) (mNm 3)) (mSeq (mWhile m_trimmed_4 m_trimmed_3) (mSeq (mAsg (mD (.int 0)) (mNm 4)) (mSeq (mWhile m_trimmed_2 m_trimmed_1) (mRet (mTup (mCons (mB (listM true) (mCons (mSl false (mVar 0) (mSome (mVar 3)) (mSome (m2 subM (mB lenM (mCons (mVar 0) mNil)) (mVar 4)))) mNil)) (mCons (mB (listM true) (mCons (mSl false (mVar 1) (mSome (mVar 3)) (mSome (m2 subM (mB lenM (mCons (mVar 1) mNil)) (mVar 4)))) mNil)) mNil)))))))))
def p_trimmed : PF := defP 2 5 true m_trimmed
def m__law_cut_1 : MS := (mPar 0 1 (mCons (mSl false (mVar 0) mNone (mSome (mD (.int (-1))))) (mCons (mSl false (mVar 1) mNone (mSome (mD (.int (-1))))) mNil)))
def m__law_cut_2 : MT := (mAnd (mVal (m2 (eqM true) (mVar 0) (mLstV mNil))) (mAnd (mVal (m2 (eqM true) (mVar 1) (mLstV mNil))) (mVal (m2 (eqM false) (m2 ixM (mVar 0) (mD (.int (-1)))) (m2 ixM (mVar 1) (mD (.int (-1))))))))
def m__law_cut_3 : MS := (mPar 0 1 (mCons (mSl false (mVar 0) (mSome (mD (.int 1))) mNone) (mCons (mSl false (mVar 1) (mSome (mD (.int 1))) mNone) mNil)))
def m__law_cut_4 : MT := (mAnd (mVal (m2 (eqM true) (mVar 0) (mLstV mNil))) (mAnd (mVal (m2 (eqM true) (mVar 1) (mLstV mNil))) (mVal (m2 (eqM false) (m2 ixM (mVar 0) (mD (.int 0))) (m2 ixM (mVar 1) (mD (.int 0)))))))
def m__law_cut : MS := (mSeq (mWhile m__law_cut_4 m__law_cut_3) (mSeq (mWhile m__law_cut_2 m__law_cut_1) (mRet (mTup (mCons (mVar 0) (mCons (mVar 1) mNil))))))
def p__law_cut : PF := defP 2 2 false m__law_cut
def m__law_pick : MS := (mSeq (mIf (mVal (m2 igtM (m2 ixM (mVar 0) (mD (.int 0))) (mD (.int 0)))) (mSeq (mAsg (m2 modM (mB intM (mCons (m2 ixM (mVar 0) (mD (.int 0))) mNil)) (mVar 1)) (mNm 3)) (mSeq (mSetIx (mVar 0) (mD (.int 0)) (m2 fdivM (m2 ixM (mVar 0) (mD (.int 0))) (mVar 1))) (mRet (mVar 3)))) mNext) (mSeq (mSetIx (mVar 0) (mD (.int 2)) (m2 addV (m2 ixM (mVar 0) (mD (.int 2))) (mD (.int 1)))) (mSeq (mAsg (m2 modM (mB intM (mCons (m2 powM (m2 addV (m2 ixM (mVar 0) (mD (.int 1))) (m2 imulM (mD (.int 1500450271)) (m2 ixM (mVar 0) (mD (.int 2))))) (mD (.int 3))) mNil)) (mD (.int 2305843009213693921))) (mNm 2)) (mSeq (mAsg (m2 modM (mB intM (mCons (m2 powM (m2 addV (mVar 2) (m2 imulM (mD (.int 28657)) (m2 ixM (mVar 0) (mD (.int 2))))) (mD (.int 2))) mNil)) (mD (.int 2305843009213693951))) (mNm 2)) (mRet (m2 modM (mB intM (mCons (m2 fdivM (mVar 2) (mD (.int 1024))) mNil)) (mVar 1)))))))
def p__law_pick : PF := defP 2 4 false m__law_pick
def m__law_of : MS := (mRet (m2 ixM (mVar 1) (mCall [false, true] [] p__law_pick (mCons (mVar 0) (mCons (mB lenM (mCons (mVar 1) mNil)) mNil)))))
def p__law_of : PF := defP 2 2 false m__law_of
def m__law_lists_1 : ME := (mCall [false, true] [] p__law_of (mCons (mVar 0) (mCons (mSl false (mVar 1) mNone (mSome (mD (.int 3)))) mNil)))
def m__law_lists_2 : ME := (mCall [false, true] [] p__law_of (mCons (mVar 0) (mCons (mSl false (mVar 1) mNone (mSome (mD (.int 3)))) mNil)))
def m__law_lists_3 : ME := (mCall [false, true] [] p__law_of (mCons (mVar 0) (mCons (mVar 1) mNil)))
def m__law_lists_4 : ME := (mCall [false, true] [] p__law_of (mCons (mVar 0) (mCons (mVar 1) mNil)))
def m__law_lists : MS := (mSeq (mAsg (mD (.lst [.tup [.str [97], .int 1], .tup [.str [97], .str [121, 101, 115]], .tup [.str [98], .non], .tup [.str [99], .tup [.str [120], .str [121]]], .str [97], .int 0])) (mNm 1)) (mSeq (mAsg (mFzV (mLc false (mR1 (mCons (mCall [false, true] [] p__law_pick (mCons (mVar 0) (mCons (mD (.int 4)) mNil))) mNil)) (mNm 6) mYes m__law_lists_4 [6])) (mNm 2)) (mSeq (mAsg (mFzV (mLc false (mR1 (mCons (mCall [false, true] [] p__law_pick (mCons (mVar 0) (mCons (mD (.int 4)) mNil))) mNil)) (mNm 6) mYes m__law_lists_3 [6])) (mNm 3)) (mSeq (mAsg (mFzV (mLc false (mR1 (mCons (mCall [false, true] [] p__law_pick (mCons (mVar 0) (mCons (mD (.int 4)) mNil))) mNil)) (mNm 6) mYes m__law_lists_2 [6])) (mNm 4)) (mSeq (mAsg (mFzV (mLc false (mR1 (mCons (mCall [false, true] [] p__law_pick (mCons (mVar 0) (mCons (mD (.int 4)) mNil))) mNil)) (mNm 6) mYes m__law_lists_1 [6])) (mNm 5)) (mRet (mTup (mCons (m2 addV (m2 addV (mVar 2) (mVar 4)) (mVar 3)) (mCons (m2 addV (m2 addV (mVar 2) (mVar 5)) (mVar 3)) mNil)))))))))
def p__law_lists : PF := defP 1 7 false m__law_lists
def m__law_pool : MS := (mSeq (mAsg (mIfE (mVal (m2 iltM (mVar 1) (mB lenM (mCons (mVar 0) mNil)))) (m2 ixM (mVar 0) (mVar 1)) (m2 modM (mB intM (mCons (mB sumM (mCons (mSl false (mVar 0) mNone (mSome (mD (.int 1)))) mNil)) mNil)) (mD (.int 1000003)))) (mNm 2)) (mSeq (mAsg (mIfE (mVal (m2 igeM (mB absM (mCons (mVar 2) mNil)) (mD (.int 1000000000000000000)))) (mB absM (mCons (mVar 2) mNil)) (mD (.int 0))) (mNm 3)) (mRet (mLst (mCons (mVar 3) (mCons (m2 addV (m2 addV (m2 addV (m2 imulM (m2 modM (mB intM (mCons (mVar 2) mNil)) (mD (.int 2305843009213693951))) (mD (.int 7))) (m2 imulM (mD (.int 6689)) (mVar 1))) (mD (.int 631784))) (mD (.int 91))) (mCons (mD (.int 0)) mNil)))))))
def p__law_pool : PF := defP 2 4 true m__law_pool
def m_Slip__DOT____eq__ : MS := (mRet (mAndV (mIsC an_Slip (mVar 1)) (mAndV (m2 (eqM false) (mFld okF 393 (mVar 0)) (mFld okF 393 (mVar 1))) (mAndV (m2 (eqM false) (mFld okF 357 (mVar 0)) (mFld okF 357 (mVar 1))) (m2 (eqM false) (mFld okF 447 (mVar 0)) (mFld okF 447 (mVar 1)))))))
def p_Slip__DOT____eq__ : PF := defP 2 2 false m_Slip__DOT____eq__
def m_made_of_1 : MS := (mIf (mVal (m2 (inM true) (mVar 2) (mVar 1))) (mRet (mD (.bl false))) mNext)
def m_made_of : MS := (mSeq (mIf (mOr (mNot (mTru (isiM "str" (mVar 0)))) (mNot (mVal (mChain ileM ileM (mD (.int 1)) (mB lenM (mCons (mVar 0) mNil)) (mD (.int 12)))))) (mRet (mD (.bl false))) mNext) (mSeq (mFor (mSeqI (mVar 0)) (mNm 2) m_made_of_1) (mRet (mD (.bl true)))))
def p_made_of : PF := defP 2 3 false m_made_of
def m_is_numeral : MS := (mRet (mAndV (mCall [true, true] [] p_made_of (mCons (mVar 0) (mCons (mD (.str digS)) mNil))) (mOrV (m2 (eqM false) (mVar 0) (mD (.str [48]))) (m2 (eqM true) (m2 ixM (mVar 0) (mD (.int 0))) (mD (.str [48]))))))
def p_is_numeral : PF := defP 1 1 false m_is_numeral
def m_is_word : MS := (mRet (mCall [true, true] [] p_made_of (mCons (mVar 0) (mCons (mD (.str azS)) mNil))))
def p_is_word : PF := defP 1 1 false m_is_word
def m_sort_of : MS := (mSeq (mIf (mNot (mTru (isiM "str" (mVar 0)))) (mRet (mD .non)) mNext) (mSeq (mIf (mVal (m2 (inM false) (mVar 0) (mD (.tup [.str [61], .str [59], .str [44], .str [91], .str [93]])))) (mRet (mVar 0)) mNext) (mSeq (mIf (mTru (mCall [true] [] p_is_word (mCons (mVar 0) mNil))) (mRet (mD (.str [119, 111, 114, 100]))) mNext) (mRet (mIfE (mTru (mCall [true] [] p_is_numeral (mCons (mVar 0) mNil))) (mD (.str [110, 117, 109, 98, 101, 114])) (mD .non))))))
def p_sort_of : PF := defP 1 1 false m_sort_of
def m_Slip__DOT____init__ : MS := (mSeq (mAsg (mAndV (isiM "str" (mVar 1)) (m2 (inM false) (mVar 1) (mD (.tup [.str [108, 101, 102, 116], .str [100, 111, 117, 98, 108, 101, 100], .str [115, 119, 97, 112, 112, 101, 100], .str [119, 114, 105, 116, 116, 101, 110]])))) (mNm 4)) (mSeq (mAsg (mAndV (isiM "int" (mVar 2)) (mAndV (mNotV (isiM "bool" (mVar 2))) (m2 igeM (mVar 2) (mD (.int 0))))) (mNm 5)) (mSeq (mIf (mOr (mNot (mTru (mVar 4))) (mNot (mTru (mVar 5)))) (mRaise 105 [357] (mCons (mVar 2) mNil)) mNext) (mSeq (mIf (mAnd (mVal (m2 (eqM false) (mVar 1) (mD (.str [119, 114, 105, 116, 116, 101, 110])))) (mVal (isNM false (mCall [true] [] p_sort_of (mCons (mVar 3) mNil))))) (mRaise 105 [357] (mCons (mVar 2) mNil)) mNext) (mSeq (mIf (mAnd (mVal (m2 (eqM true) (mVar 1) (mD (.str [119, 114, 105, 116, 116, 101, 110])))) (mVal (isNM true (mVar 3)))) (mRaise 105 [357] (mCons (mVar 2) mNil)) mNext) (mSeq (mSetF okF 393 (mVar 0) (mVar 1)) (mSeq (mSetF okF 357 (mVar 0) (mVar 2)) (mSetF okF 447 (mVar 0) (mVar 3)))))))))
def p_Slip__DOT____init__ : PF := defP 4 6 false m_Slip__DOT____init__
def m_Slip__DOT__fits : MS := (mSeq (mIf (mVal (m2 igeM (mFld okF 357 (mVar 0)) (mB lenM (mCons (mVar 1) mNil)))) (mRet (mD (.bl false))) mNext) (mSeq (mIf (mVal (m2 (eqM false) (mFld okF 393 (mVar 0)) (mD (.str [115, 119, 97, 112, 112, 101, 100])))) (mRet (mAndV (m2 iltM (m2 addV (mFld okF 357 (mVar 0)) (mD (.int 1))) (mB lenM (mCons (mVar 1) mNil))) (m2 (eqM true) (m2 ixM (mVar 1) (mFld okF 357 (mVar 0))) (m2 ixM (mVar 1) (m2 addV (mFld okF 357 (mVar 0)) (mD (.int 1))))))) mNext) (mRet (mOrV (m2 (eqM true) (mFld okF 393 (mVar 0)) (mD (.str [119, 114, 105, 116, 116, 101, 110]))) (m2 (eqM true) (m2 ixM (mVar 1) (mFld okF 357 (mVar 0))) (mFld okF 447 (mVar 0)))))))
def p_Slip__DOT__fits : PF := defP 2 2 false m_Slip__DOT__fits
def tab_fits : MTab := tab1 262 [true] [] p_Slip__DOT__fits
def m_Slip__DOT____call__ : MS := (mSeq (mIf (mNot (mTru (mMeth okF tab_fits true (mVar 0) (mCons (mVar 1) mNil)))) (mRaise 105 [357] (mCons (mFld okF 357 (mVar 0)) mNil)) mNext) (mSeq (mAsg (mB (listM true) (mCons (mVar 1) mNil)) (mNm 2)) (mSeq (mAsg (mFld okF 357 (mVar 0)) (mNm 3)) (mSeq (mIf (mVal (m2 (eqM false) (mFld okF 393 (mVar 0)) (mD (.str [108, 101, 102, 116])))) (mDel (mVar 2) (mVar 3)) (mIf (mVal (m2 (eqM false) (mFld okF 393 (mVar 0)) (mD (.str [100, 111, 117, 98, 108, 101, 100])))) (mDrop (mM tbLs insM (mVar 2) (mCons (mVar 3) (mCons (m2 ixM (mVar 2) (mVar 3)) mNil)))) (mIf (mVal (m2 (eqM false) (mFld okF 393 (mVar 0)) (mD (.str [115, 119, 97, 112, 112, 101, 100])))) (mAsg (mTup (mCons (m2 ixM (mVar 2) (m2 addV (mVar 3) (mD (.int 1)))) (mCons (m2 ixM (mVar 2) (mVar 3)) mNil))) (mTp 2 (mgCons (mSub (mVar 2) (mVar 3)) (mgCons (mSub (mVar 2) (m2 addV (mVar 3) (mD (.int 1)))) mgNil)))) (mSetIx (mVar 2) (mVar 3) (mFld okF 447 (mVar 0)))))) (mRet (mVar 2))))))
def p_Slip__DOT____call__ : PF := defP 2 4 true m_Slip__DOT____call__
def tab___call__ : MTab := tab1 262 [true] [] p_Slip__DOT____call__
def h__law_done_1 : Nat → List (Nat × D) → MS := fun c fs => (mRet (mTup (mCons (mFd [105] c fs 357) mNil)))
def m__law_done_1 : MS := (mRet (mFzV (mCallI tab___call__ true (mVar 0) (mCons (mVar 1) mNil))))
def m__law_done : MS := (mTryAs 2 isA_BadSlip m__law_done_1 h__law_done_1)
def p__law_done : PF := defP 2 3 false m__law_done
def m__law_due : MS := (mSeq (mPar 2 3 (mCons (m2 ixM (mVar 0) (mD (.int 0))) (mCons (m2 ixM (mVar 0) (mD (.int 1))) mNil))) (mSeq (mIf (mVal (m2 (eqM false) (mVar 2) (mD (.str [108, 101, 102, 116])))) (mRet (m2 addV (mSl false (mVar 1) mNone (mSome (mVar 3))) (mSl false (mVar 1) (mSome (m2 addV (mVar 3) (mD (.int 1)))) mNone))) mNext) (mSeq (mIf (mVal (m2 (eqM false) (mVar 2) (mD (.str [100, 111, 117, 98, 108, 101, 100])))) (mRet (m2 addV (m2 addV (mSl false (mVar 1) mNone (mSome (mVar 3))) (mLstV (mCons (m2 ixM (mVar 1) (mVar 3)) (mCons (m2 ixM (mVar 1) (mVar 3)) mNil)))) (mSl false (mVar 1) (mSome (m2 addV (mVar 3) (mD (.int 1)))) mNone))) mNext) (mSeq (mIf (mVal (m2 (eqM false) (mVar 2) (mD (.str [115, 119, 97, 112, 112, 101, 100])))) (mRet (m2 addV (m2 addV (mSl false (mVar 1) mNone (mSome (mVar 3))) (mLstV (mCons (m2 ixM (mVar 1) (m2 addV (mVar 3) (mD (.int 1)))) (mCons (m2 ixM (mVar 1) (mVar 3)) mNil)))) (mSl false (mVar 1) (mSome (m2 addV (mVar 3) (mD (.int 2)))) mNone))) mNext) (mRet (m2 addV (m2 addV (mSl false (mVar 1) mNone (mSome (mVar 3))) (mLstV (mCons (m2 ixM (mVar 0) (mD (.int 2))) mNil))) (mSl false (mVar 1) (mSome (m2 addV (mVar 3) (mD (.int 1)))) mNone)))))))
def p__law_due : PF := defP 2 4 false m__law_due
def m__law_fits : MS := (mSeq (mPar 2 3 (mCons (m2 ixM (mVar 0) (mD (.int 0))) (mCons (m2 ixM (mVar 0) (mD (.int 1))) mNil))) (mSeq (mIf (mVal (m2 igeM (mVar 3) (mB lenM (mCons (mVar 1) mNil)))) (mRet (mD (.bl false))) mNext) (mSeq (mIf (mVal (m2 (eqM false) (mVar 2) (mD (.str [115, 119, 97, 112, 112, 101, 100])))) (mRet (mAndV (m2 iltM (m2 addV (mVar 3) (mD (.int 1))) (mB lenM (mCons (mVar 1) mNil))) (m2 (eqM true) (m2 ixM (mVar 1) (mVar 3)) (m2 ixM (mVar 1) (m2 addV (mVar 3) (mD (.int 1))))))) mNext) (mRet (mOrV (m2 (eqM true) (mVar 2) (mD (.str [119, 114, 105, 116, 116, 101, 110]))) (m2 (eqM true) (m2 ixM (mVar 1) (mVar 3)) (m2 ixM (mVar 0) (mD (.int 2)))))))))
def p__law_fits : PF := defP 2 4 false m__law_fits
def m__law_word_1 : ME := (m2 addV (mVar 5) (mVar 8))
def m__law_word_2 : MT := (mVal (m2 (inM true) (mVar 7) (mVar 1)))
def m__law_word_3 : ME := (mVar 7)
def m__law_word_4 : ME := (m2 ixM (mVar 2) (mCall [false, true] [] p__law_pick (mCons (mVar 0) (mCons (mVar 4) mNil))))
def m__law_word : MS := (mSeq (mAsg (mD (.str azS)) (mNm 2)) (mSeq (mAsg (m2 ixM (mD (.lst [.int 1, .int 1, .int 1, .int 2, .int 3, .int 11])) (mCall [false, true] [] p__law_pick (mCons (mVar 0) (mCons (mD (.int 6)) mNil)))) (mNm 3)) (mSeq (mAsg (mIfE (mVal (m2 (eqM false) (mVar 3) (mD (.int 1)))) (mD (.int 4)) (mD (.int 26))) (mNm 4)) (mSeq (mAsg (mM tbStr joinM (mD (.str [])) (mCons (mFzV (mLc false (mR1 (mCons (mVar 3) mNil)) (mNm 6) mYes m__law_word_4 [6])) mNil)) (mNm 5)) (mRet (m2 ixM (mFzV (mLc false (mSeqI (m2 addV (mLstV (mCons (mVar 5) mNil)) (mFzV (mLc false (mSeqI (mVar 2)) (mNm 8) mYes m__law_word_1 [8])))) (mNm 7) m__law_word_2 m__law_word_3 [7])) (mD (.int 0))))))))
def p__law_word : PF := defP 2 9 false m__law_word
def m__law_words_1 : MS := (mDrop (mM tbLs appM (mVar 3) (mCons (mCall [false, true] [] p__law_word (mCons (mVar 0) (mCons (m2 addV (mVar 2) (mVar 3)) mNil))) mNil)))
def m__law_words : MS := (mSeq (mAsg (mLst mNil) (mNm 3)) (mSeq (mFor (mR1 (mCons (mVar 1) mNil)) (mNm 4) m__law_words_1) (mRet (mVar 3))))
def p__law_words : PF := defP 3 5 false m__law_words
def m__law_tokens_1 : ME := (mCall [false, true] [] p__law_of (mCons (mVar 0) (mCons (mVar 2) mNil)))
def m__law_tokens : MS := (mSeq (mAsg (m2 addV (mD (.lst [.str [61], .str [59], .str [44], .str [91], .str [93], .str [97], .str [98], .str [121, 101, 115], .str [48], .str [49, 50]])) (mCall [false, true, true] [] p__law_words (mCons (mVar 0) (mCons (mD (.int 2)) (mCons (mLstV mNil) mNil))))) (mNm 2)) (mSeq (mIf (mVal (m2 (eqM false) (mCall [false, true] [] p__law_pick (mCons (mVar 0) (mCons (mD (.int 2)) mNil))) (mD (.int 0)))) (mAsg (mLstV (mCons (mCall [false, true] [] p__law_of (mCons (mVar 0) (mCons (mVar 2) mNil))) (mCons (mCall [false, true] [] p__law_of (mCons (mVar 0) (mCons (mD (.lst [.str [97], .str [98], .str [61], .str [59], .str [48]])) mNil))) mNil))) (mNm 2)) mNext) (mRet (mFzV (mLc false (mR1 (mCons (mCall [false, true] [] p__law_pick (mCons (mVar 0) (mCons (m2 addV (mVar 1) (mD (.int 1))) mNil))) mNil)) (mNm 3) mYes m__law_tokens_1 [3])))))
def p__law_tokens : PF := defP 2 4 false m__law_tokens
def h__law_made_1 : Nat → List (Nat × D) → MS := fun c fs => (mRet (mTup (mCons (mFd [105] c fs 357) mNil)))
def m__law_made_1 : MS := (mRet (mFzV (mNew 262 [true, true, true] [] p_Slip__DOT____init__ (mCons (m2 ixM (mVar 0) (mD (.int 0))) (mCons (m2 ixM (mVar 0) (mD (.int 1))) (mCons (m2 ixM (mVar 0) (mD (.int 2))) mNil))))))
def m__law_made : MS := (mTryAs 1 isA_BadSlip m__law_made_1 h__law_made_1)
def p__law_made : PF := defP 1 2 false m__law_made
def m__law_parts : MS := (mSeq (mAsg (mCall [false, true] [] p__law_of (mCons (mVar 0) (mCons (mD (.lst [.str [108, 101, 102, 116], .str [100, 111, 117, 98, 108, 101, 100], .str [115, 119, 97, 112, 112, 101, 100], .str [119, 114, 105, 116, 116, 101, 110], .str [119, 114, 105, 116, 116, 101, 110]])) mNil))) (mNm 1)) (mSeq (mAsg (mCall [false, true] [] p__law_pick (mCons (mVar 0) (mCons (m2 ixM (mD (.lst [.int 4, .int 8, .int 16])) (mCall [false, true] [] p__law_pick (mCons (mVar 0) (mCons (mD (.int 3)) mNil)))) mNil))) (mNm 2)) (mSeq (mAsg (mIfE (mVal (m2 (eqM false) (mVar 1) (mD (.str [119, 114, 105, 116, 116, 101, 110])))) (mCall [false, true] [] p__law_of (mCons (mVar 0) (mCons (mD (.lst [.str [61], .str [59], .str [44], .str [97], .str [98], .str [49, 50], .str [48]])) mNil))) (mD .non)) (mNm 3)) (mSeq (mAsg (mCall [false, true] [] p__law_pick (mCons (mVar 0) (mCons (mD (.int 8)) mNil))) (mNm 4)) (mSeq (mIf (mVal (m2 (eqM false) (mVar 4) (mD (.int 0)))) (mRet (mTup (mCons (mCall [false, true] [] p__law_of (mCons (mVar 0) (mCons (mD (.lst [.str [119, 111, 114, 100], .str [76, 101, 102, 116], .str [], .non, .int 1, .lst [.str [108, 101, 102, 116]]])) mNil))) (mCons (mVar 2) (mCons (mVar 3) (mCons (mD (.bl false)) mNil)))))) mNext) (mSeq (mIf (mVal (m2 (eqM false) (mVar 4) (mD (.int 1)))) (mRet (mTup (mCons (mVar 1) (mCons (mCall [false, true] [] p__law_of (mCons (mVar 0) (mCons (mD (.lst [.int (-1), .bl true, .bl false, .non, .str [48], .tup [.int 1], .int (-100000000000000000000)])) mNil))) (mCons (mVar 3) (mCons (mD (.bl false)) mNil)))))) mNext) (mSeq (mIf (mAnd (mVal (m2 (eqM false) (mVar 4) (mD (.int 2)))) (mVal (m2 (eqM false) (mVar 1) (mD (.str [119, 114, 105, 116, 116, 101, 110]))))) (mRet (mTup (mCons (mVar 1) (mCons (mVar 2) (mCons (mCall [false, true] [] p__law_of (mCons (mVar 0) (mCons (mD (.lst [.non, .str [], .str [65], .str [97, 32, 98], .int 7, .str [48, 55], .bl true, .str [97, 97, 97, 97, 97, 97, 97, 97, 97, 97, 97, 97, 97], .lst [.str [97]]])) mNil))) (mCons (mD (.bl false)) mNil)))))) mNext) (mSeq (mIf (mVal (m2 (eqM false) (mVar 4) (mD (.int 2)))) (mRet (mTup (mCons (mVar 1) (mCons (mVar 2) (mCons (mCall [false, true] [] p__law_of (mCons (mVar 0) (mCons (mD (.lst [.str [97], .str [], .int 0, .bl false, .str [59]])) mNil))) (mCons (mD (.bl false)) mNil)))))) mNext) (mRet (mTup (mCons (mVar 1) (mCons (mVar 2) (mCons (mVar 3) (mCons (mD (.bl true)) mNil))))))))))))))
def p__law_parts : PF := defP 1 5 false m__law_parts
def tab___eq__ : MTab := tab1 262 [true] [] p_Slip__DOT____eq__
def m_law_1 : MS := (mGo [8] (mSeq (mAsg (mCall [false] [] p__law_lists (mCons (mCall [true, true] [] p__law_pool (mCons (mVar 0) (mCons (mVar 2) mNil))) mNil)) (mTp 2 (mgCons (mNm 15) (mgCons (mNm 16) mgNil)))) (mSeq (mAsg (mLstV (mCons (mB (listM false) (mCons (mVar 15) mNil)) (mCons (mB (listM false) (mCons (mVar 16) mNil)) mNil))) (mNm 7)) (mSeq (mAsg (mCall [true, true] [] p_trimmed (mCons (mVar 15) (mCons (mVar 16) mNil))) (mNm 8)) (mSeq (mIf (mOr (mNot (mTru (isiM "tuple" (mVar 8)))) (mOr (mVal (m2 (eqM true) (mB reprM (mCons (mVar 8) mNil)) (mB reprM (mCons (mCall [true, true] [] p__law_cut (mCons (m2 ixM (mVar 7) (mD (.int 0))) (mCons (m2 ixM (mVar 7) (mD (.int 1))) mNil))) mNil)))) (mVal (m2 (eqM true) (mLstV (mCons (mVar 15) (mCons (mVar 16) mNil))) (mVar 7))))) (mRet (mD (.bl false))) mNext) (mSeq (mDrop (mM tbLs appM (m2 ixOM (mVar 8) (mD (.int 0))) (mCons (mD (.str [120])) mNil))) (mIf (mOr (mVal (m2 (eqM true) (mLstV (mCons (mVar 15) (mCons (mVar 16) mNil))) (mVar 7))) (mVal (m2 (eqM true) (mB reprM (mCons (mFzV (mCall [true, true] [] p_trimmed (mCons (mVar 16) (mCons (mVar 15) mNil)))) mNil)) (mB reprM (mCons (mCall [true, true] [] p__law_cut (mCons (m2 ixM (mVar 7) (mD (.int 1))) (mCons (m2 ixM (mVar 7) (mD (.int 0))) mNil))) mNil))))) (mRet (mD (.bl false))) mNext)))))))
def m_law_2 : MS := (mIf (mOr (mVal (m2 (eqM true) (m2 (eqIM tab___eq__ sub_eq true) (mVar 5) (mVar 13)) (m2 (eqM false) (mVar 4) (mVar 14)))) (mOr (mVal (m2 (eqIM tab___eq__ sub_eq true) (mVar 5) (mVar 4))) (mNot (mVal (m2 (eqIM tab___eq__ sub_eq true) (mVar 5) (mFzV (mNew 262 [true, true, true] [] p_Slip__DOT____init__ (mCons (m2 ixM (mVar 4) (mD (.int 0))) (mCons (m2 ixM (mVar 4) (mD (.int 1))) (mCons (m2 ixM (mVar 4) (mD (.int 2))) mNil)))))))))) (mRet (mD (.bl false))) mNext)
def m_law_3 : MS := (mFor (mSeqI (mFrz (mVar 1))) (mTp 2 (mgCons (mNm 13) (mgCons (mNm 14) mgNil))) m_law_2)
def m_law_4 : MS := (mSeq (mAsg (mCall [false, true] [] p__law_tokens (mCons (mVar 3) (mCons (mD (.int 12)) mNil))) (mNm 9)) (mSeq (mAsg (mB (listM false) (mCons (mVar 9) mNil)) (mNm 10)) (mSeq (mAsg (mCall [true, true] [] p__law_fits (mCons (mVar 4) (mCons (mVar 10) mNil))) (mNm 11)) (mSeq (mAsg (mIfE (mTru (mVar 11)) (mCall [true, true] [] p__law_due (mCons (mVar 4) (mCons (mVar 10) mNil))) (mTup (mCons (m2 ixM (mVar 4) (mD (.int 1))) mNil))) (mNm 12)) (mSeq (mIf (mOr (mVal (m2 (eqM true) (mB reprM (mCons (mMeth okF tab_fits true (mVar 5) (mCons (mVar 9) mNil)) mNil)) (mB reprM (mCons (mVar 11) mNil)))) (mOr (mVal (m2 (eqM true) (mB reprM (mCons (mCall [true, true] [] p__law_done (mCons (mVar 5) (mCons (mVar 9) mNil))) mNil)) (mB reprM (mCons (mVar 12) mNil)))) (mVal (m2 (eqM true) (mVar 9) (mVar 10))))) (mRet (mD (.bl false))) mNext) (mIf (mOr (mVal (m2 (eqM true) (mB reprM (mCons (mMeth okF tab_fits true (mVar 5) (mCons (mB tupleM (mCons (mVar 9) mNil)) mNil)) mNil)) (mB reprM (mCons (mVar 11) mNil)))) (mVal (m2 (eqM true) (mB reprM (mCons (mCall [true, true] [] p__law_done (mCons (mVar 5) (mCons (mB tupleM (mCons (mVar 9) mNil)) mNil))) mNil)) (mB reprM (mCons (mVar 12) mNil))))) (mRet (mD (.bl false))) mNext))))))
def m_law_5 : MS := (mGo [3] (mSeq (mAsg (mCall [true, true] [] p__law_pool (mCons (mVar 0) (mCons (mVar 2) mNil))) (mNm 3)) (mSeq (mAsg (mCall [false] [] p__law_parts (mCons (mVar 3) mNil)) (mNm 4)) (mSeq (mAsg (mCall [true] [] p__law_made (mCons (mVar 4) mNil)) (mNm 5)) (mSeq (mIf (mNot (mTru (m2 ixM (mVar 4) (mD (.int 3))))) (mSeq (mIf (mVal (m2 (eqM true) (mB reprM (mCons (mVar 5) mNil)) (mB reprM (mCons (mTup (mCons (m2 ixM (mVar 4) (mD (.int 1))) mNil)) mNil)))) (mRet (mD (.bl false))) mNext) mCont) mNext) (mSeq (mIf (mOr (mNot (mTru (mIsC an_Slip (mVar 5)))) (mVal (m2 (eqM true) (mB reprM (mCons (mLstV (mCons (mFld okF 393 (mVar 5)) (mCons (mFld okF 357 (mVar 5)) (mCons (mFld okF 447 (mVar 5)) mNil)))) mNil)) (mB reprM (mCons (mLstV (mCons (m2 ixM (mVar 4) (mD (.int 0))) (mCons (m2 ixM (mVar 4) (mD (.int 1))) (mCons (m2 ixM (mVar 4) (mD (.int 2))) mNil)))) mNil))))) (mRet (mD (.bl false))) mNext) (mSeq (mFor (mR1 (mCons (mD (.int 3)) mNil)) (mNm 6) m_law_4) (mDrop (mM tbLs appM (mVar 1) (mCons (mTup (mCons (mVar 5) (mCons (mVar 4) mNil))) mNil))))))))))
def m_law : MS := (mSeq (mAsg (mLst mNil) (mNm 1)) (mSeq (mFor (mR1 (mCons (mD (.int 4)) mNil)) (mNm 2) m_law_5) (mSeq (mFor (mSeqI (mFrz (mVar 1))) (mTp 2 (mgCons (mNm 5) (mgCons (mNm 4) mgNil))) m_law_3) (mSeq (mFor (mR2 (mCons (mD (.int 4)) (mCons (mD (.int 7)) mNil))) (mNm 2) m_law_1) (mRet (mD (.bl true)))))))
def p_law : PF := defP 1 17 false m_law
end LW
end
section
set_option Elab.async false
set_option linter.all false
set_option autoImplicit false
set_option maxRecDepth 100000
set_option maxHeartbeats 2000000
namespace LW
open PySem PySem.Spec PyProof.Rows DL
open L2 hiding St start
/-! pools and picks -/
theorem pick_ok {m : Int} (h0 : 0 < m) (h1 : m < 1000000) : DrawF p__law_pick [.int m] 1 fun d => ∃ r : Nat, d = .int (r : Nat) ∧ (r : Int) < m := DrawF.of fun b pl hp hb => by
  obtain ⟨g, s, n, rfl, a1, a2, a3, a4, a5⟩ := hp
  unfold p__law_pick
  refine of_def rfl ?_
  simp -implicitDefEqProofs [m__law_pick, b1, atZ, plN, finV_v]
  have hx : ∀ k : Int, 0 < k → ∀ z : Int, ∃ r : Nat, z % k = r ∧ (r : Int) < k := fun k hk z => by
    have h1 := Int.emod_nonneg z (show k ≠ 0 by omega)
    have h2 := Int.emod_lt_of_pos z hk
    exact ⟨(z % k).toNat, by omega, by omega⟩
  split
  · exact ⟨h0, ⟨h0, by omega⟩, hx m h0 g, g / m, s, n, rfl, Int.ediv_nonneg a1 (by omega), a2, a3, a4, by omega⟩
  · have h2 := Int.emod_nonneg ((s + 1500450271 * (n + 1)) ^ 3) (show (2305843009213693921 : Int) ≠ 0 by decide)
    have h3 := Int.emod_lt_of_pos ((s + 1500450271 * (n + 1)) ^ 3) (show (0 : Int) < 2305843009213693921 by decide)
    refine ⟨by omega, by omega, h0, hx m h0 _, g, s, n + 1, rfl, a1, a2, a3, by omega, by omega⟩
/-- the numbers below 64 places: the pool of one -/
theorem pool_ok (ns : List Int) (k : Nat) (hk : k ≤ 100) : ∃ pl, Pl 0 pl ∧ p__law_pool [.val (.lst (ns.map .int)), .val (.int (k : Nat))] [] = .ok (.ob 0) [.lst pl] := by
  have h : (p__law_pool [.val (.lst (ns.map .int)), .val (.int (k : Nat))] []).post (fun r ob => ∃ pl, Pl 0 pl ∧ r = .ob 0 ∧ ob = [.lst pl]) fun _ _ => False := by
    refine of_def rfl ?_
    have key : ∀ cell A : Int, 0 ≤ A → Pl 0 [.int A, .int (cell % 2305843009213693951 * 7 + 6689 * (k : Nat) + 631784 + 91), .int 0] := fun cell A hA => by
      have h2 := Int.emod_nonneg cell (show (2305843009213693951 : Int) ≠ 0 by decide)
      have h3 := Int.emod_lt_of_pos cell (show (0 : Int) < 2305843009213693951 by decide)
      exact ⟨_, _, _, rfl, hA, by omega, by omega, by omega, by omega⟩
    by_cases hn : k < ns.length
    · have h1 : ns[k]? = some ns[k] := List.getElem?_eq_getElem hn
      simp -implicitDefEqProofs [m__law_pool, hn, b1, atZ_map]
      repeat' split
      all_goals first | exact key _ 0 (by decide) | (refine key _ _ ?_; omega)
    · have hs : cut (ns.map D.int) none (some 1) = (ns.take 1).map D.int := by
        have := cut_take (xs := ns.map D.int) (i := 1)
        rw [List.map_take]
        exact this
      have hi : intsOf (List.take 1 (List.map D.int ns)) = some (ns.take 1) := by rw [← List.map_take, intsOf_map]
      simp -implicitDefEqProofs [m__law_pool, hn, b1, hs, sumM, hi]
      repeat' split
      all_goals first | exact key _ 0 (by decide) | (refine key _ _ ?_; omega)
  cases hh : p__law_pool [.val (.lst (ns.map .int)), .val (.int (k : Nat))] [] with
  | ok r ob' =>
    rw [hh] at h
    obtain ⟨pl, h1, rfl, rfl⟩ := h
    exact ⟨pl, h1, rfl⟩
  | xc x ob' => rw [hh] at h; exact h.elim
  | no => rw [hh] at h; exact h.elim
theorem of_ok {ds : List D} (h0 : ds ≠ []) (h1 : ds.length < 1000000) : DrawF p__law_of [.lst ds] 1 (fun d => d ∈ ds) := DrawF.of fun b pl hp hb => by
  have h2 : 0 < ds.length := List.length_pos_iff.mpr h0
  refine of_def rfl ?_
  simp -implicitDefEqProofs [m__law_of]
  refine cal_draw1 hp (pick_ok (by omega) (by omega)) hb rfl fun d pl' ⟨r, e, hr⟩ hp' => ?_
  subst e
  have hr' : r < ds.length := by omega
  simp [atZ_nat, hr', hp']
end LW
end
section
set_option Elab.async false
set_option linter.all false
set_option autoImplicit false
set_option maxRecDepth 100000
set_option maxHeartbeats 4000000
namespace LW
open PySem PySem.Spec PyProof.Rows DL
open L2 hiding St start
/-! words -/
theorem az_get {r : Nat} (h : r < 26) : atZ azS (r : Nat) = some (97 + r) := by
  rw [atZ_nat]
  have : ∀ r : Fin 26, azS[r.val]? = some (97 + r.val) := by decide
  exact this ⟨r, h⟩
theorem many_get {r : Nat} (h : r < 6) : ∃ m : Nat, atZ [D.int 1, .int 1, .int 1, .int 2, .int 3, .int 11] (r : Nat) = some (.int (m : Nat)) ∧ 1 ≤ m ∧ m ≤ 11 := by
  rw [atZ_nat]
  match r, h with
  | 0, _ => exact ⟨1, rfl, by decide, by decide⟩
  | 1, _ => exact ⟨1, rfl, by decide, by decide⟩
  | 2, _ => exact ⟨1, rfl, by decide, by decide⟩
  | 3, _ => exact ⟨2, rfl, by decide, by decide⟩
  | 4, _ => exact ⟨3, rfl, by decide, by decide⟩
  | 5, _ => exact ⟨11, rfl, by decide, by decide⟩
  | n + 6, h => omega
/-- a small letter -/
def Sm (c : Nat) : Prop := 97 ≤ c ∧ c ≤ 122
def Sm1 (d : D) : Prop := ∃ c, d = .str [c] ∧ Sm c
theorem strs_sm : ∀ {ds : List D}, (∀ d ∈ ds, Sm1 d) → ∃ s : List Nat, strsD ds = some (s.map fun c => [c]) ∧ s.length = ds.length ∧ ∀ c ∈ s, Sm c
  | [], _ => ⟨[], rfl, rfl, fun c hc => (by cases hc)⟩
  | d :: ds, h => by
    obtain ⟨c, rfl, hc⟩ := h d List.mem_cons_self
    obtain ⟨s, h1, h2, h3⟩ := strs_sm fun x hx => h x (List.mem_cons_of_mem _ hx)
    refine ⟨c :: s, by rw [strsD, h1]; rfl, by simp [h2], ?_⟩
    intro x hx
    rcases List.mem_cons.mp hx with rfl | hx
    · exact hc
    · exact h3 x hx
theorem jn_sm : ∀ s : List Nat, jnS [] (s.map fun c => [c]) = s
  | [] => rfl
  | [c] => rfl
  | c :: d :: s => by
    have := jn_sm (d :: s)
    simp only [List.map_cons] at this ⊢
    rw [jnS, this]
    rfl
theorem len_sm (s : List Nat) : ((s.map fun c => [c]).map List.length).sum = s.length := by
  induction s with
  | nil => rfl
  | cons c s ih => simp only [List.map_cons, List.sum_cons, List.length_cons] at ih ⊢; rw [ih]; simp; omega
theorem nodup_len {α : Type} [DecidableEq α] : ∀ {L T : List α}, L.Nodup → (∀ x ∈ L, x ∈ T) → L.length ≤ T.length
  | [], _, _, _ => Nat.zero_le _
  | x :: L, T, hn, h => by
    rw [List.nodup_cons] at hn
    have hx := h x List.mem_cons_self
    have := nodup_len (L := L) (T := T.erase x) hn.2 fun y hy => (List.mem_erase_of_ne (fun e => hn.1 (by rw [← e]; exact hy))).mpr (h y (List.mem_cons_of_mem _ hy))
    rw [List.length_erase_of_mem hx] at this
    have : 0 < T.length := List.length_pos_of_mem hx
    rw [List.length_cons]
    omega
theorem memL_str {s : List Nat} : ∀ {ts : List D}, (∀ d ∈ ts, ∃ z, d = .str z) → (memL (.str s) ts = true ↔ .str s ∈ ts)
  | [], _ => by simp [memL]
  | d :: ts, h => by
    obtain ⟨z, rfl⟩ := h d List.mem_cons_self
    have ih := memL_str (s := s) fun x hx => h x (List.mem_cons_of_mem _ hx)
    rw [memL, Bool.or_eq_true, ih, List.mem_cons]
    constructor
    · rintro (g | g)
      · rw [D.eq, beq_iff_eq] at g
        exact .inl (by rw [g])
      · exact .inr g
    · rintro (g | g)
      · cases g
        exact .inl (by rw [D.eq]; simp)
      · exact .inr g
theorem all_strs : ∀ {ts : List D}, (∀ d ∈ ts, ∃ z, d = .str z) → ∃ zs : List (List Nat), ts = zs.map .str
  | [], _ => ⟨[], rfl⟩
  | d :: ts, h => by
    obtain ⟨z, rfl⟩ := h d List.mem_cons_self
    obtain ⟨zs, rfl⟩ := all_strs fun x hx => h x (List.mem_cons_of_mem _ hx)
    exact ⟨z :: zs, rfl⟩
/-- a word of at most n letters -/
def Wd (n : Nat) (d : D) : Prop := ∃ s, d = .str s ∧ s ≠ [] ∧ s.length ≤ n ∧ ∀ c ∈ s, Sm c
theorem Wd.str {n : Nat} {d : D} (h : Wd n d) : ∃ z, d = .str z := by
  obtain ⟨s, e, _⟩ := h
  exact ⟨s, e⟩
theorem Wd.ok {n : Nat} {d : D} (h : Wd n d) (hn : n ≤ 100) : okI d = true := by
  obtain ⟨s, rfl, _, h2, h3⟩ := h
  exact okI_str (fun c hc => Nat.lt_of_le_of_lt (h3 c hc).2 (by decide)) (Nat.le_trans h2 hn)
theorem letter_ok {sl : List (Option RV)} {w : Nat} (h2 : sl[2]? = some (some (.val (.str azS)))) (h0 : sl[0]? = some (some (.ob 0))) (h4 : sl[4]? = some (some (.val (.int (w : Nat))))) (hw0 : 0 < w) (hw : w ≤ 26) : DrawsE m__law_word_4 sl 0 1 Sm1 := DrawsE.of fun b pl ob h hp hb => by
  unfold m__law_word_4
  simp [ev_var h2, ev_var h0, ev_var h4]
  refine cal_draw1 hp (pick_ok (by omega) (by omega)) hb h fun d pl' ⟨r, e, hr⟩ hp' => ?_
  subst e
  rw [p_ixS, az_get (by omega)]
  refine ⟨by decide, _, rfl, ⟨97 + r, rfl, by unfold Sm; omega⟩, pl', hp', rfl⟩
/-- the first of a word and its 26 longer ones that is not taken -/
theorem first_free {s : List Nat} {taken : List D} (ht : ∀ d ∈ taken, ∃ z, d = .str z) (hl : taken.length < 27) :
    ∃ d rest, (((D.str s :: azS.map fun c => D.str (s ++ [c]))).filter fun d => !memL d taken) = d :: rest ∧ memL d taken = false ∧ (d = .str s ∨ ∃ c, Sm c ∧ d = .str (s ++ [c])) := by
  cases h : ((D.str s :: azS.map fun c => D.str (s ++ [c]))).filter fun d => !memL d taken with
  | cons d rest =>
    have hm : d ∈ ((D.str s :: azS.map fun c => D.str (s ++ [c]))).filter fun d => !memL d taken := by rw [h]; exact List.mem_cons_self
    rw [List.mem_filter] at hm
    refine ⟨d, rest, rfl, by simpa using hm.2, ?_⟩
    rcases List.mem_cons.mp hm.1 with e | e
    · exact .inl e
    · obtain ⟨c, hc, rfl⟩ := List.mem_map.mp e
      have : ∀ c ∈ azS, 97 ≤ c ∧ c ≤ 122 := by decide
      exact .inr ⟨c, this c hc, rfl⟩
  | nil =>
    exfalso
    rw [List.filter_eq_nil_iff] at h
    have hsub : ∀ x ∈ (s :: azS.map fun c => s ++ [c]), D.str x ∈ taken := fun x hx => by
      have hx' : D.str x ∈ (D.str s :: azS.map fun c => D.str (s ++ [c])) := by
        rcases List.mem_cons.mp hx with e | e
        · rw [e]; exact List.mem_cons_self
        · obtain ⟨c, hc, rfl⟩ := List.mem_map.mp e
          exact List.mem_cons_of_mem _ (List.mem_map.mpr ⟨c, hc, rfl⟩)
      have := h _ hx'
      rw [Bool.not_eq_true, Bool.not_eq_false'] at this
      exact (memL_str ht).mp this
    have hn : (s :: azS.map fun c => s ++ [c]).Nodup := by
      rw [List.nodup_cons]
      refine ⟨fun hm => ?_, ?_⟩
      · obtain ⟨c, _, e⟩ := List.mem_map.mp hm
        have := congrArg List.length e
        simp at this
      · have : azS.Nodup := by decide
        exact List.Pairwise.map _ (fun a b hab e => hab (by simpa using e)) this
    obtain ⟨ts, rfl⟩ := all_strs ht
    have := nodup_len (T := ts) hn fun x hx => by
      obtain ⟨z, hz, e⟩ := List.mem_map.mp (hsub x hx)
      cases e
      exact hz
    have e : (s :: azS.map fun c => s ++ [c]).length = 27 := by simp [azS]
    rw [List.length_map] at hl
    omega
theorem filt_map {t : RV → Bool} {ds : List D} {g : D → Bool} (h : ∀ d ∈ ds, t (.val d) = g d) {f : RV → D} (hf : ∀ d, f (.val d) = d) : ((ds.map RV.val).filter t).map f = ds.filter g := by
  induction ds with
  | nil => rfl
  | cons d ds ih =>
    have ih' := ih fun x hx => h x (List.mem_cons_of_mem _ hx)
    rw [List.map_cons, List.filter_cons, List.filter_cons, h d List.mem_cons_self]
    split
    · rw [List.map_cons, hf, ih']
    · exact ih'
def valD : RV → D
  | .val d => d
  | .ob _ => .non
theorem join_sm {ds : List D} {s : List Nat} {e : DL.Env} (h : strsD ds = some (s.map fun c => [c])) (hl : s.length ≤ 16777216) : joinM e (.val (.str [])) [.val (.lst ds)] = .ok (.val (.str s)) e := by
  unfold joinM
  rw [dv_v]
  dsimp only
  rw [sqD_l]
  dsimp only
  rw [h]
  dsimp only
  rw [len_sm, jn_sm, if_pos (by simpa using hl)]
theorem cand {s : List Nat} {r : RV} (hr : r = .val (.str s) ∨ ∃ c ∈ azS, RV.val (.str (s ++ [c])) = r) (hs : ∀ c ∈ s, Sm c) : ∃ d, r = .val d ∧ layB 59 d = true := by
  rcases hr with rfl | ⟨c, hc, rfl⟩
  · exact ⟨_, rfl, by rw [layB_str]; exact List.all_eq_true.mpr fun c hc => decide_eq_true (Nat.lt_of_le_of_lt (hs c hc).2 (by decide))⟩
  · have : ∀ c ∈ azS, c < 1114112 := by decide
    refine ⟨_, rfl, ?_⟩
    rw [layB_str]
    refine List.all_eq_true.mpr fun x hx => decide_eq_true ?_
    rcases List.mem_append.mp hx with hx | hx
    · exact Nat.lt_of_le_of_lt (hs x hx).2 (by decide)
    · rw [List.mem_singleton] at hx
      rw [hx]
      exact this c hc
theorem word_form {s : List Nat} {d : D} (h : d = .str s ∨ ∃ c, Sm c ∧ d = .str (s ++ [c])) (h0 : s ≠ []) (h1 : s.length ≤ 11) (hs : ∀ c ∈ s, Sm c) : Wd 12 d := by
  rcases h with rfl | ⟨c, hc, rfl⟩
  · exact ⟨s, rfl, h0, by omega, hs⟩
  · refine ⟨s ++ [c], rfl, by simp, by simp; omega, fun x hx => ?_⟩
    rcases List.mem_append.mp hx with hx | hx
    · exact hs x hx
    · rw [List.mem_singleton] at hx
      rw [hx]
      exact hc
theorem word_ok {taken : List D} (ht : ∀ d ∈ taken, Wd 20 d) (hl : taken.length < 27) : DrawF p__law_word [.lst taken] 13 (fun d => Wd 12 d ∧ memL d taken = false) := DrawF.of fun b pl hp hb => by
  refine of_def rfl ?_
  simp -implicitDefEqProofs [m__law_word]
  refine cal_draw1 hp (pick_ok (by decide) (by decide)) (by omega) rfl fun d pl1 ⟨r, e, hr⟩ hp1 => ?_
  subst e
  obtain ⟨m, hm, hm1, hm2⟩ := many_get (r := r) (by omega)
  have hm3 : (m : Int) ≤ 1000000 := by omega
  have hlay : taken.all (layB 59) = true := List.all_eq_true.mpr fun d hd => layB_mono d (okI_lay ((ht d hd).ok (by decide))) (by decide)
  simp -implicitDefEqProofs [hm, hm3]
  have W4 : ∀ r, DrawsE m__law_word_4 ((wipeE [some (.ob 0), some (.val (.lst taken)), some (.val (.str azS)), some (.val (.int (m : Nat))), some (.val (.int 4)), none, none, none, none] [6]).set 6 (some r)) 0 1 Sm1 := fun r => letter_ok (w := 4) rfl rfl rfl (by decide) (by decide)
  have W26 : ∀ r, DrawsE m__law_word_4 ((wipeE [some (.ob 0), some (.val (.lst taken)), some (.val (.str azS)), some (.val (.int (m : Nat))), some (.val (.int 26)), none, none, none, none] [6]).set 6 (some r)) 0 1 Sm1 := fun r => letter_ok (w := 26) rfl rfl rfl (by decide) (by decide)
  have len : (List.map (fun j : Nat => RV.val (D.int (j : Nat))) (List.range m)).length = m := by simp
  split
  · refine lc_draw hp1 W4 (by rw [len]; omega) (by rw [len]; omega) rfl rfl (fun _ => rfl) fun ds pl2 h1 h2 hp2 => ?_
    obtain ⟨s, hs1, hs2, hs3⟩ := strs_sm h2
    rw [len] at h1 hp2
    rw [join_sm hs1 (by omega)]
    simp -implicitDefEqProofs
    refine lc_det (fun _ => true) (fun r => match r with | .val (.str x) => .str (s ++ x) | _ => .non) rfl ?_ (fun _ _ _ => rfl) ?_ rfl ?_
    · simp [azS]
    · intro r hr ob _
      obtain ⟨c, hc, rfl⟩ := List.mem_map.mp hr
      refine ⟨[some (.ob 0), some (.val (.lst taken)), some (.val (.str azS)), some (.val (.int (m : Nat))), some (.val (.int 4)), some (.val (.str s)), none, none, some (.val (.str [c]))], ?_⟩
      unfold m__law_word_1
      simp -implicitDefEqProofs [wipeE, show s.length + 1 ≤ 16777216 by omega]
    rw [List.filter_eq_self.mpr (fun _ _ => rfl), List.map_map, show ((fun r => match r with | RV.val (D.str x) => D.str (s ++ x) | _ => .non) ∘ fun c => RV.val (D.str [c])) = (fun c => D.str (s ++ [c])) from rfl]
    simp -implicitDefEqProofs
    rw [show RV.val (D.str s) :: List.map (RV.val ∘ fun c => D.str (s ++ [c])) azS = List.map RV.val (D.str s :: List.map (fun c => D.str (s ++ [c])) azS) by simp]
    refine ⟨by decide, ?_⟩
    refine lc_det (fun r => !memL (valD r) taken) valD ?_ ?_ ?_ ?_ ?_ ?_
    · rfl
    · simp [azS]
    · intro r hr ob
      obtain ⟨d, rfl, hd⟩ := cand (s := s) (r := r) (by simpa [eq_comm] using hr) hs3
      unfold m__law_word_2
      simp -implicitDefEqProofs [wipeE, ev_inL hd hlay, valD]
    · intro r hr ob _
      obtain ⟨d, rfl, hd⟩ := cand (s := s) (r := r) (by simpa [eq_comm] using hr) hs3
      exact ⟨_, rfl⟩
    · rfl
    rw [filt_map (g := fun d => !memL d taken) (fun _ _ => rfl) (fun _ => rfl)]
    obtain ⟨d, rest, f1, f2, f3⟩ := first_free (s := s) (fun d hd => (ht d hd).str) hl
    rw [f1]
    simp -implicitDefEqProofs [atZ]
    exact ⟨⟨word_form f3 (by intro e; rw [e] at hs2; simp at hs2; omega) (by omega) hs3, f2⟩, hp2.mono (by omega)⟩
  · refine lc_draw hp1 W26 (by rw [len]; omega) (by rw [len]; omega) rfl rfl (fun _ => rfl) fun ds pl2 h1 h2 hp2 => ?_
    obtain ⟨s, hs1, hs2, hs3⟩ := strs_sm h2
    rw [len] at h1 hp2
    rw [join_sm hs1 (by omega)]
    simp -implicitDefEqProofs
    refine lc_det (fun _ => true) (fun r => match r with | .val (.str x) => .str (s ++ x) | _ => .non) rfl ?_ (fun _ _ _ => rfl) ?_ rfl ?_
    · simp [azS]
    · intro r hr ob _
      obtain ⟨c, hc, rfl⟩ := List.mem_map.mp hr
      refine ⟨[some (.ob 0), some (.val (.lst taken)), some (.val (.str azS)), some (.val (.int (m : Nat))), some (.val (.int 26)), some (.val (.str s)), none, none, some (.val (.str [c]))], ?_⟩
      unfold m__law_word_1
      simp -implicitDefEqProofs [wipeE, show s.length + 1 ≤ 16777216 by omega]
    rw [List.filter_eq_self.mpr (fun _ _ => rfl), List.map_map, show ((fun r => match r with | RV.val (D.str x) => D.str (s ++ x) | _ => .non) ∘ fun c => RV.val (D.str [c])) = (fun c => D.str (s ++ [c])) from rfl]
    simp -implicitDefEqProofs
    rw [show RV.val (D.str s) :: List.map (RV.val ∘ fun c => D.str (s ++ [c])) azS = List.map RV.val (D.str s :: List.map (fun c => D.str (s ++ [c])) azS) by simp]
    refine ⟨by decide, ?_⟩
    refine lc_det (fun r => !memL (valD r) taken) valD ?_ ?_ ?_ ?_ ?_ ?_
    · rfl
    · simp [azS]
    · intro r hr ob
      obtain ⟨d, rfl, hd⟩ := cand (s := s) (r := r) (by simpa [eq_comm] using hr) hs3
      unfold m__law_word_2
      simp -implicitDefEqProofs [wipeE, ev_inL hd hlay, valD]
    · intro r hr ob _
      obtain ⟨d, rfl, hd⟩ := cand (s := s) (r := r) (by simpa [eq_comm] using hr) hs3
      exact ⟨_, rfl⟩
    · rfl
    rw [filt_map (g := fun d => !memL d taken) (fun _ _ => rfl) (fun _ => rfl)]
    obtain ⟨d, rest, f1, f2, f3⟩ := first_free (s := s) (fun d hd => (ht d hd).str) hl
    rw [f1]
    simp -implicitDefEqProofs [atZ]
    exact ⟨⟨word_form f3 (by intro e; rw [e] at hs2; simp at hs2; omega) (by omega) hs3, f2⟩, hp2.mono (by omega)⟩
end LW
end
section
set_option Elab.async false
set_option linter.all false
set_option autoImplicit false
set_option maxRecDepth 100000
set_option maxHeartbeats 4000000
namespace LW
open PySem PySem.Spec PyProof.Rows DL
open L2 hiding St start
theorem words_ok {taken : List D} {many : Nat} (ht : ∀ d ∈ taken, Wd 20 d) (hl : taken.length + many < 27) : DrawF p__law_words [.int (many : Nat), .lst taken] (13 * many) (fun d => ∃ ws, d = .lst ws ∧ ws.length = many ∧ ∀ w ∈ ws, Wd 12 w) := DrawF.of fun b pl hp hb => by
  unfold p__law_words
  rw [def_post (by simp)]

  have hm : (many : Int) ≤ 1000000 := by omega
  simp -implicitDefEqProofs [m__law_words, hm]
  refine for_inv (fun rs e => ∃ found pl k4, e = ⟨[some (.ob 0), some (.val (.int (many : Nat))), some (.val (.lst taken)), some (.ob 1), k4], [.lst pl, .lst found]⟩ ∧ found.length + rs.length = many ∧ (∀ w ∈ found, Wd 12 w) ∧ Pl (b + 13 * found.length) pl) ?_ ?_ _ _ ⟨[], pl, none, rfl, by simp, fun w hw => (by cases hw), hp⟩
  · rintro e ⟨found, pl, k4, rfl, h1, h2, h3⟩
    simp at h1
    subst h1
    simp -implicitDefEqProofs
    exact ⟨h2, h3⟩
  · rintro r rs e ⟨found, pl, k4, rfl, h1, h2, h3⟩
    simp at h1
    simp -implicitDefEqProofs [m__law_words_1]
    refine ⟨by omega, ?_⟩
    have ht2 : ∀ d ∈ taken ++ found, Wd 20 d := fun d hd => by
      rcases List.mem_append.mp hd with hd | hd
      · exact ht d hd
      · obtain ⟨s, e, a1, a2, a3⟩ := h2 d hd
        exact ⟨s, e, a1, by omega, a3⟩
    refine cal_draw1 h3 (word_ok ht2 (by simp; omega)) (by omega) rfl fun d pl2 hd hp2 => ?_
    simp -implicitDefEqProofs [show found.length < 16777216 by omega]
    refine ⟨_, _, ⟨rfl, rfl⟩, by simp; omega, ?_, hp2.mono (by simp; omega)⟩
    intro w hw
    rcases List.mem_append.mp hw with hw | hw
    · exact h2 w hw
    · rw [List.mem_singleton] at hw
      rw [hw]
      exact hd.1
/-! tokens -/
/-- a token of a row -/
def Tk (d : D) : Prop := ∃ s : List Nat, d = .str s ∧ s.length ≤ 12 ∧ ∀ c ∈ s, c < 128
theorem Wd.tk {d : D} (h : Wd 12 d) : Tk d := by
  obtain ⟨s, rfl, _, h2, h3⟩ := h
  exact ⟨s, rfl, h2, fun c hc => Nat.lt_of_le_of_lt (h3 c hc).2 (by decide)⟩
def tkB : D → Bool
  | .str s => decide (s.length ≤ 12) && s.all fun c => decide (c < 128)
  | _ => false
theorem tkB_ok {d : D} (h : tkB d = true) : Tk d := by
  cases d with
  | str s =>
    unfold tkB at h
    rw [Bool.and_eq_true, decide_eq_true_eq, List.all_eq_true] at h
    exact ⟨s, rfl, h.1, fun c hc => of_decide_eq_true (h.2 c hc)⟩
  | _ => cases h
theorem Tk.ok {d : D} (h : Tk d) : okI d = true := by
  obtain ⟨s, rfl, h1, h2⟩ := h
  exact okI_str (fun c hc => Nat.lt_trans (h2 c hc) (by decide)) (by omega)
theorem tk_item {ds : List D} (h : ∀ d ∈ ds, Tk d) (h0 : ds ≠ []) (hl : ds.length < 1000000) {sl : List (Option RV)} (s0 : sl[0]? = some (some (.ob 0))) (s2 : sl[2]? = some (some (.val (.lst ds)))) : DrawsE m__law_tokens_1 sl 0 1 Tk := DrawsE.of fun b pl ob h1 hp hb => by
  unfold m__law_tokens_1
  simp -implicitDefEqProofs [ev_var s0, ev_var s2]
  refine cal_draw1 hp (of_ok h0 hl) hb h1 fun d pl' hd hp' => ⟨d, rfl, h d hd, pl', hp', rfl⟩
theorem tokens_ok {many : Nat} (hm : many ≤ 40) : DrawF p__law_tokens [.int (many : Nat)] (100 + many) (fun d => ∃ ts, d = .lst ts ∧ ts.length ≤ many ∧ ∀ t ∈ ts, Tk t) := DrawF.of fun b pl hp hb => by
  unfold p__law_tokens
  rw [def_post (by simp)]
  simp -implicitDefEqProofs [m__law_tokens]
  refine cal_draw2 hp (words_ok (many := 2) (taken := []) (fun d hd => by cases hd) (by decide)) (by omega) rfl fun d pl1 ⟨ws, e, hw1, hw2⟩ hp1 => ?_
  subst e
  simp -implicitDefEqProofs [hw1]
  refine cal_draw1 hp1 (pick_ok (by decide) (by decide)) (by omega) rfl fun d pl2 ⟨r, e, hr⟩ hp2 => ?_
  subst e
  have hmenu : ∀ d ∈ (D.str [61] :: D.str [59] :: D.str [44] :: D.str [91] :: D.str [93] :: D.str [97] :: D.str [98] :: D.str [121, 101, 115] :: D.str [48] :: D.str [49, 50] :: ws), Tk d := fun d hd => by
    rcases List.mem_append.mp (show d ∈ [D.str [61], .str [59], .str [44], .str [91], .str [93], .str [97], .str [98], .str [121, 101, 115], .str [48], .str [49, 50]] ++ ws from hd) with hd | hd
    · have : ∀ d ∈ [D.str [61], .str [59], .str [44], .str [91], .str [93], .str [97], .str [98], .str [121, 101, 115], .str [48], .str [49, 50]], tkB d = true := by decide
      exact tkB_ok (this d hd)
    · exact (hw2 d hd).tk
  have hmenu2 : ∀ d ∈ [D.str [97], D.str [98], D.str [61], D.str [59], D.str [48]], Tk d := fun d hd => by
    have : ∀ d ∈ [D.str [97], D.str [98], D.str [61], D.str [59], D.str [48]], tkB d = true := by decide
    exact tkB_ok (this d hd)
  simp -implicitDefEqProofs
  split
  · refine cal_draw1 hp2 (of_ok (by simp) (by simp [hw1])) (by omega) rfl fun d1 pl3 hd1 hp3 => ?_
    simp -implicitDefEqProofs
    refine cal_draw1 hp3 (of_ok (by simp) (by simp)) (by omega) rfl fun d2 pl4 hd2 hp4 => ?_
    have hm3 : ∀ d ∈ [d1, d2], Tk d := fun d hd => by
      rcases List.mem_cons.mp hd with rfl | hd
      · exact hmenu _ hd1
      · rw [List.mem_singleton] at hd
        rw [hd]
        exact hmenu2 _ hd2
    simp -implicitDefEqProofs
    refine cal_draw1 hp4 (pick_ok (by omega) (by omega)) (by omega) rfl fun d pl5 ⟨r2, e, hr2⟩ hp5 => ?_
    subst e
    have len : (List.map (fun j : Nat => RV.val (D.int (j : Nat))) (List.range r2)).length = r2 := by simp
    simp -implicitDefEqProofs [show (r2 : Int) ≤ 1000000 by omega]
    refine lc_draw hp5 (fun r => tk_item hm3 (by simp) (by simp) rfl rfl) (by rw [len]; omega) (by rw [len]; omega) rfl rfl (fun _ => rfl) fun ds pl6 h1 h2 hp6 => ?_
    rw [len] at h1 hp6
    simp -implicitDefEqProofs
    exact ⟨⟨by omega, h2⟩, hp6.mono (by omega)⟩
  · refine cal_draw1 hp2 (pick_ok (by omega) (by omega)) (by omega) rfl fun d pl5 ⟨r2, e, hr2⟩ hp5 => ?_
    subst e
    have len : (List.map (fun j : Nat => RV.val (D.int (j : Nat))) (List.range r2)).length = r2 := by simp
    simp -implicitDefEqProofs [show (r2 : Int) ≤ 1000000 by omega]
    refine lc_draw hp5 (fun r => tk_item hmenu (by simp) (by simp [hw1]) rfl rfl) (by rw [len]; omega) (by rw [len]; omega) rfl rfl (fun _ => rfl) fun ds pl6 h1 h2 hp6 => ?_
    rw [len] at h1 hp6
    simp -implicitDefEqProofs
    exact ⟨⟨by omega, h2⟩, hp6.mono (by omega)⟩
end LW
end
section
set_option Elab.async false
set_option linter.all false
set_option autoImplicit false
set_option maxRecDepth 100000
set_option maxHeartbeats 4000000
namespace LW
open PySem PySem.Spec PyProof.Rows DL
open L2 hiding St start
/-! tokens told apart -/
def mdB (A : List Nat) : D → Bool
  | .str s => decide (1 ≤ s.length) && decide (s.length ≤ 12) && s.all fun c => A.contains c
  | _ => false
theorem okI_len {s : List Nat} (h : okI (.str s) = true) : s.length ≤ 100 ∧ ∀ c ∈ s, c < 1114112 := by
  unfold okI at h
  rw [layB_str, Bool.and_eq_true, Bool.and_eq_true, decide_eq_true_eq, List.all_eq_true] at h
  exact ⟨h.2.2, fun c hc => of_decide_eq_true (h.1 c hc)⟩
theorem made_loop {A s : List Nat} {Po : Post} : ∀ (l : List Nat) (o : Option RV), ((l.all fun c => A.contains c) = false → ∀ e : DL.Env, e.ob = [] → Po.rt (.val (.bl false)) e) → ((l.all fun c => A.contains c) = true → ∀ e : DL.Env, e.ob = [] → Po.nx e) →
    (mForL (mNm 2) m_made_of_1 (l.map fun c => .val (.str [c])) ⟨[some (.val (.str s)), some (.val (.str A)), o], []⟩).post Po
  | [], o, h0, h1 => h1 rfl _ rfl
  | c :: l, o, h0, h1 => by
    rw [List.map_cons, for_nm]
    have h2 := made_loop (A := A) (s := s) (Po := Po) l (some (.val (.str [c])))
    generalize mForL (mNm 2) m_made_of_1 (l.map fun c => RV.val (.str [c])) = K at h2 ⊢
    simp -implicitDefEqProofs [m_made_of_1, ev_inC]
    by_cases hc : c ∈ A
    · simp only [List.all_cons, List.contains_eq_mem, hc, decide_true, Bool.true_and] at h0 h1 h2 ⊢
      simpa using h2 h0 h1
    · simp only [List.all_cons, List.contains_eq_mem, hc, decide_false, Bool.false_and] at h0
      simpa [hc] using h0 trivial _ rfl
theorem made_ev {A : List Nat} {d : D} (h : okI d = true) : p_made_of [.val d, .val (.str A)] [] = .ok (.val (.bl (mdB A d))) [] := eq_post (by
  unfold p_made_of
  rw [def_post (by simp)]
  cases d with
  | str s =>
    have hl := (okI_len h).1
    simp -implicitDefEqProofs [m_made_of, mdB, show s.length ≤ 16777216 by omega]
    by_cases h1 : 1 ≤ s.length
    · by_cases h2 : s.length ≤ 12
      · simp -implicitDefEqProofs [h1, h2, show ¬ (12 : Int) < s.length by omega, show (1 : Int) ≤ s.length by omega]
        refine made_loop s none ?_ ?_ <;> intro h e he
        · obtain ⟨sl, ob⟩ := e
          obtain rfl : ob = [] := he
          simp at h ⊢
          exact h
        · obtain ⟨sl, ob⟩ := e
          obtain rfl : ob = [] := he
          simp at h ⊢
          exact h
      · simp -implicitDefEqProofs [h2, show (12 : Int) < s.length by omega]
    · simp -implicitDefEqProofs [h1, show ¬ (1 : Int) ≤ s.length by omega]
  | non => simp -implicitDefEqProofs [m_made_of, mdB]
  | bl b => simp -implicitDefEqProofs [m_made_of, mdB]
  | int i => simp -implicitDefEqProofs [m_made_of, mdB]
  | lst xs => simp -implicitDefEqProofs [m_made_of, mdB]
  | tup xs => simp -implicitDefEqProofs [m_made_of, mdB]
  | _ => simp [okI, DL.layB] at h)
def numB (d : D) : Bool := mdB digS d && (match d with
  | .str s => s == [48] || (s.headD 0 != 48)
  | _ => false)
theorem word_ev {d : D} (h : okI d = true) : p_is_word [.val d] [] = .ok (.val (.bl (mdB azS d))) [] := eq_post (by
  unfold p_is_word
  rw [def_post (by simp)]
  simp -implicitDefEqProofs [m_is_word, made_ev h])
theorem num_ev {d : D} (h : okI d = true) : p_is_numeral [.val d] [] = .ok (.val (.bl (numB d))) [] := eq_post (by
  unfold p_is_numeral
  rw [def_post (by simp)]
  simp -implicitDefEqProofs [m_is_numeral, made_ev h]
  cases hm : mdB digS d with
  | false => simp [numB, hm]
  | true =>
    cases d with
    | str s =>
      have hl := (okI_len h).1
      cases s with
      | nil => simp [mdB] at hm
      | cons c s =>
        simp -implicitDefEqProofs [numB, hm, p_ixS, atZ, show s.length + 1 ≤ 16777216 by simp at hl; omega]
        by_cases hc : c = 48 <;> by_cases hs : s = [] <;> simp_all
        all_goals (have e : (c == 48) = false := beq_eq_false_iff_ne.mpr hc; simp [e, bne])
    | _ => simp [mdB] at hm)
/-- the sort of a token -/
def sortD (d : D) : D := if memL d [.str [61], .str [59], .str [44], .str [91], .str [93]] then d else if mdB azS d then .str [119, 111, 114, 100] else if numB d then .str [110, 117, 109, 98, 101, 114] else .non
def isStr : D → Bool
  | .str _ => true
  | _ => false
theorem sort_ev {d : D} (h : okI d = true) : p_sort_of [.val d] [] = .ok (.val (if isStr d then sortD d else .non)) [] := eq_post (by
  unfold p_sort_of
  rw [def_post (by simp)]
  have hl := layB_mono (m := 59) d (okI_lay h) (by decide)
  cases d with
  | str s =>
    simp -implicitDefEqProofs [m_sort_of, ev_inT hl, word_ev h, num_ev h, isStr, sortD]
    repeat' split
    all_goals simp_all
  | non => simp -implicitDefEqProofs [m_sort_of, isStr]
  | bl b => simp -implicitDefEqProofs [m_sort_of, isStr]
  | int i => simp -implicitDefEqProofs [m_sort_of, isStr]
  | lst xs => simp -implicitDefEqProofs [m_sort_of, isStr]
  | tup xs => simp -implicitDefEqProofs [m_sort_of, isStr]
  | _ => simp [okI, DL.layB] at h)
end LW
end
section
set_option Elab.async false
set_option linter.all false
set_option autoImplicit false
set_option maxRecDepth 100000
set_option maxHeartbeats 4000000
namespace LW
open PySem PySem.Spec PyProof.Rows DL
open L2 hiding St start
@[simp] theorem okF_393 : okT okl 262 393 = true := by decide
@[simp] theorem okF_357 : okT okl 262 357 = true := by decide
@[simp] theorem okF_447 : okT okl 262 447 = true := by decide
def wrD : D := .str [119, 114, 105, 116, 116, 101, 110]
def kindsL : List D := [.str [108, 101, 102, 116], .str [100, 111, 117, 98, 108, 101, 100], .str [115, 119, 97, 112, 112, 101, 100], .str [119, 114, 105, 116, 116, 101, 110]]
def counted : D → Bool
  | .int i => decide (0 ≤ i)
  | _ => false
def isWr : D → Bool
  | .str s => s == [119, 114, 105, 116, 116, 101, 110]
  | _ => false
def goodS (k s o : D) : Bool := isStr k && memL k kindsL && counted s && (if isWr k then isStr o && !(sortD o).isN else o.isN)
theorem init_ev {k s o : D} (hk : okI k = true) (hs : okI s = true) (ho : okI o = true) (hg : goodS k s o = true) : p_Slip__DOT____init__ [.ob 0, .val k, .val s, .val o] [.ins 262 []] = .ok (.val .non) [.ins 262 [(393, .val k), (357, .val s), (447, .val o)]] := eq_post (by
  unfold p_Slip__DOT____init__
  rw [def_post (by simp)]
  unfold goodS at hg
  rw [Bool.and_eq_true, Bool.and_eq_true, Bool.and_eq_true] at hg
  obtain ⟨⟨⟨g1, g2⟩, g3⟩, g4⟩ := hg
  have hl := layB_mono (m := 59) k (okI_lay hk) (by decide)
  cases k with
  | str x =>
    cases s with
    | int i =>
      have g3' : 0 ≤ i := of_decide_eq_true g3
      unfold kindsL at g2
      by_cases hx : x = [119, 114, 105, 116, 116, 101, 110]
      · subst hx
        have g4' : isStr o = true ∧ (sortD o).isN = false := by simpa [isWr] using g4
        simp -implicitDefEqProofs [m_Slip__DOT____init__, ev_inT hl, g2, g3', sort_ev ho, g4'.1, g4'.2, putN]
      · have g4' : o = .non := by
          have h2 : isWr (.str x) = false := by simpa [isWr] using hx
          rw [h2] at g4
          cases o <;> simp [D.isN] at g4 ⊢
        subst g4'
        simp -implicitDefEqProofs [m_Slip__DOT____init__, ev_inT hl, g2, g3', hx, putN]
    | _ => cases g3
  | _ => cases g1)
theorem init_bad {k s o : D} (hk : okI k = true) (hs : okI s = true) (ho : okI o = true) (hg : goodS k s o = false) : p_Slip__DOT____init__ [.ob 0, .val k, .val s, .val o] [.ins 262 []] = .xc ⟨105, [(357, s)]⟩ [.ins 262 []] := eq_post_x (by
  unfold p_Slip__DOT____init__
  rw [def_post (by simp)]
  have hl := layB_mono (m := 59) k (okI_lay hk) (by decide)
  have hd : ∀ x : D, okI x = true → (∀ kvs, x ≠ .dic kvs) ∧ (∀ c fs, x ≠ .ins c fs) ∧ (∀ j, x ≠ .glo j) ∧ (∀ a d c f, x ≠ .exn a d c f) := fun x hx => by
    cases x <;> simp [okI, DL.layB] at hx ⊢
  obtain ⟨s1, s2, s3, s4⟩ := hd s hs
  obtain ⟨k1, k2, k3, k4⟩ := hd k hk
  cases k with
  | str x =>
    by_cases g2 : memL (.str x) kindsL = true
    · have g2' := g2
      unfold kindsL at g2'
      cases s with
      | int i =>
        by_cases g3 : 0 ≤ i
        · by_cases hx : x = [119, 114, 105, 116, 116, 101, 110]
          · subst hx
            have g4 : (if isStr o = true then sortD o else .non).isN = true := by
              cases h1 : isStr o with
              | false => rfl
              | true =>
                rw [if_pos rfl]
                simpa [goodS, show ∀ x, isStr (.str x) = true from fun _ => rfl, g2, counted, g3, isWr, h1] using hg
            simp -implicitDefEqProofs [m_Slip__DOT____init__, ev_inT hl, g2', g3, sort_ev ho, g4]
          · have g4 : o.isN = false := by
              have h2 : isWr (.str x) = false := by simpa [isWr] using hx
              simpa [goodS, isStr, g2, counted, g3, h2] using hg
            simp -implicitDefEqProofs [m_Slip__DOT____init__, ev_inT hl, g2', g3, hx, g4]
        · simp -implicitDefEqProofs [m_Slip__DOT____init__, ev_inT hl, g2', g3]
      | dic kvs => exact (s1 kvs rfl).elim
      | ins c fs => exact (s2 c fs rfl).elim
      | glo j => exact (s3 j rfl).elim
      | exn a d c f => exact (s4 a d c f rfl).elim
      | _ => simp -implicitDefEqProofs [m_Slip__DOT____init__, ev_inT hl, g2']
    · unfold kindsL at g2
      cases s with
      | int i => by_cases g3 : 0 ≤ i <;> simp -implicitDefEqProofs [m_Slip__DOT____init__, ev_inT hl, g2, g3]
      | dic kvs => exact (s1 kvs rfl).elim
      | ins c fs => exact (s2 c fs rfl).elim
      | glo j => exact (s3 j rfl).elim
      | exn a d c f => exact (s4 a d c f rfl).elim
      | _ => simp -implicitDefEqProofs [m_Slip__DOT____init__, ev_inT hl, g2]
  | dic kvs => exact (k1 kvs rfl).elim
  | ins c fs => exact (k2 c fs rfl).elim
  | glo j => exact (k3 j rfl).elim
  | exn a d c f => exact (k4 a d c f rfl).elim
  | _ =>
    cases s with
    | int i => by_cases g3 : 0 ≤ i <;> simp -implicitDefEqProofs [m_Slip__DOT____init__, g3]
    | dic kvs => exact (s1 kvs rfl).elim
    | ins c fs => exact (s2 c fs rfl).elim
    | glo j => exact (s3 j rfl).elim
    | exn a d c f => exact (s4 a d c f rfl).elim
    | _ => simp -implicitDefEqProofs [m_Slip__DOT____init__])
/-- the slip as data -/
def slipD (k s o : D) : D := .ins 262 [(393, k), (357, s), (447, o)]
theorem p_new3 {k s o : D} {sl : List (Option RV)} {ob : List OD} {n : Nat} {P : RV → DL.Env → Prop} {R R' : Xc → DL.Env → Prop} (hk : okI k = true) (hs : okI s = true) (ho : okI o = true) (hg : goodS k s o = true) (hn : n = ob.length) (hb : goB [] ob.length ⟨sl, ob⟩ = true) (q : P (.val (slipD k s o)) ⟨sl, ob⟩) :
    (newK 262 [true, true, true] [] p_Slip__DOT____init__ [.val k, .val s, .val o] ⟨sl, ob⟩).post (fun a e => (fzK n a e).post P R) R' := by
  subst hn
  rw [show newK 262 [true, true, true] [] p_Slip__DOT____init__ [.val k, .val s, .val o] ⟨sl, ob⟩ = _ from newK_ok (ds := [k, s, o]) (fs := [(393, k), (357, s), (447, o)]) (by simp) (init_ev hk hs ho hg), post_ok, fzK_ins hb]
  exact q
theorem new3_bad {k s o : D} {sl : List (Option RV)} {ob : List OD} (hk : okI k = true) (hs : okI s = true) (ho : okI o = true) (hg : goodS k s o = false) : newK 262 [true, true, true] [] p_Slip__DOT____init__ [.val k, .val s, .val o] ⟨sl, ob⟩ = .xc ⟨105, [(357, s)]⟩ ⟨sl, ob ++ [.ins 262 []]⟩ :=
  newK_xc (ds := [k, s, o]) (by simp) (init_bad hk hs ho hg)
theorem made_ok {k s o f : D} (hk : okI k = true) (hs : okI s = true) (ho : okI o = true) (hg : goodS k s o = true) : p__law_made [.val (.tup [k, s, o, f])] [] = .ok (.val (slipD k s o)) [] := eq_post (by
  unfold p__law_made
  rw [def_post (by simp)]
  simp -implicitDefEqProofs [m__law_made, m__law_made_1, atZ]
  refine p_new3 hk hs ho hg rfl rfl ?_
  simp)
theorem made_bad {k s o f : D} (hk : okI k = true) (hs : okI s = true) (ho : okI o = true) (hg : goodS k s o = false) : p__law_made [.val (.tup [k, s, o, f])] [] = .ok (.val (.tup [s])) [] := eq_post (by
  unfold p__law_made
  rw [def_post (by simp)]
  simp -implicitDefEqProofs [m__law_made, m__law_made_1, atZ, new3_bad hk hs ho hg, isA_BadSlip, h__law_made_1, List.lookup_cons])
end LW
end
section
set_option Elab.async false
set_option linter.all false
set_option autoImplicit false
set_option maxRecDepth 100000
set_option maxHeartbeats 4000000
namespace LW
open PySem PySem.Spec PyProof.Rows DL
open L2 hiding St start
def swS : List Nat := [115, 119, 97, 112, 112, 101, 100]
def wrS : List Nat := [119, 114, 105, 116, 116, 101, 110]
def leS : List Nat := [108, 101, 102, 116]
def doS : List Nat := [100, 111, 117, 98, 108, 101, 100]
theorem atZ_S {ts : List (List Nat)} {n : Nat} : atZ (ts.map D.str) (n : Nat) = (ts[n]?).map D.str := by rw [atZ_nat, List.getElem?_map]
theorem atZ_S1 {ts : List (List Nat)} {n : Nat} : atZ (ts.map D.str) ((n : Nat) + 1) = (ts[n + 1]?).map D.str := by
  rw [show ((n : Nat) : Int) + 1 = ((n + 1 : Nat) : Int) by omega, atZ_S]
def fitsF (kx : List Nat) (n : Nat) (o : D) (ts : List (List Nat)) : Bool :=
  if ts.length ≤ n then false else if kx = swS then decide (n + 1 < ts.length) && !(ts[n]? == ts[n + 1]?) else !(kx == wrS) || !(D.eq (.str (ts[n]?.getD [])) o)
theorem tok_lay {ts : List (List Nat)} (h : ∀ t ∈ ts, Tk (.str t)) {n : Nat} (hn : n < ts.length) : DL.layB 60 (.str ts[n]) = true := by
  have := (h ts[n] (List.getElem_mem hn)).ok
  exact layB_mono _ (okI_lay this) (by decide)
theorem atZ_0 {α : Type} {x : α} {xs : List α} : atZ (x :: xs) 0 = some x := rfl
theorem atZ_1 {α : Type} {x y : α} {xs : List α} : atZ (x :: y :: xs) 1 = some y := rfl
theorem atZ_2 {α : Type} {x y z : α} {xs : List α} : atZ (x :: y :: z :: xs) 2 = some z := rfl
theorem fits_law {kx : List Nat} {n : Nat} {o f : D} {ts : List (List Nat)} (h : ∀ t ∈ ts, Tk (.str t)) (ho : okI o = true) : p__law_fits [.val (.tup [.str kx, .int (n : Nat), o, f]), .val (.lst (ts.map .str))] [] = .ok (.val (.bl (fitsF kx n o ts))) [] := eq_post (by
  unfold p__law_fits
  rw [def_post (by simp)]
  by_cases h1 : ts.length ≤ n
  · simp -implicitDefEqProofs [m__law_fits, atZ, fitsF, h1, List.lookup_cons, slipD]
  · have hn : n < ts.length := by omega
    have e1 : ts[n]? = some ts[n] := List.getElem?_eq_getElem hn
    by_cases h2 : kx = [115, 119, 97, 112, 112, 101, 100]
    · subst h2
      by_cases h3 : n + 1 < ts.length
      · have e2 : ts[n + 1]? = some ts[n + 1] := List.getElem?_eq_getElem h3
        simp -implicitDefEqProofs [m__law_fits, atZ_0, atZ_1, atZ_2, fitsF, h1, e1, e2, swS, h3, show (n : Int) + 1 < ts.length by omega, atZ_S, atZ_S1, List.lookup_cons, slipD]
      · simp -implicitDefEqProofs [m__law_fits, atZ_0, atZ_1, atZ_2, fitsF, h1, e1, swS, h3, show ¬ (n : Int) + 1 < ts.length by omega, atZ_S, atZ_S1, List.lookup_cons, slipD]
    · by_cases h4 : kx = [119, 114, 105, 116, 116, 101, 110]
      · subst h4
        simp -implicitDefEqProofs [m__law_fits, atZ_0, atZ_1, atZ_2, fitsF, h1, e1, swS, wrS, atZ_S, List.lookup_cons, slipD, p_eqD (tok_lay h hn) (layB_mono o (okI_lay ho) (by decide))]
      · simp -implicitDefEqProofs [m__law_fits, atZ_0, atZ_1, atZ_2, fitsF, h1, h2, h4, e1, swS, wrS, atZ_S, List.lookup_cons, slipD, p_eqD (tok_lay h hn) (layB_mono o (okI_lay ho) (by decide))])
theorem fits_slip {kx : List Nat} {n : Nat} {o : D} {ts : List (List Nat)} (h : ∀ t ∈ ts, Tk (.str t)) (ho : okI o = true) : p_Slip__DOT__fits [.val (slipD (.str kx) (.int (n : Nat)) o), .val (.lst (ts.map .str))] [] = .ok (.val (.bl (fitsF kx n o ts))) [] := eq_post (by
  unfold p_Slip__DOT__fits
  rw [def_post (by simp)]
  by_cases h1 : ts.length ≤ n
  · simp -implicitDefEqProofs [m_Slip__DOT__fits, atZ, fitsF, h1, List.lookup_cons, slipD]
  · have hn : n < ts.length := by omega
    have e1 : ts[n]? = some ts[n] := List.getElem?_eq_getElem hn
    by_cases h2 : kx = [115, 119, 97, 112, 112, 101, 100]
    · subst h2
      by_cases h3 : n + 1 < ts.length
      · have e2 : ts[n + 1]? = some ts[n + 1] := List.getElem?_eq_getElem h3
        simp -implicitDefEqProofs [m_Slip__DOT__fits, atZ_0, atZ_1, atZ_2, fitsF, h1, e1, e2, swS, h3, show (n : Int) + 1 < ts.length by omega, atZ_S, atZ_S1, List.lookup_cons, slipD]
      · simp -implicitDefEqProofs [m_Slip__DOT__fits, atZ_0, atZ_1, atZ_2, fitsF, h1, e1, swS, h3, show ¬ (n : Int) + 1 < ts.length by omega, atZ_S, atZ_S1, List.lookup_cons, slipD]
    · by_cases h4 : kx = [119, 114, 105, 116, 116, 101, 110]
      · subst h4
        simp -implicitDefEqProofs [m_Slip__DOT__fits, atZ_0, atZ_1, atZ_2, fitsF, h1, e1, swS, wrS, atZ_S, List.lookup_cons, slipD, p_eqD (tok_lay h hn) (layB_mono o (okI_lay ho) (by decide))]
      · simp -implicitDefEqProofs [m_Slip__DOT__fits, atZ_0, atZ_1, atZ_2, fitsF, h1, h2, h4, e1, swS, wrS, atZ_S, List.lookup_cons, slipD, p_eqD (tok_lay h hn) (layB_mono o (okI_lay ho) (by decide))])
theorem fits_slipT {kx : List Nat} {n : Nat} {o : D} {ts : List (List Nat)} (h : ∀ t ∈ ts, Tk (.str t)) (ho : okI o = true) : p_Slip__DOT__fits [.val (slipD (.str kx) (.int (n : Nat)) o), .val (.tup (ts.map .str))] [] = .ok (.val (.bl (fitsF kx n o ts))) [] := eq_post (by
  unfold p_Slip__DOT__fits
  rw [def_post (by simp)]
  by_cases h1 : ts.length ≤ n
  · simp -implicitDefEqProofs [m_Slip__DOT__fits, atZ, fitsF, h1, List.lookup_cons, slipD]
  · have hn : n < ts.length := by omega
    have e1 : ts[n]? = some ts[n] := List.getElem?_eq_getElem hn
    by_cases h2 : kx = [115, 119, 97, 112, 112, 101, 100]
    · subst h2
      by_cases h3 : n + 1 < ts.length
      · have e2 : ts[n + 1]? = some ts[n + 1] := List.getElem?_eq_getElem h3
        simp -implicitDefEqProofs [m_Slip__DOT__fits, atZ_0, atZ_1, atZ_2, fitsF, h1, e1, e2, swS, h3, show (n : Int) + 1 < ts.length by omega, atZ_S, atZ_S1, List.lookup_cons, slipD]
      · simp -implicitDefEqProofs [m_Slip__DOT__fits, atZ_0, atZ_1, atZ_2, fitsF, h1, e1, swS, h3, show ¬ (n : Int) + 1 < ts.length by omega, atZ_S, atZ_S1, List.lookup_cons, slipD]
    · by_cases h4 : kx = [119, 114, 105, 116, 116, 101, 110]
      · subst h4
        simp -implicitDefEqProofs [m_Slip__DOT__fits, atZ_0, atZ_1, atZ_2, fitsF, h1, e1, swS, wrS, atZ_S, List.lookup_cons, slipD, p_eqD (tok_lay h hn) (layB_mono o (okI_lay ho) (by decide))]
      · simp -implicitDefEqProofs [m_Slip__DOT__fits, atZ_0, atZ_1, atZ_2, fitsF, h1, h2, h4, e1, swS, wrS, atZ_S, List.lookup_cons, slipD, p_eqD (tok_lay h hn) (layB_mono o (okI_lay ho) (by decide))])
end LW
end
section
set_option Elab.async false
set_option linter.all false
set_option autoImplicit false
set_option maxRecDepth 100000
set_option maxHeartbeats 4000000
namespace LW
open PySem PySem.Spec PyProof.Rows DL
open L2 hiding St start
def dueL (kx : List Nat) (n : Nat) (o : D) (xs : List D) : List D :=
  if kx = leS then xs.take n ++ xs.drop (n + 1)
  else if kx = doS then xs.take n ++ [xs[n]?.getD .non, xs[n]?.getD .non] ++ xs.drop (n + 1)
  else if kx = swS then xs.take n ++ [xs[n + 1]?.getD .non, xs[n]?.getD .non] ++ xs.drop (n + 2)
  else xs.take n ++ [o] ++ xs.drop (n + 1)
theorem cut_drop1 {α : Type} {xs : List α} {n : Nat} : cut xs (some ((n : Nat) + 1)) none = xs.drop (n + 1) := by
  rw [show ((n : Nat) : Int) + 1 = ((n + 1 : Nat) : Int) by omega, cut_drop]
theorem cut_drop2 {α : Type} {xs : List α} {n : Nat} : cut xs (some ((n : Nat) + 2)) none = xs.drop (n + 2) := by
  rw [show ((n : Nat) : Int) + 2 = ((n + 2 : Nat) : Int) by omega, cut_drop]
theorem atZ_N {xs : List D} {n : Nat} : atZ xs (n : Nat) = xs[n]? := atZ_nat
theorem atZ_N1 {xs : List D} {n : Nat} : atZ xs ((n : Nat) + 1) = xs[n + 1]? := by
  rw [show ((n : Nat) : Int) + 1 = ((n + 1 : Nat) : Int) by omega, atZ_nat]
theorem due_ev {kx : List Nat} {n : Nat} {o f : D} {xs : List D} (hx : xs.length ≤ 100) (h0 : n < xs.length) (h1 : kx = swS → n + 1 < xs.length) : p__law_due [.val (.tup [.str kx, .int (n : Nat), o, f]), .val (.lst xs)] [] = .ok (.val (.lst (dueL kx n o xs))) [] := eq_post (by
  unfold p__law_due
  rw [def_post (by simp)]
  have e1 : xs[n]? = some xs[n] := List.getElem?_eq_getElem h0
  have hl : xs.length - n ≤ 100 := by omega
  by_cases hle : kx = [108, 101, 102, 116]
  · subst hle
    simp -implicitDefEqProofs [m__law_due, atZ_0, atZ_1, atZ_2, cut_take, cut_drop1, dueL, leS]
    omega
  · by_cases hdo : kx = [100, 111, 117, 98, 108, 101, 100]
    · subst hdo
      simp -implicitDefEqProofs [m__law_due, atZ_0, atZ_1, atZ_2, cut_take, cut_drop1, dueL, leS, doS, atZ_N, e1]
      omega
    · by_cases hsw : kx = [115, 119, 97, 112, 112, 101, 100]
      · have e2 : xs[n + 1]? = some (xs[n + 1]'(h1 hsw)) := List.getElem?_eq_getElem (h1 hsw)
        subst hsw
        simp -implicitDefEqProofs [m__law_due, atZ_0, atZ_1, atZ_2, cut_take, cut_drop1, cut_drop2, dueL, leS, doS, swS, atZ_N, atZ_N1, e1, e2]
        omega
      · simp -implicitDefEqProofs [m__law_due, atZ_0, atZ_1, atZ_2, cut_take, cut_drop1, cut_drop2, dueL, hle, hdo, hsw, leS, doS, swS, atZ_N, e1]
        omega)
theorem swap_due : ∀ {n : Nat} {xs : List D} (h : n + 1 < xs.length), (xs.set n (xs[n + 1]'h)).set (n + 1) (xs[n]'(by omega)) = xs.take n ++ [xs[n + 1]'h, xs[n]'(by omega)] ++ xs.drop (n + 2)
  | 0, x :: y :: q, h => by simp
  | n + 1, x :: xs, h => by
    have h' : n + 1 < xs.length := by simpa using h
    have := swap_due h'
    simp only [List.getElem_cons_succ, List.set_cons_succ, List.take_succ_cons, List.drop_succ_cons, List.cons_append] at this ⊢
    rw [this]
theorem call_ev {kx : List Nat} {n : Nat} {o : D} {xs : List D} {r : D} (hr : r = .lst xs ∨ r = .tup xs) (hf : p_Slip__DOT__fits [.val (slipD (.str kx) (.int (n : Nat)) o), .val r] [] = .ok (.val (.bl true)) []) (hx : xs.length ≤ 100) (h0 : n < xs.length) (h1 : kx = swS → n + 1 < xs.length) :
    p_Slip__DOT____call__ [.val (slipD (.str kx) (.int (n : Nat)) o), .val r] [] = .ok (.ob 0) [.lst (dueL kx n o xs)] := eq_post (by
  unfold p_Slip__DOT____call__
  rw [def_post (by simp)]
  have e1 : xs[n]? = some xs[n] := List.getElem?_eq_getElem h0
  simp only [slipD] at hf ⊢
  have hn : (n : Int) < 4611686018427387904 := by omega
  have plN_n : plN xs.length (n : Int) = some n := by
    unfold plN
    rw [if_pos (by omega), if_pos (by omega), Int.toNat_natCast]
  by_cases hle : kx = [108, 101, 102, 116]
  · subst hle
    rcases hr with rfl | rfl
    all_goals
      simp -implicitDefEqProofs [m_Slip__DOT____call__, tab_fits, tab1, hf, List.lookup_cons]
      refine ⟨⟨h0, by omega⟩, ?_⟩
      rw [dueL, if_pos (by rfl), List.eraseIdx_eq_take_drop_succ]
  · by_cases hdo : kx = [100, 111, 117, 98, 108, 101, 100]
    · subst hdo
      rcases hr with rfl | rfl
      all_goals
        simp -implicitDefEqProofs [m_Slip__DOT____call__, tab_fits, tab1, hf, List.lookup_cons, atZ_N, e1, hn]
        refine ⟨by omega, ?_⟩
        rw [dueL, if_neg (by decide), if_pos (by rfl), e1, List.drop_eq_getElem_cons h0]
        simp only [Option.getD_some, List.append_assoc, List.cons_append, List.nil_append]
        rw [List.take_add_one, e1, Option.toList_some, List.append_assoc]
        rfl
    · by_cases hsw : kx = [115, 119, 97, 112, 112, 101, 100]
      · have h2 := h1 hsw
        have e2 : xs[n + 1]? = some (xs[n + 1]'h2) := List.getElem?_eq_getElem h2
        have plN_1 : plN xs.length ((n : Int) + 1) = some (n + 1) := by
          unfold plN
          rw [if_pos (by omega), if_pos (by omega), show ((n : Int) + 1).toNat = n + 1 by omega]
        subst hsw
        rcases hr with rfl | rfl
        all_goals
          simp -implicitDefEqProofs [m_Slip__DOT____call__, tab_fits, tab1, hf, List.lookup_cons, atZ_N, atZ_N1, e1, e2, mTp, mgCons, mgNil, asK, ev_sub', plN_n, plN_1]
          rw [dueL, if_neg (by decide), if_neg (by decide), if_pos (by rfl), e1, e2, swap_due h2]
          simp
      · rcases hr with rfl | rfl
        all_goals
          simp -implicitDefEqProofs [m_Slip__DOT____call__, tab_fits, tab1, hf, List.lookup_cons, hle, hdo, hsw, plN_n]
          rw [dueL, if_neg (show ¬ kx = leS from hle), if_neg (show ¬ kx = doS from hdo), if_neg (show ¬ kx = swS from hsw), List.set_eq_take_append_cons_drop, if_pos h0]
          simp)
theorem call_no {kx : List Nat} {n : Nat} {o r : D} (hf : p_Slip__DOT__fits [.val (slipD (.str kx) (.int (n : Nat)) o), .val r] [] = .ok (.val (.bl false)) []) :
    p_Slip__DOT____call__ [.val (slipD (.str kx) (.int (n : Nat)) o), .val r] [] = .xc ⟨105, [(357, .int (n : Nat))]⟩ [] := eq_post_x (by
  unfold p_Slip__DOT____call__
  rw [def_post (by simp)]
  simp only [slipD] at hf ⊢
  simp -implicitDefEqProofs [m_Slip__DOT____call__, tab_fits, tab1, hf, List.lookup_cons])
theorem done_no {kx : List Nat} {n : Nat} {o r : D} (hf : p_Slip__DOT__fits [.val (slipD (.str kx) (.int (n : Nat)) o), .val r] [] = .ok (.val (.bl false)) []) :
    p__law_done [.val (slipD (.str kx) (.int (n : Nat)) o), .val r] [] = .ok (.val (.tup [.int (n : Nat)])) [] := eq_post (by
  unfold p__law_done
  rw [def_post (by simp)]
  have hc := call_no hf
  simp only [slipD] at hc ⊢
  simp -implicitDefEqProofs [m__law_done, m__law_done_1, tab___call__, tab1, hc, isA_BadSlip, h__law_done_1, List.lookup_cons])
theorem done_ok {kx : List Nat} {n : Nat} {o : D} {xs : List D} {r : D} (hr : r = .lst xs ∨ r = .tup xs) (hf : p_Slip__DOT__fits [.val (slipD (.str kx) (.int (n : Nat)) o), .val r] [] = .ok (.val (.bl true)) []) (hx : xs.length ≤ 100) (h0 : n < xs.length) (h1 : kx = swS → n + 1 < xs.length) :
    p__law_done [.val (slipD (.str kx) (.int (n : Nat)) o), .val r] [] = .ok (.val (.lst (dueL kx n o xs))) [] := eq_post (by
  unfold p__law_done
  rw [def_post (by simp)]
  have hc := call_ev hr hf hx h0 h1
  simp only [slipD] at hc ⊢
  simp -implicitDefEqProofs [m__law_done, m__law_done_1, tab___call__, tab1, hc, isA_BadSlip, h__law_done_1, List.lookup_cons])
end LW
end
section
set_option Elab.async false
set_option linter.all false
set_option autoImplicit false
set_option maxRecDepth 100000
set_option maxHeartbeats 4000000
namespace LW
open PySem PySem.Spec PyProof.Rows DL
open L2 hiding St start
/-- how long the common beginning is -/
def com : List D → List D → Nat
  | x :: xs, y :: ys => if D.eq x y = true then com xs ys + 1 else 0
  | _, _ => 0
theorem com_at : ∀ {xs ys : List D} {k : Nat}, k ≤ com xs ys → (k < com xs ys ↔ ∃ x y, xs[k]? = some x ∧ ys[k]? = some y ∧ D.eq x y = true)
  | [], _, k, h => by simp [com]
  | _ :: _, [], k, h => by simp [com]
  | x :: xs, y :: ys, 0, h => by
    rw [com]
    split <;> simp_all
  | x :: xs, y :: ys, k + 1, h => by
    rw [com] at h ⊢
    split at h
    · rename_i he
      rw [if_pos he]
      have := com_at (xs := xs) (ys := ys) (k := k) (by omega)
      simp only [List.getElem?_cons_succ, Nat.add_lt_add_iff_right]
      exact this
    · omega
theorem com_le : ∀ {xs ys : List D}, com xs ys ≤ xs.length ∧ com xs ys ≤ ys.length
  | [], ys => by simp [com]
  | _ :: _, [] => by simp [com]
  | x :: xs, y :: ys => by
    rw [com]
    split
    · have := com_le (xs := xs) (ys := ys)
      simp
      omega
    · simp
/-- the list without what is common -/
def trA (xs ys : List D) : Nat := com xs ys
def trB (xs ys : List D) : Nat := com (xs.drop (com xs ys)).reverse (ys.drop (com xs ys)).reverse
def trL (xs ys : List D) : List D := (xs.drop (trA xs ys)).take (xs.length - trA xs ys - trB xs ys)
def trR (xs ys : List D) : List D := (ys.drop (trA xs ys)).take (ys.length - trA xs ys - trB xs ys)
theorem item60 {xs : List D} (h : ∀ x ∈ xs, okI x = true) {k : Nat} {x : D} (hk : xs[k]? = some x) : DL.layB 60 x = true := layB_mono x (okI_lay (h x (List.mem_of_getElem? hk))) (by decide)
theorem list60 {xs : List D} (h : ∀ x ∈ xs, okI x = true) : DL.layB 60 (.lst xs) = true := by
  rw [layB_lst]
  exact (okI_all h 59 (by decide)).1
theorem ne_nil {xs : List D} : (!D.eq (.lst xs) (.lst [])) = !xs.isEmpty := by
  rw [D.eq]
  cases xs with
  | nil => rw [eqL]; rfl
  | cons x xs => simp [eqL]
theorem lay_nil : DL.layB 60 (.lst []) = true := rfl
theorem atZ_h {xs : List D} : atZ xs 0 = xs[0]? := atZ_nat (n := 0)
theorem atZ_last {xs : List D} : atZ xs (-1) = xs[xs.length - 1]? := by
  unfold atZ
  rw [if_neg (by decide)]
  split
  · rw [show ((-1 : Int) + xs.length).toNat = xs.length - 1 by omega]
  · have : xs.length = 0 := by omega
    rw [List.getElem?_eq_none (by omega)]
theorem cut_1 {xs : List D} : cut xs (some 1) none = xs.drop 1 := cut_drop (i := 1)
theorem cut_m1 {xs : List D} : cut xs none (some (-1)) = xs.take (xs.length - 1) := by
  unfold cut HT.sIx
  simp only [List.drop_zero, Nat.sub_zero]
  rw [if_pos (by decide), show ((-1 : Int) + xs.length).toNat = xs.length - 1 by omega]
theorem cut1_ev {xs ys : List D} (hx : ∀ x ∈ xs, okI x = true) (hy : ∀ y ∈ ys, okI y = true) (lx : xs.length ≤ 100) {Po : Post} (q : Po.nx ⟨[some (.val (.lst (xs.drop (com xs ys)))), some (.val (.lst (ys.drop (com xs ys))))], []⟩) : (mWhL m__law_cut_4 m__law_cut_3 1000000 ⟨[some (.val (.lst xs)), some (.val (.lst ys))], []⟩).post Po := by
  have hcl := com_le (xs := xs) (ys := ys)
  refine wh_inv (fun j e => ∃ k, k ≤ com xs ys ∧ j = com xs ys - k ∧ e = ⟨[some (.val (.lst (xs.drop k))), some (.val (.lst (ys.drop k)))], []⟩) ?_ _ (com xs ys) _ (by omega) ⟨0, Nat.zero_le _, rfl, rfl⟩
  rintro j e ⟨k, hk, rfl, rfl⟩
  have l1 := list60 (xs := xs.drop k) fun x hm => hx x (List.mem_of_mem_drop hm)
  have l2 := list60 (xs := ys.drop k) fun x hm => hy x (List.mem_of_mem_drop hm)
  have hat := com_at hk
  have stop : k = com xs ys → Po.nx ⟨[some (.val (.lst (xs.drop k))), some (.val (.lst (ys.drop k)))], []⟩ := fun e => e ▸ q
  simp -implicitDefEqProofs [m__law_cut_4, p_eqD l1 lay_nil, p_eqD l2 lay_nil, ne_nil, atZ_h]
  by_cases h1 : k < xs.length
  · by_cases h2 : k < ys.length
    · have e1 : xs[k]? = some xs[k] := List.getElem?_eq_getElem h1
      have e2 : ys[k]? = some ys[k] := List.getElem?_eq_getElem h2
      simp -implicitDefEqProofs [h1, h2, e1, e2, atZ_h, p_eqD (item60 hx e1) (item60 hy e2)]
      by_cases he : D.eq xs[k] ys[k] = true
      · have hlt : k < com xs ys := hat.mpr ⟨_, _, e1, e2, he⟩
        simp -implicitDefEqProofs [he, m__law_cut_3, cut_1]
        exact ⟨_, by omega, k + 1, by omega, rfl, by simp⟩
      · simp -implicitDefEqProofs [he]
        refine stop (Nat.le_antisymm hk (Nat.not_lt.mp fun hlt => he ?_))
        obtain ⟨x, y, f1, f2, f3⟩ := hat.mp hlt
        rw [e1] at f1
        rw [e2] at f2
        cases f1
        cases f2
        exact f3
    · simp -implicitDefEqProofs [h1, h2]
      exact stop (by omega)
  · simp -implicitDefEqProofs [h1]
    exact stop (by omega)
theorem last_get {U : List D} {k : Nat} (h : k < U.length) : (U.take (U.length - k))[(U.take (U.length - k)).length - 1]? = some (U[U.length - 1 - k]'(by omega)) := by
  rw [List.length_take, show min (U.length - k) U.length - 1 = U.length - 1 - k by omega, List.getElem?_take_of_lt (by omega), List.getElem?_eq_getElem (by omega)]
theorem rev_get {U : List D} {k : Nat} (h : k < U.length) : U.reverse[k]? = some (U[U.length - 1 - k]'(by omega)) := by
  rw [List.getElem?_reverse h, List.getElem?_eq_getElem (by omega)]
theorem take_last {U : List D} {k : Nat} : (U.take (U.length - k)).take ((U.take (U.length - k)).length - 1) = U.take (U.length - (k + 1)) := by
  rw [List.take_take, List.length_take]
  congr 1
  omega
theorem cut2_ev {xs ys : List D} (hx : ∀ x ∈ xs, okI x = true) (hy : ∀ y ∈ ys, okI y = true) (lx : xs.length ≤ 100) {Po : Post} (q : Po.nx ⟨[some (.val (.lst (xs.take (xs.length - com xs.reverse ys.reverse)))), some (.val (.lst (ys.take (ys.length - com xs.reverse ys.reverse))))], []⟩) : (mWhL m__law_cut_2 m__law_cut_1 1000000 ⟨[some (.val (.lst xs)), some (.val (.lst ys))], []⟩).post Po := by
  have hcl := com_le (xs := xs.reverse) (ys := ys.reverse)
  rw [List.length_reverse, List.length_reverse] at hcl
  refine wh_inv (fun j e => ∃ k, k ≤ com xs.reverse ys.reverse ∧ j = com xs.reverse ys.reverse - k ∧ e = ⟨[some (.val (.lst (xs.take (xs.length - k)))), some (.val (.lst (ys.take (ys.length - k))))], []⟩) ?_ _ (com xs.reverse ys.reverse) _ (by omega) ⟨0, Nat.zero_le _, rfl, by simp⟩
  rintro j e ⟨k, hk, rfl, rfl⟩
  have l1 := list60 (xs := xs.take (xs.length - k)) fun x hm => hx x (List.mem_of_mem_take hm)
  have l2 := list60 (xs := ys.take (ys.length - k)) fun x hm => hy x (List.mem_of_mem_take hm)
  have hat := com_at hk
  have stop : k = com xs.reverse ys.reverse → Po.nx ⟨[some (.val (.lst (xs.take (xs.length - k)))), some (.val (.lst (ys.take (ys.length - k))))], []⟩ := fun e => e ▸ q
  by_cases h1 : k < xs.length
  · have n1 : (xs.take (xs.length - k)).isEmpty = false := by
      rw [List.isEmpty_eq_false_iff, Ne, ← List.length_eq_zero_iff, List.length_take]
      omega
    by_cases h2 : k < ys.length
    · have n2 : (ys.take (ys.length - k)).isEmpty = false := by
        rw [List.isEmpty_eq_false_iff, Ne, ← List.length_eq_zero_iff, List.length_take]
        omega
      have e1 := rev_get h1
      have e2 := rev_get h2
      have o1 := item60 hx (List.getElem?_eq_getElem (show xs.length - 1 - k < xs.length by omega))
      have o2 := item60 hy (List.getElem?_eq_getElem (show ys.length - 1 - k < ys.length by omega))
      simp -implicitDefEqProofs only [m__law_cut_2, ev_and, ev_val, ev_2, ev_var0, ev_var1, ev_lstV, ev_nil, bind_ok, p_eqD l1 lay_nil, p_eqD l2 lay_nil, ng_t, ne_nil, n1, n2, toBl_b, Bool.not_false, if_true, ev_D, ev_ixL, atZ_last, last_get h1, last_get h2, allD_nil0, List.length_nil, Nat.zero_le, p_eqD o1 o2, ng_f, p_bind, post_ok]
      by_cases he : D.eq (xs[xs.length - 1 - k]'(by omega)) (ys[ys.length - 1 - k]'(by omega)) = true
      · have hlt : k < com xs.reverse ys.reverse := hat.mpr ⟨_, _, e1, e2, he⟩
        simp -implicitDefEqProofs [he, m__law_cut_1, cut_m1]
        refine ⟨_, ?_, k + 1, by omega, rfl, ?_⟩
        · omega
        · constructor <;> rw [List.take_take] <;> congr 1 <;> omega
      · simp -implicitDefEqProofs [he]
        refine stop (Nat.le_antisymm hk (Nat.not_lt.mp fun hlt => he ?_))
        obtain ⟨x, y, f1, f2, f3⟩ := hat.mp hlt
        rw [e1] at f1
        rw [e2] at f2
        cases f1
        cases f2
        exact f3
    · have n2 : (ys.take (ys.length - k)).isEmpty = true := by
        rw [List.isEmpty_iff, ← List.length_eq_zero_iff, List.length_take]
        omega
      simp -implicitDefEqProofs only [m__law_cut_2, ev_and, ev_val, ev_2, ev_var0, ev_var1, ev_lstV, ev_nil, bind_ok, p_eqD l1 lay_nil, p_eqD l2 lay_nil, ng_t, ne_nil, n1, n2, toBl_b, Bool.not_false, Bool.not_true, if_true, allD_nil0, List.length_nil, Nat.zero_le, p_bind, post_ok]
      exact stop (by omega)
  · have n1 : (xs.take (xs.length - k)).isEmpty = true := by
      rw [List.isEmpty_iff, ← List.length_eq_zero_iff, List.length_take]
      omega
    simp -implicitDefEqProofs only [m__law_cut_2, ev_and, ev_val, ev_2, ev_var0, ev_var1, ev_lstV, ev_nil, bind_ok, p_eqD l1 lay_nil, p_eqD l2 lay_nil, ng_t, ne_nil, n1, toBl_b, Bool.not_false, Bool.not_true, if_true, allD_nil0, List.length_nil, Nat.zero_le, p_bind, post_ok]
    exact stop (by omega)
theorem trL_eq {xs ys : List D} : (xs.drop (com xs ys)).take ((xs.drop (com xs ys)).length - com (xs.drop (com xs ys)).reverse (ys.drop (com xs ys)).reverse) = trL xs ys := by
  unfold trL trA trB
  rw [List.length_drop]
theorem trR_eq {xs ys : List D} : (ys.drop (com xs ys)).take ((ys.drop (com xs ys)).length - com (xs.drop (com xs ys)).reverse (ys.drop (com xs ys)).reverse) = trR xs ys := by
  unfold trR trA trB
  rw [List.length_drop]
theorem cut_ev {xs ys : List D} (hx : ∀ x ∈ xs, okI x = true) (hy : ∀ y ∈ ys, okI y = true) (lx : xs.length ≤ 100) (ly : ys.length ≤ 100) : p__law_cut [.val (.lst xs), .val (.lst ys)] [] = .ok (.val (.tup [.lst (trL xs ys), .lst (trR xs ys)])) [] := eq_post (by
  unfold p__law_cut
  rw [def_post (by simp)]
  simp -implicitDefEqProofs [m__law_cut, wh_ev]
  refine cut1_ev hx hy lx ?_
  refine cut2_ev (fun x hm => hx x (List.mem_of_mem_drop hm)) (fun x hm => hy x (List.mem_of_mem_drop hm)) (by rw [List.length_drop]; omega) ?_
  rw [trL_eq, trR_eq]
  simp)
/-! trimmed -/
theorem tr1_ev {xs ys : List D} (hx : ∀ x ∈ xs, okI x = true) (hy : ∀ y ∈ ys, okI y = true) (lx : xs.length ≤ 100) {Po : Post} (q : Po.nx ⟨[some (.val (.lst xs)), some (.val (.lst ys)), some (.val (.int (min xs.length ys.length : Nat))), some (.val (.int (com xs ys : Nat))), none], []⟩) :
    (mWhL m_trimmed_4 m_trimmed_3 1000000 ⟨[some (.val (.lst xs)), some (.val (.lst ys)), some (.val (.int (min xs.length ys.length : Nat))), some (.val (.int 0)), none], []⟩).post Po := by
  have hcl := com_le (xs := xs) (ys := ys)
  refine wh_inv (fun j e => ∃ k : Nat, k ≤ com xs ys ∧ j = com xs ys - k ∧ e = ⟨[some (.val (.lst xs)), some (.val (.lst ys)), some (.val (.int (min xs.length ys.length : Nat))), some (.val (.int (k : Nat))), none], []⟩) ?_ _ (com xs ys) _ (by omega) ⟨0, Nat.zero_le _, rfl, rfl⟩
  rintro j e ⟨k, hk, rfl, rfl⟩
  have hat := com_at hk
  have stop : k = com xs ys → Po.nx ⟨[some (.val (.lst xs)), some (.val (.lst ys)), some (.val (.int (min xs.length ys.length : Nat))), some (.val (.int (k : Nat))), none], []⟩ := fun e => e ▸ q
  by_cases h0 : k < min xs.length ys.length
  · have e1 : xs[k]? = some (xs[k]'(by omega)) := List.getElem?_eq_getElem (by omega)
    have e2 : ys[k]? = some (ys[k]'(by omega)) := List.getElem?_eq_getElem (by omega)
    simp -implicitDefEqProofs only [m_trimmed_4, ev_and, ev_val, ev_2, ev_var0, ev_var1, ev_var2, ev_var3, bind_ok, ev_lt, show ((k : Int) < (min xs.length ys.length : Nat)) from by omega, decide_true, toBl_b, if_true, ev_ixL, atZ_nat, e1, e2, p_eqD (item60 hx e1) (item60 hy e2), ng_f, p_bind, post_ok]
    by_cases he : D.eq (xs[k]'(by omega)) (ys[k]'(by omega)) = true
    · have hlt : k < com xs ys := hat.mpr ⟨_, _, e1, e2, he⟩
      simp -implicitDefEqProofs [he, m_trimmed_3, mAug]
      exact ⟨_, by omega, k + 1, by omega, rfl, by omega⟩
    · simp -implicitDefEqProofs only [he, if_false, Bool.false_eq_true]
      refine stop (Nat.le_antisymm hk (Nat.not_lt.mp fun hlt => he ?_))
      obtain ⟨x, y, f1, f2, f3⟩ := hat.mp hlt
      rw [e1] at f1
      rw [e2] at f2
      cases f1
      cases f2
      exact f3
  · simp -implicitDefEqProofs only [m_trimmed_4, ev_and, ev_val, ev_2, ev_var0, ev_var1, ev_var2, ev_var3, bind_ok, ev_lt, show ¬ ((k : Int) < (min xs.length ys.length : Nat)) from by omega, decide_false, toBl_b, if_false, Bool.false_eq_true, p_bind, post_ok]
    exact stop (by omega)
theorem atZ_back {xs : List D} {k : Nat} (h : k < xs.length) : atZ xs ((xs.length : Nat) - 1 - (k : Nat)) = some (xs[xs.length - 1 - k]'(by omega)) := by
  rw [show ((xs.length : Nat) : Int) - 1 - (k : Nat) = ((xs.length - 1 - k : Nat) : Int) by omega, atZ_nat, List.getElem?_eq_getElem (by omega)]
theorem rev_drop {xs : List D} {a k : Nat} (h : k < xs.length - a) : (xs.drop a).reverse[k]? = some (xs[xs.length - 1 - k]'(by omega)) := by
  rw [List.getElem?_reverse (by rw [List.length_drop]; exact h), List.length_drop, List.getElem?_drop, show a + (xs.length - a - 1 - k) = xs.length - 1 - k by omega, List.getElem?_eq_getElem (by omega)]
theorem tr2_ev {xs ys : List D} (hx : ∀ x ∈ xs, okI x = true) (hy : ∀ y ∈ ys, okI y = true) (lx : xs.length ≤ 100) {a : Nat} (ha : a ≤ min xs.length ys.length) {Po : Post} (q : Po.nx ⟨[some (.val (.lst xs)), some (.val (.lst ys)), some (.val (.int (min xs.length ys.length : Nat))), some (.val (.int (a : Nat))), some (.val (.int (com (xs.drop a).reverse (ys.drop a).reverse : Nat)))], []⟩) :
    (mWhL m_trimmed_2 m_trimmed_1 1000000 ⟨[some (.val (.lst xs)), some (.val (.lst ys)), some (.val (.int (min xs.length ys.length : Nat))), some (.val (.int (a : Nat))), some (.val (.int 0))], []⟩).post Po := by
  generalize hc : com (xs.drop a).reverse (ys.drop a).reverse = c at q
  have hcl := com_le (xs := (xs.drop a).reverse) (ys := (ys.drop a).reverse)
  rw [List.length_reverse, List.length_reverse, List.length_drop, List.length_drop, hc] at hcl
  refine wh_inv (fun j e => ∃ k : Nat, k ≤ c ∧ j = c - k ∧ e = ⟨[some (.val (.lst xs)), some (.val (.lst ys)), some (.val (.int (min xs.length ys.length : Nat))), some (.val (.int (a : Nat))), some (.val (.int (k : Nat)))], []⟩) ?_ _ c _ (by omega) ⟨0, Nat.zero_le _, rfl, rfl⟩
  rintro j e ⟨k, hk, rfl, rfl⟩
  have hat := com_at (xs := (xs.drop a).reverse) (ys := (ys.drop a).reverse) (k := k) (by rw [hc]; exact hk)
  rw [hc] at hat
  have stop : k = c → Po.nx ⟨[some (.val (.lst xs)), some (.val (.lst ys)), some (.val (.int (min xs.length ys.length : Nat))), some (.val (.int (a : Nat))), some (.val (.int (k : Nat)))], []⟩ := fun e => e ▸ q
  by_cases h0 : k < min xs.length ys.length - a
  · have e1 := rev_drop (xs := xs) (a := a) (k := k) (by omega)
    have e2 := rev_drop (xs := ys) (a := a) (k := k) (by omega)
    have o1 := item60 hx (List.getElem?_eq_getElem (show xs.length - 1 - k < xs.length by omega))
    have o2 := item60 hy (List.getElem?_eq_getElem (show ys.length - 1 - k < ys.length by omega))
    simp -implicitDefEqProofs only [m_trimmed_2, ev_and, ev_val, ev_2, ev_var0, ev_var1, ev_var2, ev_var3, ev_var4, bind_ok, ev_sub, ev_lt, show ((k : Int) < ((min xs.length ys.length : Nat) : Int) - (a : Nat)) from by omega, decide_true, toBl_b, if_true, ev_B, ev_cons, ev_nil, ev_lenL, ev_D, ev_ixL, atZ_back (show k < xs.length by omega), atZ_back (show k < ys.length by omega), p_eqD o1 o2, ng_f, p_bind, post_ok]
    by_cases he : D.eq (xs[xs.length - 1 - k]'(by omega)) (ys[ys.length - 1 - k]'(by omega)) = true
    · have hlt : k < c := hat.mpr ⟨_, _, e1, e2, he⟩
      simp -implicitDefEqProofs [he, m_trimmed_1, mAug]
      exact ⟨_, by omega, k + 1, by omega, rfl, by omega⟩
    · simp -implicitDefEqProofs only [he, if_false, Bool.false_eq_true]
      refine stop (Nat.le_antisymm hk (Nat.not_lt.mp fun hlt => he ?_))
      obtain ⟨x, y, f1, f2, f3⟩ := hat.mp hlt
      rw [e1] at f1
      rw [e2] at f2
      cases f1
      cases f2
      exact f3
  · simp -implicitDefEqProofs only [m_trimmed_2, ev_and, ev_val, ev_2, ev_var0, ev_var1, ev_var2, ev_var3, ev_var4, bind_ok, ev_sub, ev_lt, show ¬ ((k : Int) < ((min xs.length ys.length : Nat) : Int) - (a : Nat)) from by omega, decide_false, toBl_b, if_false, Bool.false_eq_true, p_bind, post_ok]
    exact stop (by omega)
theorem cut_mid {xs : List D} {a b : Nat} (h : a + b ≤ xs.length) : cut xs (some (a : Nat)) (some ((xs.length : Nat) - (b : Nat))) = (xs.drop a).take (xs.length - a - b) := by
  rw [show ((xs.length : Nat) : Int) - (b : Nat) = ((xs.length - b : Nat) : Int) by omega]
  unfold cut
  rw [HT.sIx_nat, HT.sIx_nat, show min a xs.length = a by omega, show min (xs.length - b) xs.length - a = xs.length - a - b by omega]
theorem finO_pair {a b : List D} {sl : List (Option RV)} : finO 0 (.ob 2) ⟨sl, [.lst a, .lst b, .tpr [.ob 0, .ob 1]]⟩ = .ok (.ob 0) [.tpr [.ob 1, .ob 2], .lst a, .lst b] := by
  rfl
theorem allD_o {sl : List (Option RV)} {a : List D} {l : List OD} {rs : List RV} : allD ⟨sl, .lst a :: l⟩ (.ob 0 :: rs) = none := rfl
theorem trimmed_ev {xs ys : List D} (hx : ∀ x ∈ xs, okI x = true) (hy : ∀ y ∈ ys, okI y = true) (lx : xs.length ≤ 100) (ly : ys.length ≤ 100) : p_trimmed [.val (.lst xs), .val (.lst ys)] [] = .ok (.ob 0) [.tpr [.ob 1, .ob 2], .lst (trL xs ys), .lst (trR xs ys)] := eq_post (by
  unfold p_trimmed
  rw [def_post (by simp)]
  have hcl := com_le (xs := xs) (ys := ys)
  have hcl2 := com_le (xs := (xs.drop (com xs ys)).reverse) (ys := (ys.drop (com xs ys)).reverse)
  rw [List.length_reverse, List.length_reverse, List.length_drop, List.length_drop] at hcl2
  have hm : (if ys.length < xs.length then ((ys.length : Nat) : Int) else (xs.length : Nat)) = ((min xs.length ys.length : Nat) : Int) := by split <;> omega
  simp -implicitDefEqProofs [m_trimmed, wh_ev]
  rw [hm]
  refine tr1_ev hx hy lx ?_
  simp -implicitDefEqProofs
  refine tr2_ev hx hy lx (by omega) ?_
  simp -implicitDefEqProofs [cut_mid (xs := xs) (a := com xs ys) (b := com (xs.drop (com xs ys)).reverse (ys.drop (com xs ys)).reverse) (by omega), cut_mid (xs := ys) (a := com xs ys) (b := com (xs.drop (com xs ys)).reverse (ys.drop (com xs ys)).reverse) (by omega)]
  simp -implicitDefEqProofs only [allD_o, post_ok, if_true, finO_pair, FRp_ok]
  exact ⟨trivial, rfl⟩)
end LW
end
section
set_option Elab.async false
set_option linter.all false
set_option autoImplicit false
set_option maxRecDepth 100000
set_option maxHeartbeats 4000000
namespace LW
open PySem PySem.Spec PyProof.Rows DL
open L2 hiding St start
theorem of_item {te : ME} {ds : List D} {sl : List (Option RV)} (h0 : ds ≠ []) (h1 : ds.length < 1000000) (hte : ∀ ob : List OD, te ⟨sl, ob⟩ = mCal [false, true] [] p__law_of [.ob 0, .val (.lst ds)] ⟨sl, ob⟩) : DrawsE te sl 0 1 (fun d => d ∈ ds) := DrawsE.of fun b pl ob h hp hb => by
  rw [hte]
  exact cal_draw1 hp (of_ok h0 h1) hb h fun d pl' hd hp' => ⟨d, pl', rfl, hd, hp', rfl⟩
def someL : List D := [.tup [.str [97], .int 1], .tup [.str [97], .str [121, 101, 115]], .tup [.str [98], .non], .tup [.str [99], .tup [.str [120], .str [121]]], .str [97], .int 0]
theorem some_ok : ∀ d ∈ someL, okI d = true := by
  have : someL.all okI = true := by decide
  exact fun d hd => List.all_eq_true.mp this d hd
theorem cut3 : cut someL none (some 3) = someL.take 3 := cut_take (i := 3)
theorem lists_ok : DrawF p__law_lists [] 20 (fun d => ∃ xs ys, d = .tup [.lst xs, .lst ys] ∧ (∀ x ∈ xs, okI x = true) ∧ (∀ y ∈ ys, okI y = true) ∧ xs.length ≤ 9 ∧ ys.length ≤ 9) := DrawF.of fun b pl hp hb => by
  unfold p__law_lists
  rw [def_post (by simp)]
  simp -implicitDefEqProofs [m__law_lists]
  refine cal_draw1 hp (pick_ok (by decide) (by decide)) (by omega) rfl fun d pl1 ⟨r, e, hr⟩ hp1 => ?_
  subst e
  simp -implicitDefEqProofs [show (r : Int) ≤ 1000000 by omega]
  have len : ∀ r : Nat, (List.map (fun j : Nat => RV.val (D.int (j : Nat))) (List.range r)).length = r := fun r => by simp
  refine lc_draw hp1 (fun r => of_item (ds := someL) (by decide) (by decide) fun ob => rfl) (by rw [len]; omega) (by rw [len]; omega) rfl rfl (fun _ => rfl) fun as pl2 a1 a2 hp2 => ?_
  rw [len] at a1 hp2
  simp -implicitDefEqProofs
  refine cal_draw1 hp2 (pick_ok (by decide) (by decide)) (by omega) rfl fun d pl3 ⟨r3, e, hr3⟩ hp3 => ?_
  subst e
  simp -implicitDefEqProofs [show (r3 : Int) ≤ 1000000 by omega]
  refine lc_draw hp3 (fun r => of_item (ds := someL) (by decide) (by decide) fun ob => rfl) (by rw [len]; omega) (by rw [len]; omega) rfl rfl (fun _ => rfl) fun bs pl4 b1 b2 hp4 => ?_
  rw [len] at b1 hp4
  simp -implicitDefEqProofs
  refine cal_draw1 hp4 (pick_ok (by decide) (by decide)) (by omega) rfl fun d pl5 ⟨r5, e, hr5⟩ hp5 => ?_
  subst e
  simp -implicitDefEqProofs [show (r5 : Int) ≤ 1000000 by omega]
  refine lc_draw hp5 (fun r => of_item (ds := someL.take 3) (by decide) (by decide) fun ob => ?_) (by rw [len]; omega) (by rw [len]; omega) rfl rfl (fun _ => rfl) fun cs pl6 c1 c2 hp6 => ?_
  · rfl
  rw [len] at c1 hp6
  simp -implicitDefEqProofs
  refine cal_draw1 hp6 (pick_ok (by decide) (by decide)) (by omega) rfl fun d pl7 ⟨r7, e, hr7⟩ hp7 => ?_
  subst e
  simp -implicitDefEqProofs [show (r7 : Int) ≤ 1000000 by omega]
  refine lc_draw hp7 (fun r => of_item (ds := someL.take 3) (by decide) (by decide) fun ob => ?_) (by rw [len]; omega) (by rw [len]; omega) rfl rfl (fun _ => rfl) fun ds pl8 d1 d2 hp8 => ?_
  · rfl
  rw [len] at d1 hp8
  simp -implicitDefEqProofs
  have app : ∀ (xs ys zs : List D), (∀ x ∈ xs, x ∈ someL) → (∀ x ∈ ys, x ∈ someL) → (∀ x ∈ zs, x ∈ someL) → ∀ x ∈ xs ++ (ys ++ zs), okI x = true := fun xs ys zs h1 h2 h3 x hx => by
    rcases List.mem_append.mp hx with h | h
    · exact some_ok x (h1 x h)
    · rcases List.mem_append.mp h with h | h
      · exact some_ok x (h2 x h)
      · exact some_ok x (h3 x h)
  have tk : ∀ zs : List D, (∀ x ∈ zs, x ∈ someL.take 3) → ∀ x ∈ zs, x ∈ someL := fun zs h x hx => List.mem_of_mem_take (h x hx)
  refine ⟨by omega, by omega, by omega, by omega, ⟨_, _, ⟨rfl, rfl⟩, app _ _ _ a2 (tk _ c2) b2, app _ _ _ a2 (tk _ d2) b2, ?_, ?_⟩, hp8.mono (by omega)⟩
  · simp; omega
  · simp; omega
/-! parts -/
def L5 : List D := [.str [108, 101, 102, 116], .str [100, 111, 117, 98, 108, 101, 100], .str [115, 119, 97, 112, 112, 101, 100], .str [119, 114, 105, 116, 116, 101, 110], .str [119, 114, 105, 116, 116, 101, 110]]
def L7 : List D := [.str [61], .str [59], .str [44], .str [97], .str [98], .str [49, 50], .str [48]]
def badK : List D := [.str [119, 111, 114, 100], .str [76, 101, 102, 116], .str [], .non, .int 1, .lst [.str [108, 101, 102, 116]]]
def badS : List D := [.int (-1), .bl true, .bl false, .non, .str [48], .tup [.int 1], .int (-100000000000000000000)]
def badO : List D := [.non, .str [], .str [65], .str [97, 32, 98], .int 7, .str [48, 55], .bl true, .str [97, 97, 97, 97, 97, 97, 97, 97, 97, 97, 97, 97, 97], .lst [.str [97]]]
def badP : List D := [.str [97], .str [], .int 0, .bl false, .str [59]]
/-- parts of a slip, sound or not -/
def GP (d : D) : Prop := ∃ k s o f, d = .tup [k, s, o, .bl f] ∧ okI k = true ∧ okI s = true ∧ okI o = true ∧ goodS k s o = f ∧ (f = true → ∃ (kx : List Nat) (n : Nat), k = .str kx ∧ s = .int (n : Nat) ∧ n < 16)
theorem all_d {p : D → Bool} {l : List D} (h : l.all p = true) : ∀ d ∈ l, p d = true := fun d hd => List.all_eq_true.mp h d hd
theorem spot_get {r : Nat} (h : r < 3) : ∃ m : Nat, atZ [D.int 4, .int 8, .int 16] (r : Nat) = some (.int (m : Nat)) ∧ 0 < m ∧ m ≤ 16 := by
  rw [atZ_nat]
  match r, h with
  | 0, _ => exact ⟨4, rfl, by decide, by decide⟩
  | 1, _ => exact ⟨8, rfl, by decide, by decide⟩
  | 2, _ => exact ⟨16, rfl, by decide, by decide⟩
  | n + 3, h => omega
theorem isWr_iff {s : List Nat} : isWr (.str s) = (s == [119, 114, 105, 116, 116, 101, 110]) := rfl
theorem counted_n {n : Nat} : counted (.int (n : Nat)) = true := decide_eq_true (Int.natCast_nonneg n)
theorem nb {a : Bool} (h : (!a) = true) : a = false := by cases a <;> simp_all
theorem parts_ok : DrawF p__law_parts [] 10 GP := DrawF.of fun b pl hp hb => by
  unfold p__law_parts
  rw [def_post (by simp)]
  simp -implicitDefEqProofs [m__law_parts]
  refine cal_draw1 hp (of_ok (by decide) (by decide)) (by omega) rfl fun k pl1 hk hp1 => ?_
  have hk1 : isStr k = true := all_d (l := L5) (by decide) k hk
  have hk2 : memL k kindsL = true := all_d (l := L5) (p := fun k => memL k kindsL) (by decide) k hk
  have hk3 : okI k = true := all_d (l := L5) (by decide) k hk
  obtain ⟨kx, rfl⟩ : ∃ kx, k = .str kx := by
    cases k with
    | str kx => exact ⟨kx, rfl⟩
    | _ => cases hk1
  simp -implicitDefEqProofs
  refine cal_draw1 hp1 (pick_ok (by decide) (by decide)) (by omega) rfl fun d pl2 ⟨r, e, hr⟩ hp2 => ?_
  subst e
  obtain ⟨m, hm, hm1, hm2⟩ := spot_get (r := r) (by omega)
  simp -implicitDefEqProofs [hm]
  refine cal_draw1 hp2 (pick_ok (by omega) (by omega)) (by omega) rfl fun d pl3 ⟨n, e, hn⟩ hp3 => ?_
  subst e
  have hn2 : okI (.int (n : Nat)) = true := by simp; omega
  have rest : ∀ f k' s' o', okI k' = true → okI s' = true → okI o' = true → goodS k' s' o' = f → (f = true → ∃ (kx : List Nat) (n : Nat), k' = .str kx ∧ s' = .int (n : Nat) ∧ n < 16) → ∀ pl', Pl (b + 10) pl' → GP (.tup [k', s', o', .bl f]) ∧ Pl (b + 10) pl' := fun f k' s' o' h1 h2 h3 h4 h5 pl' h6 => ⟨⟨k', s', o', f, rfl, h1, h2, h3, h4, h5⟩, h6⟩
  have badk : ∀ k' ∈ badK, okI k' = true ∧ (isStr k' && memL k' kindsL) = false := by
    have h1 := all_d (l := badK) (p := okI) (by decide)
    have h2 := all_d (l := badK) (p := fun k' => !(isStr k' && memL k' kindsL)) (by decide)
    exact fun k' hk => ⟨h1 k' hk, nb (h2 k' hk)⟩
  have bads : ∀ s' ∈ badS, okI s' = true ∧ counted s' = false := by
    have h1 := all_d (l := badS) (p := okI) (by decide)
    have h2 := all_d (l := badS) (p := fun k' => !counted k') (by decide)
    exact fun k' hk => ⟨h1 k' hk, nb (h2 k' hk)⟩
  by_cases hw : kx = [119, 114, 105, 116, 116, 101, 110]
  · subst hw
    simp -implicitDefEqProofs
    refine cal_draw1 hp3 (of_ok (ds := L7) (by decide) (by decide)) (by omega) rfl fun o pl4 ho hp4 => ?_
    have ho1 : okI o = true := all_d (l := L7) (by decide) o ho
    have ho2 : (isStr o && !(sortD o).isN) = true := all_d (l := L7) (p := fun o => isStr o && !(sortD o).isN) (by decide) o ho
    simp -implicitDefEqProofs
    refine cal_draw1 hp4 (pick_ok (by decide) (by decide)) (by omega) rfl fun d pl5 ⟨w, e, hw⟩ hp5 => ?_
    subst e
    simp -implicitDefEqProofs
    split
    · refine cal_draw1 hp5 (of_ok (ds := badK) (by decide) (by decide)) (by omega) rfl fun k' pl6 hk' hp6 => ?_
      simp -implicitDefEqProofs
      exact rest false k' _ o (badk k' hk').1 hn2 ho1 (by rw [goodS, (badk k' hk').2]; rfl) (by simp) _ (hp6.mono (by omega))
    · split
      · refine cal_draw1 hp5 (of_ok (ds := badS) (by decide) (by decide)) (by omega) rfl fun s' pl6 hs' hp6 => ?_
        simp -implicitDefEqProofs
        exact rest false _ s' o hk3 (bads s' hs').1 ho1 (by rw [goodS, (bads s' hs').2, Bool.and_false]; rfl) (by simp) _ (hp6.mono (by omega))
      · split
        · refine cal_draw1 hp5 (of_ok (ds := badO) (by decide) (by decide)) (by omega) rfl fun o' pl6 ho' hp6 => ?_
          have h1 : okI o' = true := all_d (l := badO) (by decide) o' ho'
          have h2 : (isStr o' && !(sortD o').isN) = false := by
            have := all_d (l := badO) (p := fun o => !(isStr o && !(sortD o).isN)) (by decide) o' ho'
            exact nb this
          simp -implicitDefEqProofs
          exact rest false _ _ o' hk3 hn2 h1 (by rw [goodS, isWr_iff, if_pos (by rfl), h2, Bool.and_false]) (by simp) _ (hp6.mono (by omega))
        · exact rest true _ _ o hk3 hn2 ho1 (by rw [goodS, hk1, hk2, counted_n, isWr_iff, if_pos (by rfl), ho2]; rfl) (fun _ => ⟨_, n, rfl, rfl, by omega⟩) _ (hp5.mono (by omega))
  · have hw2 : (kx == [119, 114, 105, 116, 116, 101, 110]) = false := by simpa using hw
    simp -implicitDefEqProofs [hw]
    refine cal_draw1 hp3 (pick_ok (by decide) (by decide)) (by omega) rfl fun d pl5 ⟨w, e, hw⟩ hp5 => ?_
    subst e
    simp -implicitDefEqProofs [hw2]
    split
    · refine cal_draw1 hp5 (of_ok (ds := badK) (by decide) (by decide)) (by omega) rfl fun k' pl6 hk' hp6 => ?_
      simp -implicitDefEqProofs
      exact rest false k' _ .non (badk k' hk').1 hn2 okI_non (by rw [goodS, (badk k' hk').2]; rfl) (by simp) _ (hp6.mono (by omega))
    · split
      · refine cal_draw1 hp5 (of_ok (ds := badS) (by decide) (by decide)) (by omega) rfl fun s' pl6 hs' hp6 => ?_
        simp -implicitDefEqProofs
        exact rest false _ s' .non hk3 (bads s' hs').1 okI_non (by rw [goodS, (bads s' hs').2, Bool.and_false]; rfl) (by simp) _ (hp6.mono (by omega))
      · split
        · refine cal_draw1 hp5 (of_ok (ds := badP) (by decide) (by decide)) (by omega) rfl fun o' pl6 ho' hp6 => ?_
          have h1 : okI o' = true := all_d (l := badP) (by decide) o' ho'
          have h2 : o'.isN = false := nb (all_d (l := badP) (p := fun o => !o.isN) (by decide) o' ho')
          simp -implicitDefEqProofs
          exact rest false _ _ o' hk3 hn2 h1 (by rw [goodS, isWr_iff, hw2, if_neg (by decide), h2, Bool.and_false]) (by simp) _ (hp6.mono (by omega))
        · exact rest true _ _ .non hk3 hn2 okI_non (by rw [goodS, hk1, hk2, counted_n, isWr_iff, hw2, if_neg (by decide)]; rfl) (fun _ => ⟨_, n, rfl, rfl, by omega⟩) _ (hp5.mono (by omega))
end LW
end
section
set_option Elab.async false
set_option linter.all false
set_option autoImplicit false
set_option maxRecDepth 100000
set_option maxHeartbeats 4000000
namespace LW
open PySem PySem.Spec PyProof.Rows DL
open L2 hiding St start
def v (a : Option D) : Option RV := a.map .val
@[simp] theorem slotB_w {n : Nat} {a : Option D} : slotB n (v a) = true := by cases a <;> rfl
@[simp] theorem v_some {d : D} : v (some d) = some (RV.val d) := rfl
theorem v_none : (none : Option RV) = v none := rfl
theorem eq_refl_lst {xs : List D} (h : ∀ x ∈ xs, okI x = true) : D.eq (.lst xs) (.lst xs) = true := by
  rw [D.eq]
  exact eqL_refl (n := 50) xs fun x hx => okI_lay (h x hx)
theorem okR_bl {b : Bool} : okR (.bl b) = true := by cases b <;> decide
theorem due_item {kx : List Nat} {n : Nat} {o : D} {xs : List D} (h : ∀ x ∈ xs, okI x = true) (ho : okI o = true) : ∀ d ∈ dueL kx n o xs, okI d = true := by
  have g : ∀ k : Nat, okI (xs[k]?.getD .non) = true := fun k => by
    cases hk : xs[k]? with
    | none => simp
    | some x => exact h x (List.mem_of_getElem? hk)
  intro d hd
  unfold dueL at hd
  have tk : ∀ k, d ∈ xs.take k → okI d = true := fun k hd => h d (List.mem_of_mem_take hd)
  have dr : ∀ k, d ∈ xs.drop k → okI d = true := fun k hd => h d (List.mem_of_mem_drop hd)
  repeat' split at hd
  all_goals
    simp only [List.mem_append, List.mem_cons, List.not_mem_nil, or_false] at hd
  · rcases hd with hd | hd
    · exact tk _ hd
    · exact dr _ hd
  · rcases hd with (hd | hd | hd) | hd
    · exact tk _ hd
    · rw [hd]; exact g _
    · rw [hd]; exact g _
    · exact dr _ hd
  · rcases hd with (hd | hd | hd) | hd
    · exact tk _ hd
    · rw [hd]; exact g _
    · rw [hd]; exact g _
    · exact dr _ hd
  · rcases hd with (hd | hd) | hd
    · exact tk _ hd
    · rw [hd]; exact ho
    · exact dr _ hd
theorem due_len {kx : List Nat} {n : Nat} {o : D} {xs : List D} : (dueL kx n o xs).length ≤ xs.length + 2 := by
  unfold dueL
  repeat' split
  all_goals
    simp
    omega
theorem fits_in {kx : List Nat} {n : Nat} {o : D} {zs : List (List Nat)} (h : fitsF kx n o zs = true) : n < zs.length ∧ (kx = swS → n + 1 < zs.length) := by
  unfold fitsF at h
  split at h
  · cases h
  · refine ⟨by omega, fun e => ?_⟩
    rw [if_pos e, Bool.and_eq_true, decide_eq_true_eq] at h
    exact h.1
abbrev sl17 (s1 s3 : Option RV) (sc : D) (a2 a4 a5 a6 a7 a8 a9 a10 a11 a12 a13 a14 a15 a16 : Option D) : List (Option RV) := [some (.val sc), s1, v a2, s3, v a4, v a5, v a6, v a7, v a8, v a9, v a10, v a11, v a12, v a13, v a14, v a15, v a16]
theorem law4 {kx : List Nat} {n : Nat} {o : D} {sc : D} {s1 : Option RV} {a2 a6 a7 a8 a9 a10 a11 a12 a13 a14 a15 a16 : Option D} {kept pl : List D} {b : Nat} {Po : Post} (hn : n < 1180591620717411303424) (ho : okI o = true) (hp : Pl b pl) (hb : b + 112 < 1000000)
    (q : ∀ a9 a10 a11 a12 pl', Pl (b + 112) pl' → Po.nx ⟨sl17 s1 (some (.ob 1)) sc a2 (some (.tup [.str kx, .int (n : Nat), o, .bl true])) (some (slipD (.str kx) (.int (n : Nat)) o)) a6 a7 a8 a9 a10 a11 a12 a13 a14 a15 a16, [.lst kept, .lst pl']⟩) :
    (m_law_4 ⟨sl17 s1 (some (.ob 1)) sc a2 (some (.tup [.str kx, .int (n : Nat), o, .bl true])) (some (slipD (.str kx) (.int (n : Nat)) o)) a6 a7 a8 a9 a10 a11 a12 a13 a14 a15 a16, [.lst kept, .lst pl]⟩).post Po := by
  simp -implicitDefEqProofs [m_law_4]
  refine cal_draw1 hp (tokens_ok (many := 12) (by decide)) (by omega) rfl fun d pl1 ⟨ts, e, t1, t2⟩ hp1 => ?_
  subst e
  obtain ⟨zs, rfl⟩ := all_strs fun t ht => (let ⟨s, e, _⟩ := t2 t ht; ⟨s, e⟩ : ∃ z, t = .str z)
  rw [List.length_map] at t1
  have hz : ∀ z ∈ zs, Tk (.str z) := fun z hz => t2 _ (List.mem_map.mpr ⟨z, hz, rfl⟩)
  have hi : ∀ d ∈ zs.map D.str, okI d = true := fun d hd => (t2 d hd).ok
  have hl := list60 hi
  have f1 := fits_law (kx := kx) (n := n) (f := .bl true) hz ho
  have f2 := fits_slip (kx := kx) (n := n) hz ho
  have f3 := fits_slipT (kx := kx) (n := n) hz ho
  have e1 := eq_refl_lst hi
  have rb := fun e => repr_ev (e := e) (okR_bl (b := fitsF kx n o zs))
  cases hf : fitsF kx n o zs with
  | false =>
    rw [hf] at f1 f2 f3 rb
    have d1 := done_no f2
    have d2 := done_no f3
    have rt := fun hn e => repr_ev (e := e) (okR_tup (ds := [.int (n : Nat)]) (fun d hd => by rw [List.mem_singleton] at hd; rw [hd]; simp; exact hn) (by simp))
    simp only [slipD] at f1 f2 f3 d1 d2 ⊢
    simp -implicitDefEqProofs [f1, f2, f3, d1, d2, tab_fits, tab1, atZ_1, p_eqD hl hl, e1, -p_repr, rb, rt hn]
    exact q (some (.lst (zs.map .str))) (some (.lst (zs.map .str))) (some (.bl false)) (some (.tup [.int (n : Nat)])) _ (hp1.mono (by omega))
  | true =>
    rw [hf] at f1 f2 f3 rb
    obtain ⟨i1, i2⟩ := fits_in hf
    have l1 : (zs.map D.str).length = zs.length := by simp
    have d0 := due_ev (kx := kx) (n := n) (o := o) (f := .bl true) (xs := zs.map .str) (by omega) (by omega) (fun e => by have := i2 e; omega)
    have d1 := done_ok (.inl rfl) f2 (by omega) (by omega) (fun e => by have := i2 e; omega)
    have d2 := done_ok (.inr rfl) f3 (by omega) (by omega) (fun e => by have := i2 e; omega)
    have rt := fun e => repr_ev (e := e) (okR_lst (due_item (kx := kx) (n := n) hi ho) (by have := due_len (kx := kx) (n := n) (o := o) (xs := zs.map D.str); omega))
    simp only [slipD] at f1 f2 f3 d1 d2 ⊢
    simp -implicitDefEqProofs [f1, f2, f3, d0, d1, d2, tab_fits, tab1, atZ_1, p_eqD hl hl, e1, -p_repr, rb, rt]
    exact q (some (.lst (zs.map .str))) (some (.lst (zs.map .str))) (some (.bl true)) (some (.lst (dueL kx n o (zs.map .str)))) _ (hp1.mono (by omega))
/-- what is kept: a slip and its parts -/
def Kp (d : D) : Prop := ∃ (kx : List Nat) (n : Nat) (o : D), d = .tup [slipD (.str kx) (.int (n : Nat)) o, .tup [.str kx, .int (n : Nat), o, .bl true]] ∧ okI (.str kx) = true ∧ okI o = true ∧ goodS (.str kx) (.int (n : Nat)) o = true ∧ n < 16
def isCt : RV → Prop := fun r => ∃ j : Nat, r = .val (.int (j : Nat)) ∧ j ≤ 100
theorem an_own : ansT anl_Slip (.ow 262) = some true := by decide
theorem an_tup : ansT anl_Slip (.bi "tuple") = some false := by decide
theorem law5 {ns : List Int} {a2 a4 a5 a6 a7 a8 a9 a10 a11 a12 a13 a14 a15 a16 : Option D} {kept : List D} {j : Nat} {Po : Post} (hj : j ≤ 100) (hk : ∀ d ∈ kept, Kp d) (hl : kept.length < 100)
    (q : ∀ kept' a4 a5 a6 a9 a10 a11 a12, (∀ d ∈ kept', Kp d) → kept'.length ≤ kept.length + 1 → Po.nx ⟨sl17 (some (.ob 0)) none (.lst (ns.map .int)) (some (.int (j : Nat))) a4 a5 a6 a7 a8 a9 a10 a11 a12 a13 a14 a15 a16, [.lst kept']⟩ ∧ Po.ct ⟨sl17 (some (.ob 0)) none (.lst (ns.map .int)) (some (.int (j : Nat))) a4 a5 a6 a7 a8 a9 a10 a11 a12 a13 a14 a15 a16, [.lst kept']⟩) :
    (m_law_5 ⟨sl17 (some (.ob 0)) none (.lst (ns.map .int)) (some (.int (j : Nat))) a4 a5 a6 a7 a8 a9 a10 a11 a12 a13 a14 a15 a16, [.lst kept]⟩).post Po := by
  obtain ⟨pl, hp, hpool⟩ := pool_ok ns j hj
  simp -implicitDefEqProofs [m_law_5, hpool]
  refine cal_draw0 hp parts_ok (by omega) rfl fun d pl1 ⟨k, s, o, f, e, g1, g2, g3, g4, g5⟩ hp1 => ?_
  subst e
  have okt : ∀ d ∈ [k, s, o], okI d = true := fun d hd => by
    rcases List.mem_cons.mp hd with rfl | hd
    · exact g1
    · rcases List.mem_cons.mp hd with rfl | hd
      · exact g2
      · rw [List.mem_singleton] at hd
        rw [hd]
        exact g3
  have r3 := fun e => repr_ev (e := e) (okR_lst okt (by simp))
  cases f with
  | false =>
    have r1 := fun e => repr_ev (e := e) (okR_tup (ds := [s]) (fun d hd => by rw [List.mem_singleton] at hd; rw [hd]; exact g2) (by simp))
    simp -implicitDefEqProofs [made_bad g1 g2 g3 g4, atZ, -p_repr, r1]
    refine ⟨by simp [goB, wipeE], ?_⟩
    exact (q kept (some (.tup [k, s, o, .bl false])) (some (.tup [s])) a6 a9 a10 a11 a12 hk (by omega)).2
  | true =>
    obtain ⟨kx, n, rfl, rfl, hn⟩ := g5 rfl
    have hm := made_ok (f := .bl true) g1 g2 g3 g4
    simp only [slipD] at hm
    simp -implicitDefEqProofs [hm, atZ, -p_repr, r3, an_own, List.lookup_cons]
    refine for_inv (fun rs e => ∃ b pl a6 a9 a10 a11 a12, e = ⟨sl17 (some (.ob 0)) (some (.ob 1)) (.lst (ns.map .int)) (some (.int (j : Nat))) (some (.tup [.str kx, .int (n : Nat), o, .bl true])) (some (slipD (.str kx) (.int (n : Nat)) o)) a6 a7 a8 a9 a10 a11 a12 a13 a14 a15 a16, [.lst kept, .lst pl]⟩ ∧ Pl b pl ∧ b + 112 * rs.length ≤ 1000 ∧ (∀ r ∈ rs, ∃ d, r = .val d)) ?_ ?_ _ _ ⟨10, pl1, a6, a9, a10, a11, a12, rfl, hp1.mono (by omega), by simp, fun r hr => ?_⟩
    · rintro e ⟨b, pl, a6, a9, a10, a11, a12, rfl, h1, h2, h3⟩
      simp -implicitDefEqProofs [show kept.length < 16777216 by omega, slipD]
      refine ⟨by simp [goB, wipeE], ?_⟩
      refine (q (kept ++ [.tup [slipD (.str kx) (.int (n : Nat)) o, .tup [.str kx, .int (n : Nat), o, .bl true]]]) (some (.tup [.str kx, .int (n : Nat), o, .bl true])) (some (slipD (.str kx) (.int (n : Nat)) o)) a6 a9 a10 a11 a12 (fun d hd => ?_) (by simp)).1
      rcases List.mem_append.mp hd with hd | hd
      · exact hk d hd
      · rw [List.mem_singleton] at hd
        exact ⟨kx, n, o, hd, g1, g3, g4, hn⟩
    · rintro r rs e ⟨b, pl, a6, a9, a10, a11, a12, rfl, h1, h2, h3⟩
      obtain ⟨d, rfl⟩ := h3 r List.mem_cons_self
      have h2' : b + 112 * (rs.length + 1) ≤ 1000 := h2
      simp -implicitDefEqProofs
      refine law4 (a2 := some (.int (j : Nat))) (a6 := some d) (kx := kx) (n := n) (o := o) (by omega) g3 h1 (by omega) ?_
      intro a9 a10 a11 a12 pl' hp'
      exact ⟨b + 112, pl', ⟨some d, a9, a10, a11, a12, rfl⟩, hp', by omega, fun r hr => h3 r (List.mem_cons_of_mem _ hr)⟩
    · obtain ⟨x, _, rfl⟩ := List.mem_map.mp hr
      exact ⟨_, rfl⟩
/-- the kept slips compared -/
theorem eq_ev {kx ky : List Nat} {n m : Nat} {o p : D} (hk : okI (.str kx) = true) (hl : okI (.str ky) = true) (ho : okI o = true) (hp : okI p = true) :
    p_Slip__DOT____eq__ [.val (slipD (.str kx) (.int (n : Nat)) o), .val (slipD (.str ky) (.int (m : Nat)) p)] [] = .ok (.val (.bl (kx == ky && ((n : Int) == (m : Nat)) && D.eq o p))) [] := eq_post (by
  unfold p_Slip__DOT____eq__
  rw [def_post (by simp)]
  simp only [slipD]
  simp -implicitDefEqProofs [m_Slip__DOT____eq__, an_own, List.lookup_cons, p_eqD (layB_mono (m := 60) o (okI_lay ho) (by decide)) (layB_mono (m := 60) p (okI_lay hp) (by decide))]
  by_cases h1 : kx = ky
  · by_cases h2 : (n : Int) = m
    · simp [h1, h2]
    · simp [h1, h2]
  · simp [h1])
theorem eq_tup {kx : List Nat} {n : Nat} {o : D} {ds : List D} : p_Slip__DOT____eq__ [.val (slipD (.str kx) (.int (n : Nat)) o), .val (.tup ds)] [] = .ok (.val (.bl false)) [] := eq_post (by
  unfold p_Slip__DOT____eq__
  rw [def_post (by simp)]
  simp only [slipD]
  simp -implicitDefEqProofs [m_Slip__DOT____eq__, an_tup])
def frzK (r : RV) (e1 : DL.Env) : Res RV := match fzR 9 e1.ob r with
  | some (d, ob') => .ok (.val d) ⟨e1.sl, ob'⟩
  | none => .no
@[simp] theorem ev_frz {m : ME} {e : DL.Env} : mFrz m e = (m e).bind frzK := rfl
@[simp] theorem frzK_l {sl : List (Option RV)} {ds : List D} : frzK (.ob 0) ⟨sl, [.lst ds]⟩ = .ok (.val (.lst ds)) ⟨sl, [.fz (.lst ds)]⟩ := by
  unfold frzK
  rw [fzR]
  rfl
@[simp] theorem frzK_f {sl : List (Option RV)} {d : D} {l : List OD} : frzK (.ob 0) ⟨sl, .fz d :: l⟩ = .ok (.val d) ⟨sl, .fz d :: l⟩ := by
  unfold frzK
  rw [fzR]
  rfl
@[simp] theorem flat_fz {d : D} {l : List OD} : DL.flatB 1 (.fz d :: l) = true := rfl
theorem eq_self {o : D} (h : okI o = true) : D.eq o o = true := by
  have := eqL_refl (n := 50) [o] fun x hx => by
    rw [List.mem_singleton] at hx
    rw [hx]
    exact okI_lay h
  rw [eqL, Bool.and_eq_true] at this
  exact this.1
theorem lay4 {kx : List Nat} {n : Nat} {o : D} (hk : okI (.str kx) = true) (ho : okI o = true) (hn : n < 16) : DL.layB 60 (.tup [.str kx, .int (n : Nat), o, .bl true]) = true := by
  rw [layB_tup]
  refine (okI_all (fun d hd => ?_) 59 (by decide)).1
  simp only [List.mem_cons, List.not_mem_nil, or_false] at hd
  rcases hd with rfl | rfl | rfl | rfl
  · exact hk
  · simp; omega
  · exact ho
  · simp
theorem eq4 {kx ky : List Nat} {n m : Nat} {o p : D} : D.eq (.tup [.str kx, .int (n : Nat), o, .bl true]) (.tup [.str ky, .int (m : Nat), p, .bl true]) = (kx == ky && ((n : Int) == (m : Nat)) && D.eq o p) := by
  rw [D.eq, eqL, eqL, eqL, eqL, eqL, D.eq, D.eq, D.eq]
  simp [Bool.and_assoc]
theorem eq_bl {a b : Bool} : D.eq (.bl a) (.bl b) = (a == b) := by rw [D.eq]
theorem sub_own : subT sul 262 (.ow 262) = true := by decide
theorem sub_tup : subT sul 262 (.bi "tuple") = true := by decide
theorem law2 {kx ky : List Nat} {n m : Nat} {o p : D} {sc : D} {a2 a3 a6 a7 a8 a9 a10 a11 a12 a15 a16 : Option D} {kd : D} {Po : Post} (hk : okI (.str kx) = true) (hl : okI (.str ky) = true) (ho : okI o = true) (hp : okI p = true) (hg : goodS (.str kx) (.int (n : Nat)) o = true) (hn : n < 16) (hm : m < 16)
    (q : Po.nx ⟨sl17 (some (.ob 0)) (v a3) sc a2 (some (.tup [.str kx, .int (n : Nat), o, .bl true])) (some (slipD (.str kx) (.int (n : Nat)) o)) a6 a7 a8 a9 a10 a11 a12 (some (slipD (.str ky) (.int (m : Nat)) p)) (some (.tup [.str ky, .int (m : Nat), p, .bl true])) a15 a16, [.fz kd]⟩) :
    (m_law_2 ⟨sl17 (some (.ob 0)) (v a3) sc a2 (some (.tup [.str kx, .int (n : Nat), o, .bl true])) (some (slipD (.str kx) (.int (n : Nat)) o)) a6 a7 a8 a9 a10 a11 a12 (some (slipD (.str ky) (.int (m : Nat)) p)) (some (.tup [.str ky, .int (m : Nat), p, .bl true])) a15 a16, [.fz kd]⟩).post Po := by
  have e1 := eq_ev (n := n) (m := m) hk hl ho hp
  have e2 := eq_tup (kx := kx) (n := n) (o := o) (ds := [.str kx, .int (n : Nat), o, .bl true])
  have e3 := eq_ev (n := n) (m := n) hk hk ho ho
  have l1 := lay4 hk ho hn
  have l2 := lay4 hl hp hm
  simp only [slipD] at e1 e2 e3 ⊢
  simp -implicitDefEqProofs [sl17, m_law_2, tab___eq__, tab1, e1, e2, sub_own, sub_tup, p_eqD l1 l2, eq4, p_eqD (layB_bl (n := 60)) (layB_bl (n := 60)), eq_bl, atZ]
  refine p_new3 hk (by simp; omega) ho hg rfl (by simp [goB, wipeE]) ?_
  simp only [slipD]
  simp -implicitDefEqProofs [e3, sub_own, eq_self ho]
  simp only [slipD] at q
  exact q
end LW
end
section
set_option Elab.async false
set_option linter.all false
set_option autoImplicit false
set_option maxRecDepth 100000
set_option maxHeartbeats 4000000
namespace LW
open PySem PySem.Spec PyProof.Rows DL
open L2 hiding St start
theorem law3 {kept : List D} {kx : List Nat} {n : Nat} {o : D} {sc : D} {a2 a3 a6 a7 a8 a9 a10 a11 a12 a13 a14 a15 a16 : Option D} {Po : Post} (hkp : ∀ d ∈ kept, Kp d) (hk : okI (.str kx) = true) (ho : okI o = true) (hg : goodS (.str kx) (.int (n : Nat)) o = true) (hn : n < 16) {ob : List OD} (hob : ob = [.lst kept] ∨ ob = [.fz (.lst kept)])
    (q : ∀ a13 a14, Po.nx ⟨sl17 (some (.ob 0)) (v a3) sc a2 (some (.tup [.str kx, .int (n : Nat), o, .bl true])) (some (slipD (.str kx) (.int (n : Nat)) o)) a6 a7 a8 a9 a10 a11 a12 a13 a14 a15 a16, [.fz (.lst kept)]⟩) :
    (m_law_3 ⟨sl17 (some (.ob 0)) (v a3) sc a2 (some (.tup [.str kx, .int (n : Nat), o, .bl true])) (some (slipD (.str kx) (.int (n : Nat)) o)) a6 a7 a8 a9 a10 a11 a12 a13 a14 a15 a16, ob⟩).post Po := by
  have key : (mForL (mTp 2 (mgCons (mNm 13) (mgCons (mNm 14) mgNil))) m_law_2 (kept.map .val) ⟨sl17 (some (.ob 0)) (v a3) sc a2 (some (.tup [.str kx, .int (n : Nat), o, .bl true])) (some (slipD (.str kx) (.int (n : Nat)) o)) a6 a7 a8 a9 a10 a11 a12 a13 a14 a15 a16, [.fz (.lst kept)]⟩).post Po := by
    refine for_inv (fun rs e => ∃ a13 a14, e = ⟨sl17 (some (.ob 0)) (v a3) sc a2 (some (.tup [.str kx, .int (n : Nat), o, .bl true])) (some (slipD (.str kx) (.int (n : Nat)) o)) a6 a7 a8 a9 a10 a11 a12 a13 a14 a15 a16, [.fz (.lst kept)]⟩ ∧ (∀ r ∈ rs, ∃ d, r = .val d ∧ Kp d)) ?_ ?_ _ _ ⟨a13, a14, rfl, fun r hr => ?_⟩
    · rintro e ⟨a13, a14, rfl, _⟩
      exact q a13 a14
    · rintro r rs e ⟨a13, a14, rfl, h3⟩
      obtain ⟨d, rfl, ky, m, p, rfl, g1, g2, g3, g4⟩ := h3 r List.mem_cons_self
      have e1 : mTp 2 (mgCons (mNm 13) (mgCons (mNm 14) mgNil)) (.val (.tup [slipD (.str ky) (.int (m : Nat)) p, .tup [.str ky, .int (m : Nat), p, .bl true]])) ⟨sl17 (some (.ob 0)) (v a3) sc a2 (some (.tup [.str kx, .int (n : Nat), o, .bl true])) (some (slipD (.str kx) (.int (n : Nat)) o)) a6 a7 a8 a9 a10 a11 a12 a13 a14 a15 a16, [.fz (.lst kept)]⟩ =
        some ⟨sl17 (some (.ob 0)) (v a3) sc a2 (some (.tup [.str kx, .int (n : Nat), o, .bl true])) (some (slipD (.str kx) (.int (n : Nat)) o)) a6 a7 a8 a9 a10 a11 a12 (some (slipD (.str ky) (.int (m : Nat)) p)) (some (.tup [.str ky, .int (m : Nat), p, .bl true])) a15 a16, [.fz (.lst kept)]⟩ := rfl
      rw [e1]
      refine law2 hk g1 ho g2 hg hn g4 ?_
      exact ⟨_, _, rfl, fun r hr => h3 r (List.mem_cons_of_mem _ hr)⟩
    · obtain ⟨d, hd, rfl⟩ := List.mem_map.mp hr
      exact ⟨d, rfl, hkp d hd⟩
  rcases hob with rfl | rfl
  · simp -implicitDefEqProofs only [m_law_3, ev_for, ev_seqI, ev_frz, sl17, ev_var1, bind_ok, frzK_l, items_l, run_ok, p_run, p_bind, post_ok]
    exact key
  · simp -implicitDefEqProofs only [m_law_3, ev_for, ev_seqI, ev_frz, sl17, ev_var1, bind_ok, frzK_f, items_l, run_ok, p_run, p_bind, post_ok]
    exact key
/-! the two lists -/
theorem back_t {sl : List (Option RV)} {ob : List OD} {a b : List D} : (FR.ok (.ob 0) [.tpr [.ob 1, .ob 2], .lst a, .lst b]).back ⟨sl, ob⟩ = .ok (.ob ob.length) ⟨sl, ob ++ [.tpr [.ob (ob.length + 1), .ob (ob.length + 2)], .lst a, .lst b]⟩ := by
  unfold FR.back
  simp [RV.ren, OD.ren, out]
theorem okR_two {a b : List D} (h1 : ∀ d ∈ a, okI d = true) (h2 : ∀ d ∈ b, okI d = true) (l1 : a.length ≤ 9) (l2 : b.length ≤ 9) : okR (.tup [.lst a, .lst b]) = true := by
  obtain ⟨a1, a2, a3⟩ := okI_all h1 58 (by decide)
  obtain ⟨b1, b2, b3⟩ := okI_all h2 58 (by decide)
  unfold okR
  rw [layB_tup, List.all_cons, List.all_cons, List.all_nil, layB_lst, layB_lst, a1, b1, rB, rBL, rBL, rBL, rB, rB, a2, b2, rW, rWL, rWL, rWL, rW, rW]
  simp
  omega
theorem lay_two {a b : List D} (h1 : ∀ d ∈ a, okI d = true) (h2 : ∀ d ∈ b, okI d = true) : DL.layB 60 (.lst [.lst a, .lst b]) = true := by
  rw [layB_lst, List.all_cons, List.all_cons, List.all_nil, layB_lst, layB_lst, (okI_all h1 58 (by decide)).1, (okI_all h2 58 (by decide)).1]
  rfl
theorem eq_two {a b : List D} (h1 : ∀ d ∈ a, okI d = true) (h2 : ∀ d ∈ b, okI d = true) : D.eq (.lst [.lst a, .lst b]) (.lst [.lst a, .lst b]) = true := by
  rw [D.eq, eqL, eqL, eqL, eq_refl_lst h1, eq_refl_lst h2]
  rfl
theorem repr_told {sl : List (Option RV)} {x y : OD} {a b : List D} (h : okR (.tup [.lst a, .lst b]) = true) : reprM ⟨sl, [x, y, .tpr [.ob 3, .ob 4], .lst a, .lst b]⟩ [.ob 2] = .ok (.val (.str (reprL (.tup [.lst a, .lst b])))) ⟨sl, [x, y, .tpr [.ob 3, .ob 4], .lst a, .lst b]⟩ := by
  have e1 : rd ⟨sl, [x, y, .tpr [.ob 3, .ob 4], .lst a, .lst b]⟩ (.ob 2) = some (.tup [.lst a, .lst b]) := by
    unfold rd
    rw [fzR]
    show (match (match fzL 8 [x, y, OD.tpr [.ob 3, .ob 4], OD.lst a, OD.lst b] [RV.ob 3, RV.ob 4] with
      | some (ds, ob') => (match ob'[2]? with
        | some (OD.tpr _) => some (D.tup ds, ob'.set 2 (OD.fz (.tup ds)))
        | _ => none)
      | none => none) with
      | some (d, _) => some d
      | none => none) = _
    rw [fzL, fzR]
    dsimp only [List.getElem?_cons_succ, List.getElem?_cons_zero, List.set]
    rw [fzL, fzR]
    dsimp only [List.getElem?_cons_succ, List.getElem?_cons_zero, List.set]
    rw [fzL]
    rfl
  unfold reprM b1
  dsimp only
  rw [e1]
  dsimp only
  rw [if_pos (okR_ok h)]
theorem fzK_two {sl : List (Option RV)} {ob : List OD} {a b : List D} (hg : goB [] ob.length ⟨sl, ob⟩ = true) : fzK ob.length (.ob ob.length) ⟨sl, ob ++ [.tpr [.ob (ob.length + 1), .ob (ob.length + 2)], .lst a, .lst b]⟩ = .ok (.val (.tup [.lst a, .lst b])) ⟨sl, ob⟩ := by
  have e0 : ∀ (x y z : OD), (ob ++ [x, y, z])[ob.length]? = some x := fun x y z => by simp
  have e1 : ∀ (x y z : OD), (ob ++ [x, y, z])[ob.length + 1]? = some y := fun x y z => by
    rw [List.getElem?_append_right (by omega), show ob.length + 1 - ob.length = 1 by omega]
    rfl
  have e2 : ∀ (x y z : OD), (ob ++ [x, y, z])[ob.length + 2]? = some z := fun x y z => by
    rw [List.getElem?_append_right (by omega), show ob.length + 2 - ob.length = 2 by omega]
    rfl
  have s0 : ∀ (x y z w : OD), (ob ++ [x, y, z]).set ob.length w = ob ++ [w, y, z] := fun x y z w => by
    rw [List.set_append_right _ _ (by omega), show ob.length - ob.length = 0 by omega]
    rfl
  have s1 : ∀ (x y z w : OD), (ob ++ [x, y, z]).set (ob.length + 1) w = ob ++ [x, w, z] := fun x y z w => by
    rw [List.set_append_right _ _ (by omega), show ob.length + 1 - ob.length = 1 by omega]
    rfl
  have s2 : ∀ (x y z w : OD), (ob ++ [x, y, z]).set (ob.length + 2) w = ob ++ [x, y, w] := fun x y z w => by
    rw [List.set_append_right _ _ (by omega), show ob.length + 2 - ob.length = 2 by omega]
    rfl
  unfold fzK
  have h : fzR 9 (ob ++ [.tpr [.ob (ob.length + 1), .ob (ob.length + 2)], .lst a, .lst b]) (.ob ob.length) = some (.tup [.lst a, .lst b], ob ++ [.fz (.tup [.lst a, .lst b]), .fz (.lst a), .fz (.lst b)]) := by
    rw [fzR, e0]
    dsimp only
    rw [fzL, fzR, e1]
    dsimp only
    rw [s1, fzL, fzR, e2]
    dsimp only
    rw [s2, fzL]
    dsimp only
    rw [e0]
    dsimp only
    rw [s0]
  dsimp only
  rw [h]
  dsimp only
  have g2 : goB [] ob.length ⟨sl, ob ++ [.fz (.tup [.lst a, .lst b]), .fz (.lst a), .fz (.lst b)]⟩ = true := by
    unfold goB DL.flatB at hg ⊢
    dsimp only at hg ⊢
    rw [List.take_append_of_le_length (Nat.le_refl _), List.take_length]
    rw [List.take_length] at hg
    exact hg
  rw [if_pos g2, List.take_append_of_le_length (Nat.le_refl _), List.take_length]
theorem tr_item {xs ys : List D} (hx : ∀ x ∈ xs, okI x = true) : ∀ d ∈ trL xs ys, okI d = true := fun d hd => hx d (List.mem_of_mem_drop (List.mem_of_mem_take hd))
theorem tr_itemR {xs ys : List D} (hy : ∀ x ∈ ys, okI x = true) : ∀ d ∈ trR xs ys, okI d = true := fun d hd => hy d (List.mem_of_mem_drop (List.mem_of_mem_take hd))
theorem tr_len {xs ys : List D} : (trL xs ys).length ≤ xs.length ∧ (trR xs ys).length ≤ ys.length := by
  unfold trL trR
  constructor
  · rw [List.length_take, List.length_drop]; omega
  · rw [List.length_take, List.length_drop]; omega
@[simp] theorem ty_tpr {sl : List (Option RV)} {x y : OD} {rs : List RV} {l : List OD} : tyOf ⟨sl, x :: y :: .tpr rs :: l⟩ (.ob 2) = some "tuple" := rfl
theorem its_told {sl : List (Option RV)} {x y : OD} {rs : List RV} {l : List OD} : itsR ⟨sl, x :: y :: .tpr rs :: l⟩ (.ob 2) = some rs := rfl
theorem ixO_told {sl : List (Option RV)} {x y : OD} {r : RV} {rs : List RV} {l : List OD} : ixOM ⟨sl, x :: y :: .tpr (r :: rs) :: l⟩ (.ob 2) (.val (.int 0)) = .ok r ⟨sl, x :: y :: .tpr (r :: rs) :: l⟩ := rfl
@[simp] theorem tbLs_3 {sl : List (Option RV)} {x y z : OD} {ds : List D} {l : List OD} : tbLs ⟨sl, x :: y :: z :: .lst ds :: l⟩ (.ob 3) = true := rfl
theorem fzK_5 {sl : List (Option RV)} {x1 x2 x3 x4 x5 : OD} {a b : List D} (hg : goB [] 5 ⟨sl, [x1, x2, x3, x4, x5]⟩ = true) : fzK 5 (.ob 5) ⟨sl, [x1, x2, x3, x4, x5, .tpr [.ob 6, .ob 7], .lst a, .lst b]⟩ = .ok (.val (.tup [.lst a, .lst b])) ⟨sl, [x1, x2, x3, x4, x5]⟩ := fzK_two (ob := [x1, x2, x3, x4, x5]) hg
theorem law1 {ns : List Int} {kd : D} {j : Nat} {a4 a5 a6 a7 a9 a10 a11 a12 a13 a14 a15 a16 : Option D} {Po : Post} (hj : j ≤ 100)
    (q : ∀ a7 a15 a16, Po.nx ⟨[some (.val (.lst (ns.map .int))), some (.ob 0), some (.val (.int (j : Nat))), none, v a4, v a5, v a6, v a7, none, v a9, v a10, v a11, v a12, v a13, v a14, v a15, v a16], [.fz kd]⟩) :
    (m_law_1 ⟨[some (.val (.lst (ns.map .int))), some (.ob 0), some (.val (.int (j : Nat))), none, v a4, v a5, v a6, v a7, none, v a9, v a10, v a11, v a12, v a13, v a14, v a15, v a16], [.fz kd]⟩).post Po := by
  obtain ⟨pl, hp, hpool⟩ := pool_ok ns j hj
  simp -implicitDefEqProofs [m_law_1, hpool]
  refine cal_draw0 hp lists_ok (by omega) rfl fun d pl1 ⟨xs, ys, e, h1, h2, l1, l2⟩ hp1 => ?_
  subst e
  have t1 := trimmed_ev h1 h2 (by omega) (by omega)
  have t2 := trimmed_ev h2 h1 (by omega) (by omega)
  have c1 := cut_ev h1 h2 (by omega) (by omega)
  have c2 := cut_ev h2 h1 (by omega) (by omega)
  simp -implicitDefEqProofs [asK, mTp, mgCons, mgNil, t1, back_t]
  have r1 := fun sl x y => repr_told (sl := sl) (x := x) (y := y) (okR_two (tr_item (ys := ys) h1) (tr_itemR (xs := xs) h2) (by have := tr_len (xs := xs) (ys := ys); omega) (by have := tr_len (xs := xs) (ys := ys); omega))
  have r2 := fun e => repr_ev (e := e) (okR_two (tr_item (ys := ys) h1) (tr_itemR (xs := xs) h2) (by have := tr_len (xs := xs) (ys := ys); omega) (by have := tr_len (xs := xs) (ys := ys); omega))
  have r3 := fun e => repr_ev (e := e) (okR_two (tr_item (ys := xs) h2) (tr_itemR (xs := ys) h1) (by have := tr_len (xs := ys) (ys := xs); omega) (by have := tr_len (xs := ys) (ys := xs); omega))
  have y1 := lay_two h1 h2
  have y2 := eq_two h1 h2
  have tl := tr_len (xs := xs) (ys := ys)
  simp -implicitDefEqProofs [r1, r2, -p_repr, atZ, c1, c2, p_eqD y1 y1, y2, ixO_told, t2, back_t, show (trL xs ys).length < 16777216 by omega]
  rw [fzK_5 (by simp [goB, wipeE, DL.flatB, OD.below, RV.below])]
  simp -implicitDefEqProofs [r3, -p_repr, atZ, c2]
  refine ⟨by simp [goB, wipeE], ?_⟩
  exact q (some (.lst [.lst xs, .lst ys])) (some (.lst xs)) (some (.lst ys))
theorem law_true (ns : List Int) (hl : ns.length ≤ 63) : p_law [.val (.lst (ns.map .int))] [] = .ok (.val (.bl true)) [] := eq_post (by
  unfold p_law
  rw [def_post (by simp)]
  simp -implicitDefEqProofs [m_law]
  refine for_inv (fun rs e => ∃ kept a2 a4 a5 a6 a9 a10 a11 a12, e = ⟨sl17 (some (.ob 0)) none (.lst (ns.map .int)) a2 a4 a5 a6 none none a9 a10 a11 a12 none none none none, [.lst kept]⟩ ∧ (∀ d ∈ kept, Kp d) ∧ kept.length + rs.length ≤ 10 ∧ (∀ r ∈ rs, isCt r)) ?_ ?_ _ _ ⟨[], none, none, none, none, none, none, none, none, rfl, fun d hd => (by cases hd), by simp, fun r hr => ?_⟩
  · rintro e ⟨kept, a2, a4, a5, a6, a9, a10, a11, a12, rfl, hk, hl, _⟩
    simp -implicitDefEqProofs
    refine for_inv (fun rs e => ∃ a2 a4 a5 a6 a9 a10 a11 a12 a13 a14, e = ⟨sl17 (some (.ob 0)) (v none) (.lst (ns.map .int)) a2 a4 a5 a6 none none a9 a10 a11 a12 a13 a14 none none, [.fz (.lst kept)]⟩ ∧ (∀ r ∈ rs, ∃ d, r = .val d ∧ Kp d)) ?_ ?_ _ _ ⟨a2, a4, a5, a6, a9, a10, a11, a12, none, none, rfl, fun r hr => ?_⟩
    · rintro e ⟨a2, a4, a5, a6, a9, a10, a11, a12, a13, a14, rfl, _⟩
      refine for_inv (fun rs e => ∃ a2 a4 a5 a6 a7 a9 a10 a11 a12 a13 a14 a15 a16, e = ⟨[some (.val (.lst (ns.map .int))), some (.ob 0), v a2, none, v a4, v a5, v a6, v a7, none, v a9, v a10, v a11, v a12, v a13, v a14, v a15, v a16], [.fz (.lst kept)]⟩ ∧ (∀ r ∈ rs, isCt r)) ?_ ?_ _ _ ⟨a2, a4, a5, a6, none, a9, a10, a11, a12, a13, a14, none, none, rfl, fun r hr => ?_⟩
      · rintro e ⟨a2, a4, a5, a6, a7, a9, a10, a11, a12, a13, a14, a15, a16, rfl, _⟩
        simp
      · rintro r rs e ⟨a2, a4, a5, a6, a7, a9, a10, a11, a12, a13, a14, a15, a16, rfl, h3⟩
        obtain ⟨j, rfl, hj⟩ := h3 r List.mem_cons_self
        simp -implicitDefEqProofs only [nm_ev]
        refine law1 hj ?_
        intro a7 a15 a16
        exact ⟨some (.int (j : Nat)), a4, a5, a6, a7, a9, a10, a11, a12, a13, a14, a15, a16, rfl, fun r hr => h3 r (List.mem_cons_of_mem _ hr)⟩
      · obtain ⟨x, hx, rfl⟩ := List.mem_map.mp hr
        rw [List.mem_range] at hx
        exact ⟨4 + x, by simp, by omega⟩
    · rintro r rs e ⟨a2, a4, a5, a6, a9, a10, a11, a12, a13, a14, rfl, h3⟩
      obtain ⟨d, rfl, kx, n, o, rfl, g1, g2, g3, g4⟩ := h3 r List.mem_cons_self
      have e1 : mTp 2 (mgCons (mNm 5) (mgCons (mNm 4) mgNil)) (.val (.tup [slipD (.str kx) (.int (n : Nat)) o, .tup [.str kx, .int (n : Nat), o, .bl true]])) ⟨sl17 (some (.ob 0)) (v none) (.lst (ns.map .int)) a2 a4 a5 a6 none none a9 a10 a11 a12 a13 a14 none none, [.fz (.lst kept)]⟩ =
        some ⟨sl17 (some (.ob 0)) (v none) (.lst (ns.map .int)) a2 (some (.tup [.str kx, .int (n : Nat), o, .bl true])) (some (slipD (.str kx) (.int (n : Nat)) o)) a6 none none a9 a10 a11 a12 a13 a14 none none, [.fz (.lst kept)]⟩ := rfl
      rw [e1]
      refine law3 hk g1 g2 g3 g4 (.inr rfl) ?_
      intro a13 a14
      exact ⟨_, _, _, _, _, _, _, _, _, _, rfl, fun r hr => h3 r (List.mem_cons_of_mem _ hr)⟩
    · obtain ⟨d, hd, rfl⟩ := List.mem_map.mp hr
      exact ⟨d, rfl, hk d hd⟩
  · rintro r rs e ⟨kept, a2, a4, a5, a6, a9, a10, a11, a12, rfl, hk, hl, h3⟩
    obtain ⟨j, rfl, hj⟩ := h3 r List.mem_cons_self
    simp -implicitDefEqProofs only [nm_ev]
    have hl' : kept.length + (rs.length + 1) ≤ 10 := hl
    refine law5 (a2 := none) (a4 := a4) (a5 := a5) (a6 := a6) (a7 := none) (a8 := none) (a9 := a9) (a10 := a10) (a11 := a11) (a12 := a12) (a13 := none) (a14 := none) (a15 := none) (a16 := none) hj hk (by omega) ?_
    intro kept' a4 a5 a6 a9 a10 a11 a12 hk' hl2
    exact ⟨⟨kept', _, a4, a5, a6, a9, a10, a11, a12, rfl, hk', by omega, fun r hr => h3 r (List.mem_cons_of_mem _ hr)⟩, ⟨kept', _, a4, a5, a6, a9, a10, a11, a12, rfl, hk', by omega, fun r hr => h3 r (List.mem_cons_of_mem _ hr)⟩⟩
  · obtain ⟨x, hx, rfl⟩ := List.mem_map.mp hr
    rw [List.mem_range] at hx
    exact ⟨x, rfl, by omega⟩)
end LW
end
section
set_option Elab.async false
set_option linter.all false
set_option autoImplicit false
set_option maxRecDepth 100000
set_option maxHeartbeats 0
namespace LW
open PySem PySem.Spec PyProof.Rows DL
open L2 hiding St start
def top (i : Nat) : Stmt := PySem.Challenge.pw_slipreach_k08_slips_done_and_lists_trimm.main.body.getD i (.Pass ⟨0, 0, 0, 0⟩)
def cbody : Stmt → List Stmt
  | .ClassDef _ _ _ b _ _ _ _ _ _ _ => b
  | _ => []
def nmX : List Str := (["SettingsError", "BadText", "BadLanguage", "Unreadable", "Unwritable", "BadSlip", "BadRule", "BadFilling", "NotPlaced", "BadSetting", "BadSchema", "NoSetting", "NoEntry", "UnknownName", "WrongKind", "DoubledName", "BadLayers", "BadLayer", "TopLacking", "Lacking", "EmptyList", "BadMove", "BadEdition", "BadPath", "Reused", "BadTable", "BadKind", "BadBuilder", "BadSettings", "TooManyConducts", "WrongTable", "BadTest", "Refused", "BadRows", "BadColumn", "TooManyRows", "BadHouse", "BadFiles", "NotTaken", "FarReach", "BadGoal", "BadGuard", "BadOld", "BadPair", "BadPreview", "BadRow", "BadDifference", "BadHouses", "NoHouse", "Blocked", "BadPage"] : List String).map Str.ofString
def nmC : List Str := (["Meeting", "Likeness", "Beside", "CodeSide", "Builder", "Case", "Gap", "Checked", "Condition", "Conduct", "Console", "Holding", "Deed", "Delete", "Change", "Store", "Trial", "Edition", "Joined", "Example", "Found", "Fates", "Plan", "House", "Side", "Joint", "Setting", "Language", "Lead", "Leader", "Lift", "Matrix", "Move", "Rename", "Drop", "Add", "Preset", "Wrap", "Split", "Replay", "Group", "Pair", "Parting", "Paper", "Study", "Path", "Words", "Played", "Preview", "SilentSlip", "Reach", "Table", "SlipRule", "RowSide", "Execution", "Run", "Schema", "Shape", "Window", "Scene", "ListPair", "Pairing", "Slip", "Start", "BuilderText", "TextReader", "Trail"] : List String).map Str.ofString
def nmF : List Str := (["pair", "row", "joints", "must_take", "outcomes", "first", "second", "found", "differences", "word", "house", "words", "fresh", "spots", "numbers", "_lists", "_letters", "_plain", "known", "place", "moves", "heard", "shape", "parts", "weight", "schema", "name", "lift", "below", "top_seen", "entries", "seens", "places", "table", "code", "key", "is_empty", "changes", "present", "done", "undone", "blocked_by", "console", "held", "held_done", "held_undone", "held_blocked", "condition", "kept", "store", "most", "lasting", "count", "rows_before", "elder", "later", "origins", "at", "option", "awaited", "entry", "worth", "symbol", "side", "what", "layer", "line", "part", "stage", "file", "slip", "goal", "index", "error", "files", "beside", "case", "ways", "extras", "rule", "_table", "_names", "_settings", "language", "builder", "layers", "names", "plain_lists", "known_lists", "known_steps", "group", "weights", "came", "kind", "default", "elders", "join", "demand", "filled", "equals", "end", "comma", "last", "doubled", "bare", "nothing", "options", "closing", "written", "traces", "edition", "check", "tokens", "trace", "form", "houses", "answers", "old", "new", "setting", "other", "more", "less", "is_same", "difference", "example", "pool", "olds", "papers", "editions", "source", "lost", "common", "shapes", "columns", "kinds", "looks", "values_given", "working", "current", "trail", "forms", "rows", "unknown", "wrong", "empty", "role", "token", "owner", "before", "after", "unlike", "fixed", "ahead", "behind", "joint", "text", "symbols", "has_head", "has_tail", "unended", "head", "tail", "unslipped", "slipped", "sides", "letters", "lead", "told", "amounts", "loops", "members", "statements", "named", "blocks", "starts", "over", "state"] : List String).map Str.ofString
def nm : Nat → Str := fun i => if i < 200 then nmX.getD (i - 100) "" else if i < 300 then nmC.getD (i - 200) "" else nmF.getD (i - 300) ""
/-- what the module says -/
structure Fs (T : Cn) : Prop where
  f_abs : T.mg "abs" = none
  f_bool : T.mg "bool" = none
  f_int : T.mg "int" = none
  f_isinstance : T.mg "isinstance" = none
  f_len : T.mg "len" = none
  f_list : T.mg "list" = none
  f_min : T.mg "min" = none
  f_range : T.mg "range" = none
  f_repr : T.mg "repr" = none
  f_str : T.mg "str" = none
  f_sum : T.mg "sum" = none
  f_tuple : T.mg "tuple" = none
  c_DIGITS : GC T "DIGITS" (.str digS)
  c_LETTERS : GC T "LETTERS" (.str azS)
  c_LONGEST : GC T "LONGEST" (.int 12)
  c_SIGNS : GC T "SIGNS" (.tup [.str [61], .str [59], .str [44], .str [91], .str [93]])
  c_SLIP_KINDS : GC T "SLIP_KINDS" (.tup [.str [108, 101, 102, 116], .str [100, 111, 117, 98, 108, 101, 100], .str [115, 119, 97, 112, 112, 101, 100], .str [119, 114, 105, 116, 116, 101, 110]])
  g_BadSlip : T.mg "BadSlip" = some (.ref (He.ga T.K "BadSlip"))
  x_BadSlip : ∀ c k, isA_BadSlip c = some k → ∀ C, T.mg (T.nm c) = some (.ref C) → PySem.W.exmOne T.K (.ref C) (.ref (He.ga T.K "BadSlip")) = some k
  xf_at : ∀ c ∈ [105], ∀ C, T.mg (T.nm c) = some (.ref C) → XfC T.K C ∧ PySem.W.findIn T.K (.ref C) (T.nm 357) = some none
  okf : OkF T okF
  m_fits : OkM T okF "fits"
  a_Slip : AnsC T "Slip" an_Slip
def s_trimmed : Stmt := top 15
def d_trimmed : He.DefD := ⟨("trimmed", none), "trimmed", "trimmed", defArgs s_trimmed, defBody s_trimmed, defScope s_trimmed, [], []⟩
def s__law_cut : Stmt := top 28
def d__law_cut : He.DefD := ⟨("_law_cut", none), "_law_cut", "_law_cut", defArgs s__law_cut, defBody s__law_cut, defScope s__law_cut, [], []⟩
def s__law_pick : Stmt := top 18
def d__law_pick : He.DefD := ⟨("_law_pick", none), "_law_pick", "_law_pick", defArgs s__law_pick, defBody s__law_pick, defScope s__law_pick, [], []⟩
def s__law_of : Stmt := top 19
def d__law_of : He.DefD := ⟨("_law_of", none), "_law_of", "_law_of", defArgs s__law_of, defBody s__law_of, defScope s__law_of, [], []⟩
def s__law_lists : Stmt := top 29
def d__law_lists : He.DefD := ⟨("_law_lists", none), "_law_lists", "_law_lists", defArgs s__law_lists, defBody s__law_lists, defScope s__law_lists, [], []⟩
def s__law_pool : Stmt := top 17
def d__law_pool : He.DefD := ⟨("_law_pool", none), "_law_pool", "_law_pool", defArgs s__law_pool, defBody s__law_pool, defScope s__law_pool, [], []⟩
def s_Slip__DOT____eq__ : Stmt := (cbody (top 14)).getD 1 (.Pass ⟨0, 0, 0, 0⟩)
def d_Slip__DOT____eq__ : He.DefD := ⟨("Slip", some "__eq__"), "__eq__", "Slip.__eq__", defArgs s_Slip__DOT____eq__, defBody s_Slip__DOT____eq__, defScope s_Slip__DOT____eq__, [], []⟩
def s_made_of : Stmt := top 8
def d_made_of : He.DefD := ⟨("made_of", none), "made_of", "made_of", defArgs s_made_of, defBody s_made_of, defScope s_made_of, [], []⟩
def s_is_numeral : Stmt := top 10
def d_is_numeral : He.DefD := ⟨("is_numeral", none), "is_numeral", "is_numeral", defArgs s_is_numeral, defBody s_is_numeral, defScope s_is_numeral, [], []⟩
def s_is_word : Stmt := top 9
def d_is_word : He.DefD := ⟨("is_word", none), "is_word", "is_word", defArgs s_is_word, defBody s_is_word, defScope s_is_word, [], []⟩
def s_sort_of : Stmt := top 11
def d_sort_of : He.DefD := ⟨("sort_of", none), "sort_of", "sort_of", defArgs s_sort_of, defBody s_sort_of, defScope s_sort_of, [], []⟩
def s_Slip__DOT____init__ : Stmt := (cbody (top 14)).getD 0 (.Pass ⟨0, 0, 0, 0⟩)
def d_Slip__DOT____init__ : He.DefD := ⟨("Slip", some "__init__"), "__init__", "Slip.__init__", defArgs s_Slip__DOT____init__, defBody s_Slip__DOT____init__, defScope s_Slip__DOT____init__, [.non], []⟩
def s_Slip__DOT__fits : Stmt := (cbody (top 14)).getD 2 (.Pass ⟨0, 0, 0, 0⟩)
def d_Slip__DOT__fits : He.DefD := ⟨("Slip", some "fits"), "fits", "Slip.fits", defArgs s_Slip__DOT__fits, defBody s_Slip__DOT__fits, defScope s_Slip__DOT__fits, [], []⟩
def s_Slip__DOT____call__ : Stmt := (cbody (top 14)).getD 3 (.Pass ⟨0, 0, 0, 0⟩)
def d_Slip__DOT____call__ : He.DefD := ⟨("Slip", some "__call__"), "__call__", "Slip.__call__", defArgs s_Slip__DOT____call__, defBody s_Slip__DOT____call__, defScope s_Slip__DOT____call__, [], []⟩
def s__law_done : Stmt := top 27
def d__law_done : He.DefD := ⟨("_law_done", none), "_law_done", "_law_done", defArgs s__law_done, defBody s__law_done, defScope s__law_done, [], []⟩
def s__law_due : Stmt := top 25
def d__law_due : He.DefD := ⟨("_law_due", none), "_law_due", "_law_due", defArgs s__law_due, defBody s__law_due, defScope s__law_due, [], []⟩
def s__law_fits : Stmt := top 24
def d__law_fits : He.DefD := ⟨("_law_fits", none), "_law_fits", "_law_fits", defArgs s__law_fits, defBody s__law_fits, defScope s__law_fits, [], []⟩
def s__law_word : Stmt := top 20
def d__law_word : He.DefD := ⟨("_law_word", none), "_law_word", "_law_word", defArgs s__law_word, defBody s__law_word, defScope s__law_word, [], []⟩
def s__law_words : Stmt := top 21
def d__law_words : He.DefD := ⟨("_law_words", none), "_law_words", "_law_words", defArgs s__law_words, defBody s__law_words, defScope s__law_words, [], []⟩
def s__law_tokens : Stmt := top 22
def d__law_tokens : He.DefD := ⟨("_law_tokens", none), "_law_tokens", "_law_tokens", defArgs s__law_tokens, defBody s__law_tokens, defScope s__law_tokens, [], []⟩
def s__law_made : Stmt := top 26
def d__law_made : He.DefD := ⟨("_law_made", none), "_law_made", "_law_made", defArgs s__law_made, defBody s__law_made, defScope s__law_made, [], []⟩
def s__law_parts : Stmt := top 23
def d__law_parts : He.DefD := ⟨("_law_parts", none), "_law_parts", "_law_parts", defArgs s__law_parts, defBody s__law_parts, defScope s__law_parts, [], []⟩
def s_law : Stmt := top 30
def d_law : He.DefD := ⟨("law", none), "law", "law", defArgs s_law, defBody s_law, defScope s_law, [], []⟩
def s_init_BadSlip : Stmt := (cbody (top 2)).getD 0 (.Pass ⟨0, 0, 0, 0⟩)
def d_init_BadSlip : He.DefD := ⟨("BadSlip", some "__init__"), "__init__", "BadSlip.__init__", defArgs s_init_BadSlip, defBody s_init_BadSlip, defScope s_init_BadSlip, [], []⟩
abbrev N_trimmed : List Str := ["first", "second", "least", "ahead", "behind"]
theorem sc_trimmed : FnScope N_trimmed ["first", "second"] (defScope s_trimmed) := ⟨rfl, rfl, rfl, by decide +kernel, rfl, by decide +kernel, by decide +kernel⟩
theorem b_trimmed {K : PySem.W.Frag} {mg : Str → Option Value} {Pg : Program} {w : World} {base : Heap} {f : Addr} (fs : Fs ⟨K, mg, nm⟩)  : Bod ⟨K, mg, nm⟩ Pg w base 0 N_trimmed "trimmed" (defScope s_trimmed) f (defBody s_trimmed) (ps m_trimmed) := fun cdv A outer s H E hr hgd tk => by
  have hu : (A.deeper (envOfC "trimmed" (defScope s_trimmed) s.heap.objs.size f cdv)).units + 100 < cLine := by have := hr.un; omega
  exact (mss_cons (ms_set 2 (me_min rfl (fs.f_min) (ma_cons (me_len (fs.f_len) (ma_cons (me_var 0) ma_nil)) (ma_cons (me_len (fs.f_len) (ma_cons (me_var 1) ma_nil)) ma_nil))) sc_trimmed.nd) (mss_cons (ms_set 3 me_int sc_trimmed.nd) (mss_cons (ms_while (passes_of rfl) (DW.dt (mw_and (mt_cmp op_lt ad_lt oj_ix0 (me_var 3) (me_var 2)) (mw_and1 (mt_eq hu (me_ix (me_var 0) (me_var 3)) (me_ix (me_var 1) (me_var 3)))))) (mss_one (ms_aug 3 iop_add (ad_ix0 fun _ _ _ => rep_int.mpr rfl) oj_ix0 me_int sc_trimmed.nd))) (mss_cons (ms_set 4 me_int sc_trimmed.nd) (mss_cons (ms_while (passes_of rfl) (DW.dt (mw_and (mt_cmp op_lt ad_lt oj_ix0 (me_var 4) (me_sub (me_var 2) (me_var 3))) (mw_and1 (mt_eq hu (me_ix (me_var 0) (me_sub (me_sub (me_len (fs.f_len) (ma_cons (me_var 0) ma_nil)) me_int) (me_var 4))) (me_ix (me_var 1) (me_sub (me_sub (me_len (fs.f_len) (ma_cons (me_var 1) ma_nil)) me_int) (me_var 4))))))) (mss_one (ms_aug 4 iop_add (ad_ix0 fun _ _ _ => rep_int.mpr rfl) oj_ix0 me_int sc_trimmed.nd))) (mss_one (ms_ret (me_tup (ma_cons (me_list (fs.f_list) (ma_cons (me_sl (own := false) (me_var 0) (mo_some (me_var 3)) (mo_some (me_sub (me_len (fs.f_len) (ma_cons (me_var 0) ma_nil)) (me_var 4)))) ma_nil)) (ma_cons (me_list (fs.f_list) (ma_cons (me_sl (own := false) (me_var 1) (mo_some (me_var 3)) (mo_some (me_sub (me_len (fs.f_len) (ma_cons (me_var 1) ma_nil)) (me_var 4)))) ma_nil)) ma_nil))))))))))
abbrev N__law_cut : List Str := ["first", "second"]
theorem sc__law_cut : FnScope N__law_cut ["first", "second"] (defScope s__law_cut) := ⟨rfl, rfl, rfl, by decide +kernel, rfl, by decide +kernel, by decide +kernel⟩
theorem b__law_cut {K : PySem.W.Frag} {mg : Str → Option Value} {Pg : Program} {w : World} {base : Heap} {f : Addr} (fs : Fs ⟨K, mg, nm⟩)  : Bod ⟨K, mg, nm⟩ Pg w base 0 N__law_cut "_law_cut" (defScope s__law_cut) f (defBody s__law_cut) (ps m__law_cut) := fun cdv A outer s H E hr hgd tk => by
  have hu : (A.deeper (envOfC "_law_cut" (defScope s__law_cut) s.heap.objs.size f cdv)).units + 100 < cLine := by have := hr.un; omega
  exact (mss_cons (ms_while (passes_of rfl) (DW.dt (mw_and (mt_ne hu (me_var 0) (me_lstV ma_nil)) (mw_and (mt_ne hu (me_var 1) (me_lstV ma_nil)) (mw_and1 (mt_eq hu (me_ix (me_var 0) me_int) (me_ix (me_var 1) me_int)))))) (mss_one (ms_par (ds_par 0 1 rfl sc__law_cut.nd (ma_cons (me_sl (own := false) (me_var 0) (mo_some me_int) mo_none) (ma_cons (me_sl (own := false) (me_var 1) (mo_some me_int) mo_none) ma_nil)))))) (mss_cons (ms_while (passes_of rfl) (DW.dt (mw_and (mt_ne hu (me_var 0) (me_lstV ma_nil)) (mw_and (mt_ne hu (me_var 1) (me_lstV ma_nil)) (mw_and1 (mt_eq hu (me_ix (me_var 0) (me_kon (d := .int (-1)) (me_neg me_int))) (me_ix (me_var 1) (me_kon (d := .int (-1)) (me_neg me_int)))))))) (mss_one (ms_par (ds_par 0 1 rfl sc__law_cut.nd (ma_cons (me_sl (own := false) (me_var 0) mo_none (mo_some (me_kon (d := .int (-1)) (me_neg me_int)))) (ma_cons (me_sl (own := false) (me_var 1) mo_none (mo_some (me_kon (d := .int (-1)) (me_neg me_int)))) ma_nil)))))) (mss_one (ms_ret (me_tup (ma_cons (me_var 0) (ma_cons (me_var 1) ma_nil)))))))
abbrev N__law_pick : List Str := ["pool", "many", "mixed", "found"]
theorem sc__law_pick : FnScope N__law_pick ["pool", "many"] (defScope s__law_pick) := ⟨rfl, rfl, rfl, by decide +kernel, rfl, by decide +kernel, by decide +kernel⟩
theorem b__law_pick {K : PySem.W.Frag} {mg : Str → Option Value} {Pg : Program} {w : World} {base : Heap} {f : Addr} (fs : Fs ⟨K, mg, nm⟩)  : Bod ⟨K, mg, nm⟩ Pg w base 0 N__law_pick "_law_pick" (defScope s__law_pick) f (defBody s__law_pick) (ps m__law_pick) := fun cdv A outer s H E hr hgd tk => by
  have hu : (A.deeper (envOfC "_law_pick" (defScope s__law_pick) s.heap.objs.size f cdv)).units + 100 < cLine := by have := hr.un; omega
  exact (mss_cons (ms_if (mt_cmp op_gt ad_gt oj_ix0 (me_ix (me_var 0) me_int) me_int) (mss_cons (ms_set 3 (me_mod (me_intC (fs.f_int) (ma_cons (me_ix (me_var 0) me_int) ma_nil)) (me_var 1)) sc__law_pick.nd) (mss_cons (ms_setIx (me_var 0) me_int (me_fdiv (me_ix (me_var 0) me_int) (me_var 1))) (mss_one (ms_ret (me_var 3))))) mss_nil) (mss_cons (ms_setIx (me_var 0) me_int (me_addV (me_ix (me_var 0) me_int) me_int)) (mss_cons (ms_set 2 (me_mod (me_intC (fs.f_int) (ma_cons (me_pow (me_addV (me_ix (me_var 0) me_int) (me_imul me_int (me_ix (me_var 0) me_int))) me_int) ma_nil)) me_int) sc__law_pick.nd) (mss_cons (ms_set 2 (me_mod (me_intC (fs.f_int) (ma_cons (me_pow (me_addV (me_var 2) (me_imul me_int (me_ix (me_var 0) me_int))) me_int) ma_nil)) me_int) sc__law_pick.nd) (mss_one (ms_ret (me_mod (me_intC (fs.f_int) (ma_cons (me_fdiv (me_var 2) me_int) ma_nil)) (me_var 1))))))))
abbrev N__law_of : List Str := ["pool", "some"]
theorem sc__law_of : FnScope N__law_of ["pool", "some"] (defScope s__law_of) := ⟨rfl, rfl, rfl, by decide +kernel, rfl, by decide +kernel, by decide +kernel⟩
theorem b__law_of {K : PySem.W.Frag} {mg : Str → Option Value} {Pg : Program} {w : World} {base : Heap} {f : Addr} (fs : Fs ⟨K, mg, nm⟩) (F__law_pick_2 : GFn ⟨K, mg, nm⟩ Pg w base 1 "_law_pick" 2 [] (fxP p__law_pick)) : Bod ⟨K, mg, nm⟩ Pg w base 1 N__law_of "_law_of" (defScope s__law_of) f (defBody s__law_of) (ps m__law_of) := fun cdv A outer s H E hr hgd tk => by
  have hu : (A.deeper (envOfC "_law_of" (defScope s__law_of) s.heap.objs.size f cdv)).units + 100 < cLine := by have := hr.un; omega
  exact (mss_one (ms_ret (me_ix (me_var 1) (me_callF [false, true] F__law_pick_2 hr hgd tk (ma_cons (me_var 0) (ma_cons (me_len (fs.f_len) (ma_cons (me_var 1) ma_nil)) ma_nil))))))
abbrev N__law_lists : List Str := ["pool", "some", "ahead", "rest", "first", "second", "k"]
theorem sc__law_lists : FnScope N__law_lists ["pool"] (defScope s__law_lists) := ⟨rfl, rfl, rfl, by decide +kernel, rfl, by decide +kernel, by decide +kernel⟩
theorem b__law_lists {K : PySem.W.Frag} {mg : Str → Option Value} {Pg : Program} {w : World} {base : Heap} {f : Addr} (fs : Fs ⟨K, mg, nm⟩) (F__law_pick_2 : GFn ⟨K, mg, nm⟩ Pg w base 1 "_law_pick" 2 [] (fxP p__law_pick)) (F__law_of_2 : GFn ⟨K, mg, nm⟩ Pg w base 2 "_law_of" 2 [] (fxP p__law_of)) : Bod ⟨K, mg, nm⟩ Pg w base 2 N__law_lists "_law_lists" (defScope s__law_lists) f (defBody s__law_lists) (ps m__law_lists) := fun cdv A outer s H E hr hgd tk => by
  have hu : (A.deeper (envOfC "_law_lists" (defScope s__law_lists) s.heap.objs.size f cdv)).units + 100 < cLine := by have := hr.un; omega
  exact (mss_cons (ms_set 1 (me_kon (d := .lst [.tup [.str [97], .int 1], .tup [.str [97], .str [121, 101, 115]], .tup [.str [98], .non], .tup [.str [99], .tup [.str [120], .str [121]]], .str [97], .int 0]) (me_lstV (ma_cons (me_kon (d := .tup [.str [97], .int 1]) (me_tup (ma_cons (me_strL [97]) (ma_cons me_int ma_nil)))) (ma_cons (me_kon (d := .tup [.str [97], .str [121, 101, 115]]) (me_tup (ma_cons (me_strL [97]) (ma_cons (me_strL [121, 101, 115]) ma_nil)))) (ma_cons (me_kon (d := .tup [.str [98], .non]) (me_tup (ma_cons (me_strL [98]) (ma_cons me_non ma_nil)))) (ma_cons (me_kon (d := .tup [.str [99], .tup [.str [120], .str [121]]]) (me_tup (ma_cons (me_strL [99]) (ma_cons (me_kon (d := .tup [.str [120], .str [121]]) (me_tup (ma_cons (me_strL [120]) (ma_cons (me_strL [121]) ma_nil)))) ma_nil)))) (ma_cons (me_strL [97]) (ma_cons me_int ma_nil)))))))) sc__law_lists.nd) (mss_cons (ms_setLcV 2 (vs := [6]) (own := [("k", 6)]) rfl sc__law_lists.nd (mi_range1 (fs.f_range) (ma_cons (me_callF [false, true] F__law_pick_2 hr hgd tk (ma_cons (me_var 0) (ma_cons me_int ma_nil))) ma_nil)) (blkOk_by (by show blkC N__law_lists (defScope s__law_lists) _ _ = true; decide +kernel)) (sw_true rfl rfl rfl rfl) rfl rfl rfl (fun _ _ _ _ _ => (mgw_name 6 sc__law_lists.nd)) (fun _ _ _ _ _ => mts_nil) (fun _ _ _ _ _ => (me_callF [false, true] F__law_of_2 hr hgd takes_W0 (ma_cons (me_var 0) (ma_cons (me_var 1) ma_nil))))) (mss_cons (ms_setLcV 3 (vs := [6]) (own := [("k", 6)]) rfl sc__law_lists.nd (mi_range1 (fs.f_range) (ma_cons (me_callF [false, true] F__law_pick_2 hr hgd tk (ma_cons (me_var 0) (ma_cons me_int ma_nil))) ma_nil)) (blkOk_by (by show blkC N__law_lists (defScope s__law_lists) _ _ = true; decide +kernel)) (sw_true rfl rfl rfl rfl) rfl rfl rfl (fun _ _ _ _ _ => (mgw_name 6 sc__law_lists.nd)) (fun _ _ _ _ _ => mts_nil) (fun _ _ _ _ _ => (me_callF [false, true] F__law_of_2 hr hgd takes_W0 (ma_cons (me_var 0) (ma_cons (me_var 1) ma_nil))))) (mss_cons (ms_setLcV 4 (vs := [6]) (own := [("k", 6)]) rfl sc__law_lists.nd (mi_range1 (fs.f_range) (ma_cons (me_callF [false, true] F__law_pick_2 hr hgd tk (ma_cons (me_var 0) (ma_cons me_int ma_nil))) ma_nil)) (blkOk_by (by show blkC N__law_lists (defScope s__law_lists) _ _ = true; decide +kernel)) (sw_true rfl rfl rfl rfl) rfl rfl rfl (fun _ _ _ _ _ => (mgw_name 6 sc__law_lists.nd)) (fun _ _ _ _ _ => mts_nil) (fun _ _ _ _ _ => (me_callF [false, true] F__law_of_2 hr hgd takes_W0 (ma_cons (me_var 0) (ma_cons (me_sl (own := false) (me_var 1) mo_none (mo_some me_int)) ma_nil))))) (mss_cons (ms_setLcV 5 (vs := [6]) (own := [("k", 6)]) rfl sc__law_lists.nd (mi_range1 (fs.f_range) (ma_cons (me_callF [false, true] F__law_pick_2 hr hgd tk (ma_cons (me_var 0) (ma_cons me_int ma_nil))) ma_nil)) (blkOk_by (by show blkC N__law_lists (defScope s__law_lists) _ _ = true; decide +kernel)) (sw_true rfl rfl rfl rfl) rfl rfl rfl (fun _ _ _ _ _ => (mgw_name 6 sc__law_lists.nd)) (fun _ _ _ _ _ => mts_nil) (fun _ _ _ _ _ => (me_callF [false, true] F__law_of_2 hr hgd takes_W0 (ma_cons (me_var 0) (ma_cons (me_sl (own := false) (me_var 1) mo_none (mo_some me_int)) ma_nil))))) (mss_one (ms_ret (me_tup (ma_cons (me_addV (me_addV (me_var 2) (me_var 4)) (me_var 3)) (ma_cons (me_addV (me_addV (me_var 2) (me_var 5)) (me_var 3)) ma_nil))))))))))
abbrev N__law_pool : List Str := ["script", "place", "cell", "great"]
theorem sc__law_pool : FnScope N__law_pool ["script", "place"] (defScope s__law_pool) := ⟨rfl, rfl, rfl, by decide +kernel, rfl, by decide +kernel, by decide +kernel⟩
theorem b__law_pool {K : PySem.W.Frag} {mg : Str → Option Value} {Pg : Program} {w : World} {base : Heap} {f : Addr} (fs : Fs ⟨K, mg, nm⟩)  : Bod ⟨K, mg, nm⟩ Pg w base 0 N__law_pool "_law_pool" (defScope s__law_pool) f (defBody s__law_pool) (ps m__law_pool) := fun cdv A outer s H E hr hgd tk => by
  have hu : (A.deeper (envOfC "_law_pool" (defScope s__law_pool) s.heap.objs.size f cdv)).units + 100 < cLine := by have := hr.un; omega
  exact (mss_cons (ms_set 2 (me_if (mt_cmp op_lt ad_lt oj_ix0 (me_var 1) (me_len (fs.f_len) (ma_cons (me_var 0) ma_nil))) (me_ix (me_var 0) (me_var 1)) (me_mod (me_intC (fs.f_int) (ma_cons (me_sum rfl (fs.f_sum) (ma_cons (me_sl (own := false) (me_var 0) mo_none (mo_some me_int)) ma_nil)) ma_nil)) me_int)) sc__law_pool.nd) (mss_cons (ms_set 3 (me_if (mt_cmp op_ge ad_ge oj_ix0 (me_abs (fs.f_abs) (ma_cons (me_var 2) ma_nil)) (me_kon (d := .int 1000000000000000000) (me_pow me_int me_int))) (me_abs (fs.f_abs) (ma_cons (me_var 2) ma_nil)) me_int) sc__law_pool.nd) (mss_one (ms_ret (me_lst (ma_cons (me_var 3) (ma_cons (me_addV (me_addV (me_addV (me_imul (me_mod (me_intC (fs.f_int) (ma_cons (me_var 2) ma_nil)) me_int) me_int) (me_imul me_int (me_var 1))) (me_kon (d := .int 631784) (me_imul me_int me_int))) me_int) (ma_cons me_int ma_nil))))))))
abbrev N_Slip__DOT____eq__ : List Str := ["self", "other"]
theorem sc_Slip__DOT____eq__ : FnScope N_Slip__DOT____eq__ ["self", "other"] (defScope s_Slip__DOT____eq__) := ⟨rfl, rfl, rfl, by decide +kernel, rfl, by decide +kernel, by decide +kernel⟩
theorem b_Slip__DOT____eq__ {K : PySem.W.Frag} {mg : Str → Option Value} {Pg : Program} {w : World} {base : Heap} {f : Addr} (fs : Fs ⟨K, mg, nm⟩)  : Bod ⟨K, mg, nm⟩ Pg w base 0 N_Slip__DOT____eq__ "Slip.__eq__" (defScope s_Slip__DOT____eq__) f (defBody s_Slip__DOT____eq__) (ps m_Slip__DOT____eq__) := fun cdv A outer s H E hr hgd tk => by
  have hu : (A.deeper (envOfC "Slip.__eq__" (defScope s_Slip__DOT____eq__) s.heap.objs.size f cdv)).units + 100 < cLine := by have := hr.un; omega
  exact (mss_one (ms_ret (me_and (me_isC (fs.f_isinstance) fs.a_Slip (me_var 1)) (me_and (me_eq hu (me_fld 393 fs.okf (me_var 0)) (me_fld 393 fs.okf (me_var 1))) (me_and (me_eq hu (me_fld 357 fs.okf (me_var 0)) (me_fld 357 fs.okf (me_var 1))) (me_one (me_eq hu (me_fld 447 fs.okf (me_var 0)) (me_fld 447 fs.okf (me_var 1)))))))))
abbrev N_made_of : List Str := ["thing", "signs", "sign"]
theorem sc_made_of : FnScope N_made_of ["thing", "signs"] (defScope s_made_of) := ⟨rfl, rfl, rfl, by decide +kernel, rfl, by decide +kernel, by decide +kernel⟩
theorem b_made_of {K : PySem.W.Frag} {mg : Str → Option Value} {Pg : Program} {w : World} {base : Heap} {f : Addr} (fs : Fs ⟨K, mg, nm⟩)  : Bod ⟨K, mg, nm⟩ Pg w base 0 N_made_of "made_of" (defScope s_made_of) f (defBody s_made_of) (ps m_made_of) := fun cdv A outer s H E hr hgd tk => by
  have hu : (A.deeper (envOfC "made_of" (defScope s_made_of) s.heap.objs.size f cdv)).units + 100 < cLine := by have := hr.un; omega
  exact (mss_cons (ms_if (DW.dt (mw_or (mt_not (mt_tru (me_isi (fs.f_isinstance) (fs.f_str) rfl (me_var 0)))) (mw_or1 (mt_not (mt_chain op_le ad_le oj_ix0 op_le ad_le oj_ix0 me_int (me_len (fs.f_len) (ma_cons (me_var 0) ma_nil)) (me_gc fs.c_LONGEST)))))) (mss_one (ms_ret me_bl)) mss_nil) (mss_cons (ms_for (passes_of rfl) rfl (mi_seq (me_var 0)) (mg_name 2 sc_made_of.nd) (mss_one (ms_if (mt_nin hu (me_var 2) (me_var 1)) (mss_one (ms_ret me_bl)) mss_nil))) (mss_one (ms_ret me_bl))))
abbrev N_is_numeral : List Str := ["thing"]
theorem sc_is_numeral : FnScope N_is_numeral ["thing"] (defScope s_is_numeral) := ⟨rfl, rfl, rfl, by decide +kernel, rfl, by decide +kernel, by decide +kernel⟩
theorem b_is_numeral {K : PySem.W.Frag} {mg : Str → Option Value} {Pg : Program} {w : World} {base : Heap} {f : Addr} (fs : Fs ⟨K, mg, nm⟩) (F_made_of_2 : GFn ⟨K, mg, nm⟩ Pg w base 1 "made_of" 2 [] (fxP p_made_of)) : Bod ⟨K, mg, nm⟩ Pg w base 1 N_is_numeral "is_numeral" (defScope s_is_numeral) f (defBody s_is_numeral) (ps m_is_numeral) := fun cdv A outer s H E hr hgd tk => by
  have hu : (A.deeper (envOfC "is_numeral" (defScope s_is_numeral) s.heap.objs.size f cdv)).units + 100 < cLine := by have := hr.un; omega
  exact (mss_one (ms_ret (me_and (me_callF [true, true] F_made_of_2 hr hgd tk (ma_cons (me_var 0) (ma_cons (me_gc fs.c_DIGITS) ma_nil))) (me_one (me_or (me_eq hu (me_var 0) (me_strL [48])) (me_one (me_ne hu (me_ix (me_var 0) me_int) (me_strL [48]))))))))
abbrev N_is_word : List Str := ["thing"]
theorem sc_is_word : FnScope N_is_word ["thing"] (defScope s_is_word) := ⟨rfl, rfl, rfl, by decide +kernel, rfl, by decide +kernel, by decide +kernel⟩
theorem b_is_word {K : PySem.W.Frag} {mg : Str → Option Value} {Pg : Program} {w : World} {base : Heap} {f : Addr} (fs : Fs ⟨K, mg, nm⟩) (F_made_of_2 : GFn ⟨K, mg, nm⟩ Pg w base 1 "made_of" 2 [] (fxP p_made_of)) : Bod ⟨K, mg, nm⟩ Pg w base 1 N_is_word "is_word" (defScope s_is_word) f (defBody s_is_word) (ps m_is_word) := fun cdv A outer s H E hr hgd tk => by
  have hu : (A.deeper (envOfC "is_word" (defScope s_is_word) s.heap.objs.size f cdv)).units + 100 < cLine := by have := hr.un; omega
  exact (mss_one (ms_ret (me_callF [true, true] F_made_of_2 hr hgd tk (ma_cons (me_var 0) (ma_cons (me_gc fs.c_LETTERS) ma_nil)))))
abbrev N_sort_of : List Str := ["thing"]
theorem sc_sort_of : FnScope N_sort_of ["thing"] (defScope s_sort_of) := ⟨rfl, rfl, rfl, by decide +kernel, rfl, by decide +kernel, by decide +kernel⟩
theorem b_sort_of {K : PySem.W.Frag} {mg : Str → Option Value} {Pg : Program} {w : World} {base : Heap} {f : Addr} (fs : Fs ⟨K, mg, nm⟩) (F_is_numeral_1 : GFn ⟨K, mg, nm⟩ Pg w base 2 "is_numeral" 1 [] (fxP p_is_numeral)) (F_is_word_1 : GFn ⟨K, mg, nm⟩ Pg w base 2 "is_word" 1 [] (fxP p_is_word)) : Bod ⟨K, mg, nm⟩ Pg w base 2 N_sort_of "sort_of" (defScope s_sort_of) f (defBody s_sort_of) (ps m_sort_of) := fun cdv A outer s H E hr hgd tk => by
  have hu : (A.deeper (envOfC "sort_of" (defScope s_sort_of) s.heap.objs.size f cdv)).units + 100 < cLine := by have := hr.un; omega
  exact (mss_cons (ms_if (mt_not (mt_tru (me_isi (fs.f_isinstance) (fs.f_str) rfl (me_var 0)))) (mss_one (ms_ret me_non)) mss_nil) (mss_cons (ms_if (mt_in hu (me_var 0) (me_gc fs.c_SIGNS)) (mss_one (ms_ret (me_var 0))) mss_nil) (mss_cons (ms_if (mt_tru (me_callF [true] F_is_word_1 hr hgd tk (ma_cons (me_var 0) ma_nil))) (mss_one (ms_ret (me_strL [119, 111, 114, 100]))) mss_nil) (mss_one (ms_ret (me_if (mt_tru (me_callF [true] F_is_numeral_1 hr hgd tk (ma_cons (me_var 0) ma_nil))) (me_strL [110, 117, 109, 98, 101, 114]) me_non))))))
abbrev N_Slip__DOT____init__ : List Str := ["self", "kind", "at", "token", "known", "counted"]
theorem sc_Slip__DOT____init__ : FnScope N_Slip__DOT____init__ ["self", "kind", "at", "token"] (defScope s_Slip__DOT____init__) := ⟨rfl, rfl, rfl, by decide +kernel, rfl, by decide +kernel, by decide +kernel⟩
theorem b_Slip__DOT____init__ {K : PySem.W.Frag} {mg : Str → Option Value} {Pg : Program} {w : World} {base : Heap} {f : Addr} (fs : Fs ⟨K, mg, nm⟩) (F_sort_of_1 : GFn ⟨K, mg, nm⟩ Pg w base 3 "sort_of" 1 [] (fxP p_sort_of)) (X_BadSlip : ExcK ⟨K, mg, nm⟩ Pg w base 105 [357]) : Bod ⟨K, mg, nm⟩ Pg w base 3 N_Slip__DOT____init__ "Slip.__init__" (defScope s_Slip__DOT____init__) f (defBody s_Slip__DOT____init__) (ps m_Slip__DOT____init__) := fun cdv A outer s H E hr hgd tk => by
  have hu : (A.deeper (envOfC "Slip.__init__" (defScope s_Slip__DOT____init__) s.heap.objs.size f cdv)).units + 100 < cLine := by have := hr.un; omega
  exact (mss_cons (ms_set 4 (me_and (me_isi (fs.f_isinstance) (fs.f_str) rfl (me_var 1)) (me_one (me_in hu (me_var 1) (me_gc fs.c_SLIP_KINDS)))) sc_Slip__DOT____init__.nd) (mss_cons (ms_set 5 (me_and (me_isi (fs.f_isinstance) (fs.f_int) rfl (me_var 2)) (me_and (me_not (me_isi (fs.f_isinstance) (fs.f_bool) rfl (me_var 2))) (me_one (me_cmp op_ge ad_ge oj_ix0 (me_var 2) me_int)))) sc_Slip__DOT____init__.nd) (mss_cons (ms_if (DW.dt (mw_or (mt_not (mt_tru (me_var 4))) (mw_or1 (mt_not (mt_tru (me_var 5)))))) (mss_one (ms_raise (ds_raise (c := 105) (fl := [357]) X_BadSlip rfl (hr.mono (by decide)) tk (ma_cons (me_var 2) ma_nil)))) mss_nil) (mss_cons (ms_if (DW.dt (mw_and (mt_eq hu (me_var 1) (me_strL [119, 114, 105, 116, 116, 101, 110])) (mw_and1 (mt_isN (me_callF [true] F_sort_of_1 hr hgd tk (ma_cons (me_var 3) ma_nil)))))) (mss_one (ms_raise (ds_raise (c := 105) (fl := [357]) X_BadSlip rfl (hr.mono (by decide)) tk (ma_cons (me_var 2) ma_nil)))) mss_nil) (mss_cons (ms_if (DW.dt (mw_and (mt_ne hu (me_var 1) (me_strL [119, 114, 105, 116, 116, 101, 110])) (mw_and1 (mt_notN (me_var 3))))) (mss_one (ms_raise (ds_raise (c := 105) (fl := [357]) X_BadSlip rfl (hr.mono (by decide)) tk (ma_cons (me_var 2) ma_nil)))) mss_nil) (mss_cons (ms_setF 393 fs.okf (me_var 0) (me_var 1)) (mss_cons (ms_setF 357 fs.okf (me_var 0) (me_var 2)) (mss_one (ms_setF 447 fs.okf (me_var 0) (me_var 3))))))))))
abbrev N_Slip__DOT__fits : List Str := ["self", "file"]
theorem sc_Slip__DOT__fits : FnScope N_Slip__DOT__fits ["self", "file"] (defScope s_Slip__DOT__fits) := ⟨rfl, rfl, rfl, by decide +kernel, rfl, by decide +kernel, by decide +kernel⟩
theorem b_Slip__DOT__fits {K : PySem.W.Frag} {mg : Str → Option Value} {Pg : Program} {w : World} {base : Heap} {f : Addr} (fs : Fs ⟨K, mg, nm⟩)  : Bod ⟨K, mg, nm⟩ Pg w base 0 N_Slip__DOT__fits "Slip.fits" (defScope s_Slip__DOT__fits) f (defBody s_Slip__DOT__fits) (ps m_Slip__DOT__fits) := fun cdv A outer s H E hr hgd tk => by
  have hu : (A.deeper (envOfC "Slip.fits" (defScope s_Slip__DOT__fits) s.heap.objs.size f cdv)).units + 100 < cLine := by have := hr.un; omega
  exact (mss_cons (ms_if (mt_cmp op_ge ad_ge oj_ix0 (me_fld 357 fs.okf (me_var 0)) (me_len (fs.f_len) (ma_cons (me_var 1) ma_nil))) (mss_one (ms_ret me_bl)) mss_nil) (mss_cons (ms_if (mt_eq hu (me_fld 393 fs.okf (me_var 0)) (me_strL [115, 119, 97, 112, 112, 101, 100])) (mss_one (ms_ret (me_and (me_cmp op_lt ad_lt oj_ix0 (me_addV (me_fld 357 fs.okf (me_var 0)) me_int) (me_len (fs.f_len) (ma_cons (me_var 1) ma_nil))) (me_one (me_ne hu (me_ix (me_var 1) (me_fld 357 fs.okf (me_var 0))) (me_ix (me_var 1) (me_addV (me_fld 357 fs.okf (me_var 0)) me_int))))))) mss_nil) (mss_one (ms_ret (me_or (me_ne hu (me_fld 393 fs.okf (me_var 0)) (me_strL [119, 114, 105, 116, 116, 101, 110])) (me_one (me_ne hu (me_ix (me_var 1) (me_fld 357 fs.okf (me_var 0))) (me_fld 447 fs.okf (me_var 0)))))))))
abbrev N_Slip__DOT____call__ : List Str := ["self", "file", "found", "at"]
theorem sc_Slip__DOT____call__ : FnScope N_Slip__DOT____call__ ["self", "file"] (defScope s_Slip__DOT____call__) := ⟨rfl, rfl, rfl, by decide +kernel, rfl, by decide +kernel, by decide +kernel⟩
theorem b_Slip__DOT____call__ {K : PySem.W.Frag} {mg : Str → Option Value} {Pg : Program} {w : World} {base : Heap} {f : Addr} (fs : Fs ⟨K, mg, nm⟩) (M_fits : ∀ c mm dd q, tab_fits c = some (mm, dd, q) → GMe ⟨K, mg, nm⟩ Pg w base 1 c "fits" dd (fxP q)) (X_BadSlip : ExcK ⟨K, mg, nm⟩ Pg w base 105 [357]) : Bod ⟨K, mg, nm⟩ Pg w base 2 N_Slip__DOT____call__ "Slip.__call__" (defScope s_Slip__DOT____call__) f (defBody s_Slip__DOT____call__) (ps m_Slip__DOT____call__) := fun cdv A outer s H E hr hgd tk => by
  have hu : (A.deeper (envOfC "Slip.__call__" (defScope s_Slip__DOT____call__) s.heap.objs.size f cdv)).units + 100 < cLine := by have := hr.un; omega
  exact (mss_cons (ms_if (mt_not (mt_tru (me_meth true (me_var 0) fs.m_fits M_fits hr hgd tk (ma_cons (me_var 1) ma_nil)))) (mss_one (ms_raise (ds_raise (c := 105) (fl := [357]) X_BadSlip rfl (hr.mono (by decide)) tk (ma_cons (me_fld 357 fs.okf (me_var 0)) ma_nil)))) mss_nil) (mss_cons (ms_set 2 (me_list (fs.f_list) (ma_cons (me_var 1) ma_nil)) sc_Slip__DOT____call__.nd) (mss_cons (ms_set 3 (me_fld 357 fs.okf (me_var 0)) sc_Slip__DOT____call__.nd) (mss_cons (ms_if (mt_eq hu (me_fld 393 fs.okf (me_var 0)) (me_strL [108, 101, 102, 116])) (mss_one (ms_del (me_var 2) (me_var 3))) (mss_one (ms_if (mt_eq hu (me_fld 393 fs.okf (me_var 0)) (me_strL [100, 111, 117, 98, 108, 101, 100])) (mss_one (ms_expr (me_insert (me_var 2) (ma_cons (me_var 3) (ma_cons (me_ix (me_var 2) (me_var 3)) ma_nil))))) (mss_one (ms_if (mt_eq hu (me_fld 393 fs.okf (me_var 0)) (me_strL [115, 119, 97, 112, 112, 101, 100])) (mss_one (ms_asg (me_tup (ma_cons (me_ix (me_var 2) (me_addV (me_var 3) me_int)) (ma_cons (me_ix (me_var 2) (me_var 3)) ma_nil))) (mg_tup rfl (mgs_cons (mg_sub (me_var 2) (me_var 3)) (mgs_cons (mg_sub (me_var 2) (me_addV (me_var 3) me_int)) mgs_nil))))) (mss_one (ms_setIx (me_var 2) (me_var 3) (me_fld 447 fs.okf (me_var 0))))))))) (mss_one (ms_ret (me_var 2)))))))
abbrev N__law_done : List Str := ["slip", "file", "e"]
theorem sc__law_done : FnScope N__law_done ["slip", "file"] (defScope s__law_done) := ⟨rfl, rfl, rfl, by decide +kernel, rfl, by decide +kernel, by decide +kernel⟩
theorem hj__law_done_1 (T : Cn) : HJ T 2 (fun a cls d => (mRet (mTup (mCons (mXf T a cls d [105] 357 (mVar 2)) mNil)))) h__law_done_1 := hj_of fun a cls d dd c fs sl hcl hdd hi => by
  unfold h__law_done_1
  exact (sims_ret (sim_tup (sim_cons (sim_xf hcl hdd hi) sim_nil)))
theorem b__law_done {K : PySem.W.Frag} {mg : Str → Option Value} {Pg : Program} {w : World} {base : Heap} {f : Addr} (fs : Fs ⟨K, mg, nm⟩) (M___call__ : ∀ c mm dd q, tab___call__ c = some (mm, dd, q) → GMe ⟨K, mg, nm⟩ Pg w base 3 c "__call__" dd (fxP q)) : Bod ⟨K, mg, nm⟩ Pg w base 3 N__law_done "_law_done" (defScope s__law_done) f (defBody s__law_done) (ps m__law_done) := fun cdv A outer s H E hr hgd tk => by
  have hu : (A.deeper (envOfC "_law_done" (defScope s__law_done) s.heap.objs.size f cdv)).units + 100 < cLine := by have := hr.un; omega
  exact (mss_one (ms_tryAs 2 (isA := isA_BadSlip) (h := h__law_done_1) sc__law_done.nd ⟨rfl, by decide, .inl fs.g_BadSlip⟩ tk fs.x_BadSlip (fun _ _ _ tk2 hp2 => (mss_one (ms_ret (me_fzV (me_callI true (me_var 0) M___call__ hr hgd tk2 (ma_cons (me_var 1) ma_nil)))))) (fun a oe cls d pn hz hf => (mss_one (ms_ret (me_tup (ma_cons (me_xf (de_xf hz hf (fs.xf_at) (me_var 2))) ma_nil))))) (hj__law_done_1 _)))
abbrev N__law_due : List Str := ["parts", "file", "kind", "spot"]
theorem sc__law_due : FnScope N__law_due ["parts", "file"] (defScope s__law_due) := ⟨rfl, rfl, rfl, by decide +kernel, rfl, by decide +kernel, by decide +kernel⟩
theorem b__law_due {K : PySem.W.Frag} {mg : Str → Option Value} {Pg : Program} {w : World} {base : Heap} {f : Addr} (fs : Fs ⟨K, mg, nm⟩)  : Bod ⟨K, mg, nm⟩ Pg w base 0 N__law_due "_law_due" (defScope s__law_due) f (defBody s__law_due) (ps m__law_due) := fun cdv A outer s H E hr hgd tk => by
  have hu : (A.deeper (envOfC "_law_due" (defScope s__law_due) s.heap.objs.size f cdv)).units + 100 < cLine := by have := hr.un; omega
  exact (mss_cons (ms_par (ds_par 2 3 rfl sc__law_due.nd (ma_cons (me_ix (me_var 0) me_int) (ma_cons (me_ix (me_var 0) me_int) ma_nil)))) (mss_cons (ms_if (mt_eq hu (me_var 2) (me_strL [108, 101, 102, 116])) (mss_one (ms_ret (me_addV (me_sl (own := false) (me_var 1) mo_none (mo_some (me_var 3))) (me_sl (own := false) (me_var 1) (mo_some (me_addV (me_var 3) me_int)) mo_none)))) mss_nil) (mss_cons (ms_if (mt_eq hu (me_var 2) (me_strL [100, 111, 117, 98, 108, 101, 100])) (mss_one (ms_ret (me_addV (me_addV (me_sl (own := false) (me_var 1) mo_none (mo_some (me_var 3))) (me_lstV (ma_cons (me_ix (me_var 1) (me_var 3)) (ma_cons (me_ix (me_var 1) (me_var 3)) ma_nil)))) (me_sl (own := false) (me_var 1) (mo_some (me_addV (me_var 3) me_int)) mo_none)))) mss_nil) (mss_cons (ms_if (mt_eq hu (me_var 2) (me_strL [115, 119, 97, 112, 112, 101, 100])) (mss_one (ms_ret (me_addV (me_addV (me_sl (own := false) (me_var 1) mo_none (mo_some (me_var 3))) (me_lstV (ma_cons (me_ix (me_var 1) (me_addV (me_var 3) me_int)) (ma_cons (me_ix (me_var 1) (me_var 3)) ma_nil)))) (me_sl (own := false) (me_var 1) (mo_some (me_addV (me_var 3) me_int)) mo_none)))) mss_nil) (mss_one (ms_ret (me_addV (me_addV (me_sl (own := false) (me_var 1) mo_none (mo_some (me_var 3))) (me_lstV (ma_cons (me_ix (me_var 0) me_int) ma_nil))) (me_sl (own := false) (me_var 1) (mo_some (me_addV (me_var 3) me_int)) mo_none))))))))
abbrev N__law_fits : List Str := ["parts", "file", "kind", "spot"]
theorem sc__law_fits : FnScope N__law_fits ["parts", "file"] (defScope s__law_fits) := ⟨rfl, rfl, rfl, by decide +kernel, rfl, by decide +kernel, by decide +kernel⟩
theorem b__law_fits {K : PySem.W.Frag} {mg : Str → Option Value} {Pg : Program} {w : World} {base : Heap} {f : Addr} (fs : Fs ⟨K, mg, nm⟩)  : Bod ⟨K, mg, nm⟩ Pg w base 0 N__law_fits "_law_fits" (defScope s__law_fits) f (defBody s__law_fits) (ps m__law_fits) := fun cdv A outer s H E hr hgd tk => by
  have hu : (A.deeper (envOfC "_law_fits" (defScope s__law_fits) s.heap.objs.size f cdv)).units + 100 < cLine := by have := hr.un; omega
  exact (mss_cons (ms_par (ds_par 2 3 rfl sc__law_fits.nd (ma_cons (me_ix (me_var 0) me_int) (ma_cons (me_ix (me_var 0) me_int) ma_nil)))) (mss_cons (ms_if (mt_cmp op_ge ad_ge oj_ix0 (me_var 3) (me_len (fs.f_len) (ma_cons (me_var 1) ma_nil))) (mss_one (ms_ret me_bl)) mss_nil) (mss_cons (ms_if (mt_eq hu (me_var 2) (me_strL [115, 119, 97, 112, 112, 101, 100])) (mss_one (ms_ret (me_and (me_cmp op_lt ad_lt oj_ix0 (me_addV (me_var 3) me_int) (me_len (fs.f_len) (ma_cons (me_var 1) ma_nil))) (me_one (me_ne hu (me_ix (me_var 1) (me_var 3)) (me_ix (me_var 1) (me_addV (me_var 3) me_int))))))) mss_nil) (mss_one (ms_ret (me_or (me_ne hu (me_var 2) (me_strL [119, 114, 105, 116, 116, 101, 110])) (me_one (me_ne hu (me_ix (me_var 1) (me_var 3)) (me_ix (me_var 0) me_int)))))))))
abbrev N__law_word : List Str := ["pool", "taken", "letters", "many", "wide", "made", "k", "one", "letter"]
theorem sc__law_word : FnScope N__law_word ["pool", "taken"] (defScope s__law_word) := ⟨rfl, rfl, rfl, by decide +kernel, rfl, by decide +kernel, by decide +kernel⟩
theorem b__law_word {K : PySem.W.Frag} {mg : Str → Option Value} {Pg : Program} {w : World} {base : Heap} {f : Addr} (fs : Fs ⟨K, mg, nm⟩) (F__law_pick_2 : GFn ⟨K, mg, nm⟩ Pg w base 1 "_law_pick" 2 [] (fxP p__law_pick)) : Bod ⟨K, mg, nm⟩ Pg w base 1 N__law_word "_law_word" (defScope s__law_word) f (defBody s__law_word) (ps m__law_word) := fun cdv A outer s H E hr hgd tk => by
  have hu : (A.deeper (envOfC "_law_word" (defScope s__law_word) s.heap.objs.size f cdv)).units + 100 < cLine := by have := hr.un; omega
  exact (mss_cons (ms_set 2 (me_strL azS) sc__law_word.nd) (mss_cons (ms_set 3 (me_ix (me_kon (d := .lst [.int 1, .int 1, .int 1, .int 2, .int 3, .int 11]) (me_lstV (ma_cons me_int (ma_cons me_int (ma_cons me_int (ma_cons me_int (ma_cons me_int (ma_cons me_int ma_nil)))))))) (me_callF [false, true] F__law_pick_2 hr hgd tk (ma_cons (me_var 0) (ma_cons me_int ma_nil)))) sc__law_word.nd) (mss_cons (ms_set 4 (me_if (mt_eq hu (me_var 3) me_int) me_int me_int) sc__law_word.nd) (mss_cons (ms_set 5 (me_join (me_strL []) (ma_cons (me_fzV (me_lc false (de_lc (vs := [6]) (own := [("k", 6)]) rfl sc__law_word.nd (mi_range1 (fs.f_range) (ma_cons (me_var 3) ma_nil)) (blkOk_by (by show blkC N__law_word (defScope s__law_word) _ _ = true; decide +kernel)) rfl (fun _ _ _ _ _ => (mgw_name 6 sc__law_word.nd)) (fun _ _ _ _ _ => mts_nil) (fun _ _ _ _ _ => (me_ix (me_var 2) (me_callF [false, true] F__law_pick_2 hr hgd takes_W0 (ma_cons (me_var 0) (ma_cons (me_var 4) ma_nil)))))))) ma_nil)) sc__law_word.nd) (mss_one (ms_ret (me_ix (me_fzV (me_lc false (de_lc (vs := [7]) (own := [("one", 7)]) rfl sc__law_word.nd (mi_seq (me_addV (me_lstV (ma_cons (me_var 5) ma_nil)) (me_fzV (me_lc false (de_lc (vs := [8]) (own := [("letter", 8)]) rfl sc__law_word.nd (mi_seq (me_var 2)) (blkOk_by (by show blkC N__law_word (defScope s__law_word) _ _ = true; decide +kernel)) rfl (fun _ _ _ _ _ => (mgw_name 8 sc__law_word.nd)) (fun _ _ _ _ _ => mts_nil) (fun _ _ _ _ _ => (me_addV (me_var 5) (me_var 8)))))))) (blkOk_by (by show blkC N__law_word (defScope s__law_word) _ _ = true; decide +kernel)) rfl (fun _ _ _ _ _ => (mgw_name 7 sc__law_word.nd)) (fun _ _ _ _ _ => (mts_one (mt_nin hu (me_var 7) (me_var 1)))) (fun _ _ _ _ _ => (me_var 7))))) me_int)))))))
abbrev N__law_words : List Str := ["pool", "many", "taken", "found", "k"]
theorem sc__law_words : FnScope N__law_words ["pool", "many", "taken"] (defScope s__law_words) := ⟨rfl, rfl, rfl, by decide +kernel, rfl, by decide +kernel, by decide +kernel⟩
theorem b__law_words {K : PySem.W.Frag} {mg : Str → Option Value} {Pg : Program} {w : World} {base : Heap} {f : Addr} (fs : Fs ⟨K, mg, nm⟩) (F__law_word_2 : GFn ⟨K, mg, nm⟩ Pg w base 2 "_law_word" 2 [] (fxP p__law_word)) : Bod ⟨K, mg, nm⟩ Pg w base 2 N__law_words "_law_words" (defScope s__law_words) f (defBody s__law_words) (ps m__law_words) := fun cdv A outer s H E hr hgd tk => by
  have hu : (A.deeper (envOfC "_law_words" (defScope s__law_words) s.heap.objs.size f cdv)).units + 100 < cLine := by have := hr.un; omega
  exact (mss_cons (ms_set 3 (me_lst ma_nil) sc__law_words.nd) (mss_cons (ms_for (passes_of rfl) rfl (mi_range1 (fs.f_range) (ma_cons (me_var 1) ma_nil)) (mg_name 4 sc__law_words.nd) (mss_one (ms_expr (me_append (me_var 3) (ma_cons (me_callF [false, true] F__law_word_2 hr hgd tk (ma_cons (me_var 0) (ma_cons (me_addV (me_var 2) (me_var 3)) ma_nil))) ma_nil))))) (mss_one (ms_ret (me_var 3)))))
abbrev N__law_tokens : List Str := ["pool", "many", "menu", "k"]
theorem sc__law_tokens : FnScope N__law_tokens ["pool", "many"] (defScope s__law_tokens) := ⟨rfl, rfl, rfl, by decide +kernel, rfl, by decide +kernel, by decide +kernel⟩
theorem b__law_tokens {K : PySem.W.Frag} {mg : Str → Option Value} {Pg : Program} {w : World} {base : Heap} {f : Addr} (fs : Fs ⟨K, mg, nm⟩) (F__law_pick_2 : GFn ⟨K, mg, nm⟩ Pg w base 1 "_law_pick" 2 [] (fxP p__law_pick)) (F__law_of_2 : GFn ⟨K, mg, nm⟩ Pg w base 2 "_law_of" 2 [] (fxP p__law_of)) (F__law_words_3 : GFn ⟨K, mg, nm⟩ Pg w base 3 "_law_words" 3 [] (fxP p__law_words)) : Bod ⟨K, mg, nm⟩ Pg w base 3 N__law_tokens "_law_tokens" (defScope s__law_tokens) f (defBody s__law_tokens) (ps m__law_tokens) := fun cdv A outer s H E hr hgd tk => by
  have hu : (A.deeper (envOfC "_law_tokens" (defScope s__law_tokens) s.heap.objs.size f cdv)).units + 100 < cLine := by have := hr.un; omega
  exact (mss_cons (ms_set 2 (me_addV (me_kon (d := .lst [.str [61], .str [59], .str [44], .str [91], .str [93], .str [97], .str [98], .str [121, 101, 115], .str [48], .str [49, 50]]) (me_lstV (ma_cons (me_strL [61]) (ma_cons (me_strL [59]) (ma_cons (me_strL [44]) (ma_cons (me_strL [91]) (ma_cons (me_strL [93]) (ma_cons (me_strL [97]) (ma_cons (me_strL [98]) (ma_cons (me_strL [121, 101, 115]) (ma_cons (me_strL [48]) (ma_cons (me_strL [49, 50]) ma_nil)))))))))))) (me_callF [false, true, true] F__law_words_3 hr hgd tk (ma_cons (me_var 0) (ma_cons me_int (ma_cons (me_lstV ma_nil) ma_nil))))) sc__law_tokens.nd) (mss_cons (ms_if (mt_eq hu (me_callF [false, true] F__law_pick_2 hr hgd tk (ma_cons (me_var 0) (ma_cons me_int ma_nil))) me_int) (mss_one (ms_set 2 (me_lstV (ma_cons (me_callF [false, true] F__law_of_2 hr hgd tk (ma_cons (me_var 0) (ma_cons (me_var 2) ma_nil))) (ma_cons (me_callF [false, true] F__law_of_2 hr hgd tk (ma_cons (me_var 0) (ma_cons (me_kon (d := .lst [.str [97], .str [98], .str [61], .str [59], .str [48]]) (me_lstV (ma_cons (me_strL [97]) (ma_cons (me_strL [98]) (ma_cons (me_strL [61]) (ma_cons (me_strL [59]) (ma_cons (me_strL [48]) ma_nil))))))) ma_nil))) ma_nil))) sc__law_tokens.nd)) mss_nil) (mss_one (ms_ret (me_fzV (me_lc false (de_lc (vs := [3]) (own := [("k", 3)]) rfl sc__law_tokens.nd (mi_range1 (fs.f_range) (ma_cons (me_callF [false, true] F__law_pick_2 hr hgd tk (ma_cons (me_var 0) (ma_cons (me_addV (me_var 1) me_int) ma_nil))) ma_nil)) (blkOk_by (by show blkC N__law_tokens (defScope s__law_tokens) _ _ = true; decide +kernel)) rfl (fun _ _ _ _ _ => (mgw_name 3 sc__law_tokens.nd)) (fun _ _ _ _ _ => mts_nil) (fun _ _ _ _ _ => (me_callF [false, true] F__law_of_2 hr hgd takes_W0 (ma_cons (me_var 0) (ma_cons (me_var 2) ma_nil)))))))))))
abbrev N__law_made : List Str := ["parts", "e"]
theorem sc__law_made : FnScope N__law_made ["parts"] (defScope s__law_made) := ⟨rfl, rfl, rfl, by decide +kernel, rfl, by decide +kernel, by decide +kernel⟩
theorem hj__law_made_1 (T : Cn) : HJ T 1 (fun a cls d => (mRet (mTup (mCons (mXf T a cls d [105] 357 (mVar 1)) mNil)))) h__law_made_1 := hj_of fun a cls d dd c fs sl hcl hdd hi => by
  unfold h__law_made_1
  exact (sims_ret (sim_tup (sim_cons (sim_xf hcl hdd hi) sim_nil)))
theorem b__law_made {K : PySem.W.Frag} {mg : Str → Option Value} {Pg : Program} {w : World} {base : Heap} {f : Addr} (fs : Fs ⟨K, mg, nm⟩) (N_Slip_3 : GMk ⟨K, mg, nm⟩ Pg w base 4 262 [] (fxP p_Slip__DOT____init__)) : Bod ⟨K, mg, nm⟩ Pg w base 5 N__law_made "_law_made" (defScope s__law_made) f (defBody s__law_made) (ps m__law_made) := fun cdv A outer s H E hr hgd tk => by
  have hu : (A.deeper (envOfC "_law_made" (defScope s__law_made) s.heap.objs.size f cdv)).units + 100 < cLine := by have := hr.un; omega
  exact (mss_one (ms_tryAs 1 (isA := isA_BadSlip) (h := h__law_made_1) sc__law_made.nd ⟨rfl, by decide, .inl fs.g_BadSlip⟩ tk fs.x_BadSlip (fun _ _ _ tk2 hp2 => (mss_one (ms_ret (me_fzV (me_new [true, true, true] N_Slip_3 hr hgd tk2 (ma_cons (me_ix (me_var 0) me_int) (ma_cons (me_ix (me_var 0) me_int) (ma_cons (me_ix (me_var 0) me_int) ma_nil)))))))) (fun a oe cls d pn hz hf => (mss_one (ms_ret (me_tup (ma_cons (me_xf (de_xf hz hf (fs.xf_at) (me_var 1))) ma_nil))))) (hj__law_made_1 _)))
abbrev N__law_parts : List Str := ["pool", "kind", "spot", "one", "way"]
theorem sc__law_parts : FnScope N__law_parts ["pool"] (defScope s__law_parts) := ⟨rfl, rfl, rfl, by decide +kernel, rfl, by decide +kernel, by decide +kernel⟩
theorem b__law_parts {K : PySem.W.Frag} {mg : Str → Option Value} {Pg : Program} {w : World} {base : Heap} {f : Addr} (fs : Fs ⟨K, mg, nm⟩) (F__law_of_2 : GFn ⟨K, mg, nm⟩ Pg w base 2 "_law_of" 2 [] (fxP p__law_of)) (F__law_pick_2 : GFn ⟨K, mg, nm⟩ Pg w base 1 "_law_pick" 2 [] (fxP p__law_pick)) : Bod ⟨K, mg, nm⟩ Pg w base 2 N__law_parts "_law_parts" (defScope s__law_parts) f (defBody s__law_parts) (ps m__law_parts) := fun cdv A outer s H E hr hgd tk => by
  have hu : (A.deeper (envOfC "_law_parts" (defScope s__law_parts) s.heap.objs.size f cdv)).units + 100 < cLine := by have := hr.un; omega
  exact (mss_cons (ms_set 1 (me_callF [false, true] F__law_of_2 hr hgd tk (ma_cons (me_var 0) (ma_cons (me_kon (d := .lst [.str [108, 101, 102, 116], .str [100, 111, 117, 98, 108, 101, 100], .str [115, 119, 97, 112, 112, 101, 100], .str [119, 114, 105, 116, 116, 101, 110], .str [119, 114, 105, 116, 116, 101, 110]]) (me_lstV (ma_cons (me_strL [108, 101, 102, 116]) (ma_cons (me_strL [100, 111, 117, 98, 108, 101, 100]) (ma_cons (me_strL [115, 119, 97, 112, 112, 101, 100]) (ma_cons (me_strL [119, 114, 105, 116, 116, 101, 110]) (ma_cons (me_strL [119, 114, 105, 116, 116, 101, 110]) ma_nil))))))) ma_nil))) sc__law_parts.nd) (mss_cons (ms_set 2 (me_callF [false, true] F__law_pick_2 hr hgd tk (ma_cons (me_var 0) (ma_cons (me_ix (me_kon (d := .lst [.int 4, .int 8, .int 16]) (me_lstV (ma_cons me_int (ma_cons me_int (ma_cons me_int ma_nil))))) (me_callF [false, true] F__law_pick_2 hr hgd tk (ma_cons (me_var 0) (ma_cons me_int ma_nil)))) ma_nil))) sc__law_parts.nd) (mss_cons (ms_set 3 (me_if (mt_eq hu (me_var 1) (me_strL [119, 114, 105, 116, 116, 101, 110])) (me_callF [false, true] F__law_of_2 hr hgd tk (ma_cons (me_var 0) (ma_cons (me_kon (d := .lst [.str [61], .str [59], .str [44], .str [97], .str [98], .str [49, 50], .str [48]]) (me_lstV (ma_cons (me_strL [61]) (ma_cons (me_strL [59]) (ma_cons (me_strL [44]) (ma_cons (me_strL [97]) (ma_cons (me_strL [98]) (ma_cons (me_strL [49, 50]) (ma_cons (me_strL [48]) ma_nil))))))))) ma_nil))) me_non) sc__law_parts.nd) (mss_cons (ms_set 4 (me_callF [false, true] F__law_pick_2 hr hgd tk (ma_cons (me_var 0) (ma_cons me_int ma_nil))) sc__law_parts.nd) (mss_cons (ms_if (mt_eq hu (me_var 4) me_int) (mss_one (ms_ret (me_tup (ma_cons (me_callF [false, true] F__law_of_2 hr hgd tk (ma_cons (me_var 0) (ma_cons (me_kon (d := .lst [.str [119, 111, 114, 100], .str [76, 101, 102, 116], .str [], .non, .int 1, .lst [.str [108, 101, 102, 116]]]) (me_lstV (ma_cons (me_strL [119, 111, 114, 100]) (ma_cons (me_strL [76, 101, 102, 116]) (ma_cons (me_strL []) (ma_cons me_non (ma_cons me_int (ma_cons (me_kon (d := .lst [.str [108, 101, 102, 116]]) (me_lstV (ma_cons (me_strL [108, 101, 102, 116]) ma_nil))) ma_nil)))))))) ma_nil))) (ma_cons (me_var 2) (ma_cons (me_var 3) (ma_cons me_bl ma_nil))))))) mss_nil) (mss_cons (ms_if (mt_eq hu (me_var 4) me_int) (mss_one (ms_ret (me_tup (ma_cons (me_var 1) (ma_cons (me_callF [false, true] F__law_of_2 hr hgd tk (ma_cons (me_var 0) (ma_cons (me_kon (d := .lst [.int (-1), .bl true, .bl false, .non, .str [48], .tup [.int 1], .int (-100000000000000000000)]) (me_lstV (ma_cons (me_kon (d := .int (-1)) (me_neg me_int)) (ma_cons me_bl (ma_cons me_bl (ma_cons me_non (ma_cons (me_strL [48]) (ma_cons (me_kon (d := .tup [.int 1]) (me_tup (ma_cons me_int ma_nil))) (ma_cons (me_kon (d := .int (-100000000000000000000)) (me_neg (me_kon (d := .int 100000000000000000000) (me_pow me_int me_int)))) ma_nil))))))))) ma_nil))) (ma_cons (me_var 3) (ma_cons me_bl ma_nil))))))) mss_nil) (mss_cons (ms_if (DW.dt (mw_and (mt_eq hu (me_var 4) me_int) (mw_and1 (mt_eq hu (me_var 1) (me_strL [119, 114, 105, 116, 116, 101, 110]))))) (mss_one (ms_ret (me_tup (ma_cons (me_var 1) (ma_cons (me_var 2) (ma_cons (me_callF [false, true] F__law_of_2 hr hgd tk (ma_cons (me_var 0) (ma_cons (me_kon (d := .lst [.non, .str [], .str [65], .str [97, 32, 98], .int 7, .str [48, 55], .bl true, .str [97, 97, 97, 97, 97, 97, 97, 97, 97, 97, 97, 97, 97], .lst [.str [97]]]) (me_lstV (ma_cons me_non (ma_cons (me_strL []) (ma_cons (me_strL [65]) (ma_cons (me_strL [97, 32, 98]) (ma_cons me_int (ma_cons (me_strL [48, 55]) (ma_cons me_bl (ma_cons (me_kon (d := .str [97, 97, 97, 97, 97, 97, 97, 97, 97, 97, 97, 97, 97]) (me_smul (me_strL [97]) me_int)) (ma_cons (me_kon (d := .lst [.str [97]]) (me_lstV (ma_cons (me_strL [97]) ma_nil))) ma_nil))))))))))) ma_nil))) (ma_cons me_bl ma_nil))))))) mss_nil) (mss_cons (ms_if (mt_eq hu (me_var 4) me_int) (mss_one (ms_ret (me_tup (ma_cons (me_var 1) (ma_cons (me_var 2) (ma_cons (me_callF [false, true] F__law_of_2 hr hgd tk (ma_cons (me_var 0) (ma_cons (me_kon (d := .lst [.str [97], .str [], .int 0, .bl false, .str [59]]) (me_lstV (ma_cons (me_strL [97]) (ma_cons (me_strL []) (ma_cons me_int (ma_cons me_bl (ma_cons (me_strL [59]) ma_nil))))))) ma_nil))) (ma_cons me_bl ma_nil))))))) mss_nil) (mss_one (ms_ret (me_tup (ma_cons (me_var 1) (ma_cons (me_var 2) (ma_cons (me_var 3) (ma_cons me_bl ma_nil)))))))))))))))
abbrev N_law : List Str := ["script", "kept", "place", "pool", "parts", "slip", "turn", "copies", "told", "file", "copy", "fits", "due", "other", "others", "first", "second"]
theorem sc_law : FnScope N_law ["script"] (defScope s_law) := ⟨rfl, rfl, rfl, by decide +kernel, rfl, by decide +kernel, by decide +kernel⟩
theorem b_law {K : PySem.W.Frag} {mg : Str → Option Value} {Pg : Program} {w : World} {base : Heap} {f : Addr} (fs : Fs ⟨K, mg, nm⟩) (F_trimmed_2 : GFn ⟨K, mg, nm⟩ Pg w base 1 "trimmed" 2 [] (fxP p_trimmed)) (F__law_cut_2 : GFn ⟨K, mg, nm⟩ Pg w base 1 "_law_cut" 2 [] (fxP p__law_cut)) (F__law_lists_1 : GFn ⟨K, mg, nm⟩ Pg w base 3 "_law_lists" 1 [] (fxP p__law_lists)) (F__law_pool_2 : GFn ⟨K, mg, nm⟩ Pg w base 1 "_law_pool" 2 [] (fxP p__law_pool)) (F__law_done_2 : GFn ⟨K, mg, nm⟩ Pg w base 4 "_law_done" 2 [] (fxP p__law_done)) (F__law_due_2 : GFn ⟨K, mg, nm⟩ Pg w base 1 "_law_due" 2 [] (fxP p__law_due)) (F__law_fits_2 : GFn ⟨K, mg, nm⟩ Pg w base 1 "_law_fits" 2 [] (fxP p__law_fits)) (F__law_tokens_2 : GFn ⟨K, mg, nm⟩ Pg w base 4 "_law_tokens" 2 [] (fxP p__law_tokens)) (F__law_made_1 : GFn ⟨K, mg, nm⟩ Pg w base 6 "_law_made" 1 [] (fxP p__law_made)) (F__law_parts_1 : GFn ⟨K, mg, nm⟩ Pg w base 3 "_law_parts" 1 [] (fxP p__law_parts)) (N_Slip_3 : GMk ⟨K, mg, nm⟩ Pg w base 4 262 [] (fxP p_Slip__DOT____init__)) (O_eq : OkE ⟨K, mg, nm⟩ Pg w base 1 tab___eq__ sub_eq) (M_fits : ∀ c mm dd q, tab_fits c = some (mm, dd, q) → GMe ⟨K, mg, nm⟩ Pg w base 1 c "fits" dd (fxP q)) : Bod ⟨K, mg, nm⟩ Pg w base 6 N_law "law" (defScope s_law) f (defBody s_law) (ps m_law) := fun cdv A outer s H E hr hgd tk => by
  have hu : (A.deeper (envOfC "law" (defScope s_law) s.heap.objs.size f cdv)).units + 100 < cLine := by have := hr.un; omega
  exact (mss_cons (ms_set 1 (me_lst ma_nil) sc_law.nd) (mss_cons (ms_for (passes_of rfl) rfl (mi_range1 (fs.f_range) (ma_cons me_int ma_nil)) (mg_name 2 sc_law.nd) (mss_go [3] (mss_cons (ms_set 3 (me_callF [true, true] F__law_pool_2 hr hgd tk (ma_cons (me_var 0) (ma_cons (me_var 2) ma_nil))) sc_law.nd) (mss_cons (ms_set 4 (me_callF [false] F__law_parts_1 hr hgd tk (ma_cons (me_var 3) ma_nil)) sc_law.nd) (mss_cons (ms_set 5 (me_callF [true] F__law_made_1 hr hgd tk (ma_cons (me_var 4) ma_nil)) sc_law.nd) (mss_cons (ms_if (mt_not (mt_tru (me_ix (me_var 4) me_int))) (mss_cons (ms_if (mt_ne hu (me_repr hu hgd (fs.f_repr) (ma_cons (me_var 5) ma_nil)) (me_repr hu hgd (fs.f_repr) (ma_cons (me_tup (ma_cons (me_ix (me_var 4) me_int) ma_nil)) ma_nil))) (mss_one (ms_ret me_bl)) mss_nil) (mss_one ms_cont)) mss_nil) (mss_cons (ms_if (DW.dt (mw_or (mt_not (mt_tru (me_isC (fs.f_isinstance) fs.a_Slip (me_var 5)))) (mw_or1 (mt_ne hu (me_repr hu hgd (fs.f_repr) (ma_cons (me_lstV (ma_cons (me_fld 393 fs.okf (me_var 5)) (ma_cons (me_fld 357 fs.okf (me_var 5)) (ma_cons (me_fld 447 fs.okf (me_var 5)) ma_nil)))) ma_nil)) (me_repr hu hgd (fs.f_repr) (ma_cons (me_lstV (ma_cons (me_ix (me_var 4) me_int) (ma_cons (me_ix (me_var 4) me_int) (ma_cons (me_ix (me_var 4) me_int) ma_nil)))) ma_nil)))))) (mss_one (ms_ret me_bl)) mss_nil) (mss_cons (ms_for (passes_of rfl) rfl (mi_range1 (fs.f_range) (ma_cons me_int ma_nil)) (mg_name 6 sc_law.nd) (mss_cons (ms_set 9 (me_callF [false, true] F__law_tokens_2 hr hgd tk (ma_cons (me_var 3) (ma_cons me_int ma_nil))) sc_law.nd) (mss_cons (ms_set 10 (me_listV (fs.f_list) (ma_cons (me_var 9) ma_nil)) sc_law.nd) (mss_cons (ms_set 11 (me_callF [true, true] F__law_fits_2 hr hgd tk (ma_cons (me_var 4) (ma_cons (me_var 10) ma_nil))) sc_law.nd) (mss_cons (ms_set 12 (me_if (mt_tru (me_var 11)) (me_callF [true, true] F__law_due_2 hr hgd tk (ma_cons (me_var 4) (ma_cons (me_var 10) ma_nil))) (me_tup (ma_cons (me_ix (me_var 4) me_int) ma_nil))) sc_law.nd) (mss_cons (ms_if (DW.dt (mw_or (mt_ne hu (me_repr hu hgd (fs.f_repr) (ma_cons (me_meth true (me_var 5) fs.m_fits M_fits hr hgd tk (ma_cons (me_var 9) ma_nil)) ma_nil)) (me_repr hu hgd (fs.f_repr) (ma_cons (me_var 11) ma_nil))) (mw_or (mt_ne hu (me_repr hu hgd (fs.f_repr) (ma_cons (me_callF [true, true] F__law_done_2 hr hgd tk (ma_cons (me_var 5) (ma_cons (me_var 9) ma_nil))) ma_nil)) (me_repr hu hgd (fs.f_repr) (ma_cons (me_var 12) ma_nil))) (mw_or1 (mt_ne hu (me_var 9) (me_var 10)))))) (mss_one (ms_ret me_bl)) mss_nil) (mss_one (ms_if (DW.dt (mw_or (mt_ne hu (me_repr hu hgd (fs.f_repr) (ma_cons (me_meth true (me_var 5) fs.m_fits M_fits hr hgd tk (ma_cons (me_tupleC (fs.f_tuple) (ma_cons (me_var 9) ma_nil)) ma_nil)) ma_nil)) (me_repr hu hgd (fs.f_repr) (ma_cons (me_var 11) ma_nil))) (mw_or1 (mt_ne hu (me_repr hu hgd (fs.f_repr) (ma_cons (me_callF [true, true] F__law_done_2 hr hgd tk (ma_cons (me_var 5) (ma_cons (me_tupleC (fs.f_tuple) (ma_cons (me_var 9) ma_nil)) ma_nil))) ma_nil)) (me_repr hu hgd (fs.f_repr) (ma_cons (me_var 12) ma_nil)))))) (mss_one (ms_ret me_bl)) mss_nil)))))))) (mss_one (ms_expr (me_append (me_var 1) (ma_cons (me_tup (ma_cons (me_var 5) (ma_cons (me_var 4) ma_nil))) ma_nil)))))))))))) (mss_cons (ms_for (passes_of rfl) rfl (mi_seq (me_frz (me_var 1))) (mg_tup rfl (mgs_cons (mg_name 5 sc_law.nd) (mgs_cons (mg_name 4 sc_law.nd) mgs_nil))) (mss_one (ms_for (passes_of rfl) rfl (mi_seq (me_frz (me_var 1))) (mg_tup rfl (mgs_cons (mg_name 13 sc_law.nd) (mgs_cons (mg_name 14 sc_law.nd) mgs_nil))) (mss_one (ms_if (DW.dt (mw_or (mt_ne hu (me_eqI true hu O_eq hr hgd (me_var 5) (me_var 13)) (me_eq hu (me_var 4) (me_var 14))) (mw_or (mt_eqI true hu O_eq hr hgd (me_var 5) (me_var 4)) (mw_or1 (mt_not (mt_eqI true hu O_eq hr hgd (me_var 5) (me_fzV (me_new [true, true, true] N_Slip_3 hr hgd tk (ma_cons (me_ix (me_var 4) me_int) (ma_cons (me_ix (me_var 4) me_int) (ma_cons (me_ix (me_var 4) me_int) ma_nil))))))))))) (mss_one (ms_ret me_bl)) mss_nil))))) (mss_cons (ms_for (passes_of rfl) rfl (mi_range2 (fs.f_range) (ma_cons me_int (ma_cons me_int ma_nil))) (mg_name 2 sc_law.nd) (mss_go [8] (mss_cons (ms_asg (me_callF [false] F__law_lists_1 hr hgd tk (ma_cons (me_callF [true, true] F__law_pool_2 hr hgd tk (ma_cons (me_var 0) (ma_cons (me_var 2) ma_nil))) ma_nil)) (mg_tup rfl (mgs_cons (mg_name 15 sc_law.nd) (mgs_cons (mg_name 16 sc_law.nd) mgs_nil)))) (mss_cons (ms_set 7 (me_lstV (ma_cons (me_listV (fs.f_list) (ma_cons (me_var 15) ma_nil)) (ma_cons (me_listV (fs.f_list) (ma_cons (me_var 16) ma_nil)) ma_nil))) sc_law.nd) (mss_cons (ms_set 8 (me_callF [true, true] F_trimmed_2 hr hgd tk (ma_cons (me_var 15) (ma_cons (me_var 16) ma_nil))) sc_law.nd) (mss_cons (ms_if (DW.dt (mw_or (mt_not (mt_tru (me_isi (fs.f_isinstance) (fs.f_tuple) rfl (me_var 8)))) (mw_or (mt_ne hu (me_repr hu hgd (fs.f_repr) (ma_cons (me_var 8) ma_nil)) (me_repr hu hgd (fs.f_repr) (ma_cons (me_callF [true, true] F__law_cut_2 hr hgd tk (ma_cons (me_ix (me_var 7) me_int) (ma_cons (me_ix (me_var 7) me_int) ma_nil))) ma_nil))) (mw_or1 (mt_ne hu (me_lstV (ma_cons (me_var 15) (ma_cons (me_var 16) ma_nil))) (me_var 7)))))) (mss_one (ms_ret me_bl)) mss_nil) (mss_cons (ms_expr (me_append (me_ixO (me_var 8) me_int) (ma_cons (me_strL [120]) ma_nil))) (mss_one (ms_if (DW.dt (mw_or (mt_ne hu (me_lstV (ma_cons (me_var 15) (ma_cons (me_var 16) ma_nil))) (me_var 7)) (mw_or1 (mt_ne hu (me_repr hu hgd (fs.f_repr) (ma_cons (me_fzV (me_callF [true, true] F_trimmed_2 hr hgd tk (ma_cons (me_var 16) (ma_cons (me_var 15) ma_nil)))) ma_nil)) (me_repr hu hgd (fs.f_repr) (ma_cons (me_callF [true, true] F__law_cut_2 hr hgd tk (ma_cons (me_ix (me_var 7) me_int) (ma_cons (me_ix (me_var 7) me_int) ma_nil))) ma_nil)))))) (mss_one (ms_ret me_bl)) mss_nil))))))))) (mss_one (ms_ret me_bl))))))
-- levels: trimmed 1, _law_cut 1, _law_pick 1, _law_of 2, _law_lists 3, _law_pool 1, Slip__DOT____eq__ 1, made_of 1, is_numeral 2, is_word 2, sort_of 3, Slip__DOT____init__ 4, Slip__DOT__fits 1, Slip__DOT____call__ 3, _law_done 4, _law_due 1, _law_fits 1, _law_word 2, _law_words 3, _law_tokens 4, _law_made 6, _law_parts 3, law 7
def fn : List He.DefD := [d_trimmed, d__law_cut, d__law_pick, d__law_of, d__law_lists, d__law_pool, d_Slip__DOT____eq__, d_made_of, d_is_numeral, d_is_word, d_sort_of, d_Slip__DOT____init__, d_Slip__DOT__fits, d_Slip__DOT____call__, d__law_done, d__law_due, d__law_fits, d__law_word, d__law_words, d__law_tokens, d__law_made, d__law_parts, d_law, d_init_BadSlip]
def fa0 : List Fk := [fFree "abs", fFree "bool", fFree "int", fFree "isinstance", fFree "len", fFree "list", fFree "min", fFree "range", fFree "repr", fFree "str", fFree "sum", fFree "tuple", fFa (.str "DIGITS" "0123456789"), fFa (.str "LETTERS" "abcdefghijklmnopqrstuvwxyz"), fFa (.int "LONGEST" 12), fGlo "SIGNS", fTup "SIGNS" [.str "=", .str ";", .str ",", .str "[", .str "]"], fGlo "SLIP_KINDS", fTup "SLIP_KINDS" [.str "left", .str "doubled", .str "swapped", .str "written"], fGlo "SettingsError", fGlo "BadSlip", fExm "SettingsError" "BadSlip" false, fExm "BadSlip" "BadSlip" true, fXf "BadSlip", fNoat "BadSlip" "at", fOex "BadSlip", fGlo "trimmed", fGlo "_law_cut", fGlo "_law_pick", fGlo "_law_of", fGlo "_law_lists", fGlo "_law_pool", fGlo "made_of", fGlo "is_numeral", fGlo "is_word", fGlo "sort_of", fGlo "_law_done", fGlo "_law_due", fGlo "_law_fits", fGlo "_law_word"]
def fa1 : List Fk := [fGlo "_law_words", fGlo "_law_tokens", fGlo "_law_made", fGlo "_law_parts", fGlo "law", fTabF nm okl, fAns nm "Slip" anl_Slip, fSub nm sul, fIns "Slip", fMkr "Slip", fMeth "Slip" "__eq__", fMeth "Slip" "fits", fMeth "Slip" "__call__"]
def fa : List Fk := fa0 ++ fa1
theorem fs_of {K : PySem.W.Frag} {mg : Str → Option Value} {h : Heap} (X : K.In h) (G : h.Ns mainGlobals mg) (c : SaysF fa fn K) : Fs ⟨K, mg, nm⟩ where
  f_abs := He.free_ok X G (c.fact 0)
  f_bool := He.free_ok X G (c.fact 1)
  f_int := He.free_ok X G (c.fact 2)
  f_isinstance := He.free_ok X G (c.fact 3)
  f_len := He.free_ok X G (c.fact 4)
  f_list := He.free_ok X G (c.fact 5)
  f_min := He.free_ok X G (c.fact 6)
  f_range := He.free_ok X G (c.fact 7)
  f_repr := He.free_ok X G (c.fact 8)
  f_str := He.free_ok X G (c.fact 9)
  f_sum := He.free_ok X G (c.fact 10)
  f_tuple := He.free_ok X G (c.fact 11)
  c_DIGITS := GC.str (T := ⟨K, mg, nm⟩) X G (c.fact 12)
  c_LETTERS := GC.str (T := ⟨K, mg, nm⟩) X G (c.fact 13)
  c_LONGEST := GC.int (T := ⟨K, mg, nm⟩) X G (c.fact 14)
  c_SIGNS := GC.tup (T := ⟨K, mg, nm⟩) X G (c.fact 15) (c.fact 16) (fun F => RepL.cons (rep_str.mpr rfl) (RepL.cons (rep_str.mpr rfl) (RepL.cons (rep_str.mpr rfl) (RepL.cons (rep_str.mpr rfl) (RepL.cons (rep_str.mpr rfl) (RepL.nil))))))
  c_SLIP_KINDS := GC.tup (T := ⟨K, mg, nm⟩) X G (c.fact 17) (c.fact 18) (fun F => RepL.cons (rep_str.mpr rfl) (RepL.cons (rep_str.mpr rfl) (RepL.cons (rep_str.mpr rfl) (RepL.cons (rep_str.mpr rfl) (RepL.nil)))))
  g_BadSlip := He.glo_ok X G (c.fact 20)
  x_BadSlip := fun z k hk C hC => by
    have hm := mem_look hk
    simp only [List.mem_cons, List.not_mem_nil, or_false, Prod.mk.injEq] at hm
    rcases hm with ⟨rfl, rfl⟩ | ⟨rfl, rfl⟩
    · have e := (He.glo_ok X G (c.fact 19)).symm.trans hC
      cases e
      exact of_decide_eq_true (c.fact 21)
    · have e := (He.glo_ok X G (c.fact 20)).symm.trans hC
      cases e
      exact of_decide_eq_true (c.fact 22)
  xf_at := fun z hz C hC => by
    simp only [List.mem_cons, List.not_mem_nil, or_false] at hz
    rcases hz with rfl
    · have e := (He.glo_ok X G (c.fact 20)).symm.trans hC
      cases e
      exact ⟨xfB_ok (c.fact 23), He.eqO_ok (c.fact 24)⟩
  okf := OkF.of (T := ⟨K, mg, nm⟩) X G (c.fact 45) (show injB nm okl = true by decide +kernel) (by decide)
  m_fits := OkM.of (T := ⟨K, mg, nm⟩) (show (okl.all fun p => p.2.all fun f => decide (nm f ≠ ("fits" : Str))) = true by decide +kernel)
  a_Slip := AnsC.of (T := ⟨K, mg, nm⟩) X G (c.fact 46)
theorem sc_init_BadSlip : FnScope ["self", "at"] ["self", "at"] (defScope s_init_BadSlip) := ⟨rfl, rfl, rfl, by decide +kernel, rfl, by decide +kernel, by decide +kernel⟩
theorem mk_BadSlip {K : PySem.W.Frag} {mg : Str → Option Value} {h : Heap} (Pg : Program) (w : World) (base : Heap) (X : K.In h) (G : h.Ns mainGlobals mg) (c : SaysF fa fn K) : ExcK ⟨K, mg, nm⟩ Pg w base 105 [357] := by
  obtain ⟨fd, F⟩ := c.def_ 23 (d := d_init_BadSlip) rfl
  have O := fOex_ok (c.fact 25)
  exact ExcK.of (T := ⟨K, mg, nm⟩) (ps := ["self", "at"]) X G rfl (c.fact 20) (c.fact 25) F (init1 O.1 (He.eqO_ok (c.fact 24)) F sc_init_BadSlip rfl rfl fun cdv A outer s H E => (pss_one (ps_ost (pe_var (i := 0) rfl (.inl rfl) (by decide) (by decide)) (pe_var (i := 1) rfl (.inl rfl) (by decide) (by decide))))) (show (List.map nm [357]).Nodup by decide +kernel) (fun _ _ _ _ _ _ us hl => match us, hl with | [_, _], _ => rfl)
theorem facts {Pg : Program} {w : World} {K : PySem.W.Frag} {h : Heap} {mg : Str → Option Value} {f : Addr} (X : K.In h) (G : h.Ns mainGlobals mg) (hfa : mg ("law" : Str) = some (.ref f)) (c : SaysF fa fn K) :
    ∃ fd : FuncData, (∀ (s : Shared) (v : Value), BindsTo s fd ⟨[v], []⟩ [("script", v)]) ∧ ∀ base : Heap, K.In base → base.Ns mainGlobals mg → FnG ⟨K, mg, nm⟩ Pg w base 7 f fd ["script"] (fxP p_law) := by
  have fs := fs_of X G c
  obtain ⟨fd_trimmed, F_trimmed⟩ := c.def_ 0 (d := d_trimmed) rfl
  obtain ⟨fd__law_cut, F__law_cut⟩ := c.def_ 1 (d := d__law_cut) rfl
  obtain ⟨fd__law_pick, F__law_pick⟩ := c.def_ 2 (d := d__law_pick) rfl
  obtain ⟨fd__law_of, F__law_of⟩ := c.def_ 3 (d := d__law_of) rfl
  obtain ⟨fd__law_lists, F__law_lists⟩ := c.def_ 4 (d := d__law_lists) rfl
  obtain ⟨fd__law_pool, F__law_pool⟩ := c.def_ 5 (d := d__law_pool) rfl
  obtain ⟨fd_Slip__DOT____eq__, F_Slip__DOT____eq__⟩ := c.def_ 6 (d := d_Slip__DOT____eq__) rfl
  obtain ⟨fd_made_of, F_made_of⟩ := c.def_ 7 (d := d_made_of) rfl
  obtain ⟨fd_is_numeral, F_is_numeral⟩ := c.def_ 8 (d := d_is_numeral) rfl
  obtain ⟨fd_is_word, F_is_word⟩ := c.def_ 9 (d := d_is_word) rfl
  obtain ⟨fd_sort_of, F_sort_of⟩ := c.def_ 10 (d := d_sort_of) rfl
  obtain ⟨fd_Slip__DOT____init__, F_Slip__DOT____init__⟩ := c.def_ 11 (d := d_Slip__DOT____init__) rfl
  obtain ⟨fd_Slip__DOT__fits, F_Slip__DOT__fits⟩ := c.def_ 12 (d := d_Slip__DOT__fits) rfl
  obtain ⟨fd_Slip__DOT____call__, F_Slip__DOT____call__⟩ := c.def_ 13 (d := d_Slip__DOT____call__) rfl
  obtain ⟨fd__law_done, F__law_done⟩ := c.def_ 14 (d := d__law_done) rfl
  obtain ⟨fd__law_due, F__law_due⟩ := c.def_ 15 (d := d__law_due) rfl
  obtain ⟨fd__law_fits, F__law_fits⟩ := c.def_ 16 (d := d__law_fits) rfl
  obtain ⟨fd__law_word, F__law_word⟩ := c.def_ 17 (d := d__law_word) rfl
  obtain ⟨fd__law_words, F__law_words⟩ := c.def_ 18 (d := d__law_words) rfl
  obtain ⟨fd__law_tokens, F__law_tokens⟩ := c.def_ 19 (d := d__law_tokens) rfl
  obtain ⟨fd__law_made, F__law_made⟩ := c.def_ 20 (d := d__law_made) rfl
  obtain ⟨fd__law_parts, F__law_parts⟩ := c.def_ 21 (d := d__law_parts) rfl
  obtain ⟨fd_law, F_law⟩ := c.def_ 22 (d := d_law) rfl
  have e := hfa.symm.trans (He.glo_ok X G (c.fact 44))
  cases e
  have bnd := FunD.bindsA (ps := ["script"]) F_law fun _ _ _ _ _ _ us hl => match us, hl with | [_], _ => rfl
  refine ⟨fd_law, fun s v => bnd s [v] rfl, fun base _ _ => ?_⟩
  have X_BadSlip := mk_BadSlip Pg w base X G c
  have G_trimmed : FnG ⟨K, mg, nm⟩ Pg w base 1 _ fd_trimmed ["first", "second"] (fxP p_trimmed) := okP true F_trimmed sc_trimmed (b_trimmed fs )
  have B_trimmed_2 : ∃ ds, Vals [] ds ∧ Binds K fd_trimmed ["first", "second"] ds := ⟨[], .nil, FunD.bindsN F_trimmed (fun _ _ _ _ _ _ us hl => match us, hl with | [_, _], _ => rfl)⟩
  obtain ⟨ds_trimmed_2, V_trimmed_2, Bn_trimmed_2⟩ := B_trimmed_2
  have H_trimmed_2 : GFn ⟨K, mg, nm⟩ Pg w base 1 "trimmed" 2 [] (fxP p_trimmed) := ⟨_, fd_trimmed, ["first", "second"], _, ds_trimmed_2, He.glo_ok X G (c.fact 26), F_trimmed.kp, G_trimmed, Bn_trimmed_2, V_trimmed_2, (fun _ => RepL.nil), rfl⟩
  have G__law_cut : FnG ⟨K, mg, nm⟩ Pg w base 1 _ fd__law_cut ["first", "second"] (fxP p__law_cut) := okP false F__law_cut sc__law_cut (b__law_cut fs )
  have B__law_cut_2 : ∃ ds, Vals [] ds ∧ Binds K fd__law_cut ["first", "second"] ds := ⟨[], .nil, FunD.bindsN F__law_cut (fun _ _ _ _ _ _ us hl => match us, hl with | [_, _], _ => rfl)⟩
  obtain ⟨ds__law_cut_2, V__law_cut_2, Bn__law_cut_2⟩ := B__law_cut_2
  have H__law_cut_2 : GFn ⟨K, mg, nm⟩ Pg w base 1 "_law_cut" 2 [] (fxP p__law_cut) := ⟨_, fd__law_cut, ["first", "second"], _, ds__law_cut_2, He.glo_ok X G (c.fact 27), F__law_cut.kp, G__law_cut, Bn__law_cut_2, V__law_cut_2, (fun _ => RepL.nil), rfl⟩
  have G__law_pick : FnG ⟨K, mg, nm⟩ Pg w base 1 _ fd__law_pick ["pool", "many"] (fxP p__law_pick) := okP false F__law_pick sc__law_pick (b__law_pick fs )
  have B__law_pick_2 : ∃ ds, Vals [] ds ∧ Binds K fd__law_pick ["pool", "many"] ds := ⟨[], .nil, FunD.bindsN F__law_pick (fun _ _ _ _ _ _ us hl => match us, hl with | [_, _], _ => rfl)⟩
  obtain ⟨ds__law_pick_2, V__law_pick_2, Bn__law_pick_2⟩ := B__law_pick_2
  have H__law_pick_2 : GFn ⟨K, mg, nm⟩ Pg w base 1 "_law_pick" 2 [] (fxP p__law_pick) := ⟨_, fd__law_pick, ["pool", "many"], _, ds__law_pick_2, He.glo_ok X G (c.fact 28), F__law_pick.kp, G__law_pick, Bn__law_pick_2, V__law_pick_2, (fun _ => RepL.nil), rfl⟩
  have G__law_of : FnG ⟨K, mg, nm⟩ Pg w base 2 _ fd__law_of ["pool", "some"] (fxP p__law_of) := okP false F__law_of sc__law_of (b__law_of fs H__law_pick_2)
  have B__law_of_2 : ∃ ds, Vals [] ds ∧ Binds K fd__law_of ["pool", "some"] ds := ⟨[], .nil, FunD.bindsN F__law_of (fun _ _ _ _ _ _ us hl => match us, hl with | [_, _], _ => rfl)⟩
  obtain ⟨ds__law_of_2, V__law_of_2, Bn__law_of_2⟩ := B__law_of_2
  have H__law_of_2 : GFn ⟨K, mg, nm⟩ Pg w base 2 "_law_of" 2 [] (fxP p__law_of) := ⟨_, fd__law_of, ["pool", "some"], _, ds__law_of_2, He.glo_ok X G (c.fact 29), F__law_of.kp, G__law_of, Bn__law_of_2, V__law_of_2, (fun _ => RepL.nil), rfl⟩
  have G__law_lists : FnG ⟨K, mg, nm⟩ Pg w base 3 _ fd__law_lists ["pool"] (fxP p__law_lists) := okP false F__law_lists sc__law_lists (b__law_lists fs H__law_pick_2 H__law_of_2)
  have B__law_lists_1 : ∃ ds, Vals [] ds ∧ Binds K fd__law_lists ["pool"] ds := ⟨[], .nil, FunD.bindsN F__law_lists (fun _ _ _ _ _ _ us hl => match us, hl with | [_], _ => rfl)⟩
  obtain ⟨ds__law_lists_1, V__law_lists_1, Bn__law_lists_1⟩ := B__law_lists_1
  have H__law_lists_1 : GFn ⟨K, mg, nm⟩ Pg w base 3 "_law_lists" 1 [] (fxP p__law_lists) := ⟨_, fd__law_lists, ["pool"], _, ds__law_lists_1, He.glo_ok X G (c.fact 30), F__law_lists.kp, G__law_lists, Bn__law_lists_1, V__law_lists_1, (fun _ => RepL.nil), rfl⟩
  have G__law_pool : FnG ⟨K, mg, nm⟩ Pg w base 1 _ fd__law_pool ["script", "place"] (fxP p__law_pool) := okP true F__law_pool sc__law_pool (b__law_pool fs )
  have B__law_pool_2 : ∃ ds, Vals [] ds ∧ Binds K fd__law_pool ["script", "place"] ds := ⟨[], .nil, FunD.bindsN F__law_pool (fun _ _ _ _ _ _ us hl => match us, hl with | [_, _], _ => rfl)⟩
  obtain ⟨ds__law_pool_2, V__law_pool_2, Bn__law_pool_2⟩ := B__law_pool_2
  have H__law_pool_2 : GFn ⟨K, mg, nm⟩ Pg w base 1 "_law_pool" 2 [] (fxP p__law_pool) := ⟨_, fd__law_pool, ["script", "place"], _, ds__law_pool_2, He.glo_ok X G (c.fact 31), F__law_pool.kp, G__law_pool, Bn__law_pool_2, V__law_pool_2, (fun _ => RepL.nil), rfl⟩
  have G_Slip__DOT____eq__ : FnG ⟨K, mg, nm⟩ Pg w base 1 _ fd_Slip__DOT____eq__ ["self", "other"] (fxP p_Slip__DOT____eq__) := okP false F_Slip__DOT____eq__ sc_Slip__DOT____eq__ (b_Slip__DOT____eq__ fs )
  have B_Slip__DOT____eq__ : ∃ ds, Vals [] ds ∧ Binds K fd_Slip__DOT____eq__ ["self", "other"] ds := ⟨[], .nil, FunD.bindsN F_Slip__DOT____eq__ (fun _ _ _ _ _ _ us hl => match us, hl with | [_, _], _ => rfl)⟩
  obtain ⟨ds_Slip__DOT____eq__, V_Slip__DOT____eq__, Bn_Slip__DOT____eq__⟩ := B_Slip__DOT____eq__
  have E_Slip__DOT____eq__ : GMe ⟨K, mg, nm⟩ Pg w base 1 262 "__eq__" [] (fxP p_Slip__DOT____eq__) := GMe.of (T := ⟨K, mg, nm⟩) X G rfl (c.fact 48) (c.fact 50) G_Slip__DOT____eq__ Bn_Slip__DOT____eq__ V_Slip__DOT____eq__ (fun _ => RepL.nil)
  have G_made_of : FnG ⟨K, mg, nm⟩ Pg w base 1 _ fd_made_of ["thing", "signs"] (fxP p_made_of) := okP false F_made_of sc_made_of (b_made_of fs )
  have B_made_of_2 : ∃ ds, Vals [] ds ∧ Binds K fd_made_of ["thing", "signs"] ds := ⟨[], .nil, FunD.bindsN F_made_of (fun _ _ _ _ _ _ us hl => match us, hl with | [_, _], _ => rfl)⟩
  obtain ⟨ds_made_of_2, V_made_of_2, Bn_made_of_2⟩ := B_made_of_2
  have H_made_of_2 : GFn ⟨K, mg, nm⟩ Pg w base 1 "made_of" 2 [] (fxP p_made_of) := ⟨_, fd_made_of, ["thing", "signs"], _, ds_made_of_2, He.glo_ok X G (c.fact 32), F_made_of.kp, G_made_of, Bn_made_of_2, V_made_of_2, (fun _ => RepL.nil), rfl⟩
  have G_is_numeral : FnG ⟨K, mg, nm⟩ Pg w base 2 _ fd_is_numeral ["thing"] (fxP p_is_numeral) := okP false F_is_numeral sc_is_numeral (b_is_numeral fs H_made_of_2)
  have B_is_numeral_1 : ∃ ds, Vals [] ds ∧ Binds K fd_is_numeral ["thing"] ds := ⟨[], .nil, FunD.bindsN F_is_numeral (fun _ _ _ _ _ _ us hl => match us, hl with | [_], _ => rfl)⟩
  obtain ⟨ds_is_numeral_1, V_is_numeral_1, Bn_is_numeral_1⟩ := B_is_numeral_1
  have H_is_numeral_1 : GFn ⟨K, mg, nm⟩ Pg w base 2 "is_numeral" 1 [] (fxP p_is_numeral) := ⟨_, fd_is_numeral, ["thing"], _, ds_is_numeral_1, He.glo_ok X G (c.fact 33), F_is_numeral.kp, G_is_numeral, Bn_is_numeral_1, V_is_numeral_1, (fun _ => RepL.nil), rfl⟩
  have G_is_word : FnG ⟨K, mg, nm⟩ Pg w base 2 _ fd_is_word ["thing"] (fxP p_is_word) := okP false F_is_word sc_is_word (b_is_word fs H_made_of_2)
  have B_is_word_1 : ∃ ds, Vals [] ds ∧ Binds K fd_is_word ["thing"] ds := ⟨[], .nil, FunD.bindsN F_is_word (fun _ _ _ _ _ _ us hl => match us, hl with | [_], _ => rfl)⟩
  obtain ⟨ds_is_word_1, V_is_word_1, Bn_is_word_1⟩ := B_is_word_1
  have H_is_word_1 : GFn ⟨K, mg, nm⟩ Pg w base 2 "is_word" 1 [] (fxP p_is_word) := ⟨_, fd_is_word, ["thing"], _, ds_is_word_1, He.glo_ok X G (c.fact 34), F_is_word.kp, G_is_word, Bn_is_word_1, V_is_word_1, (fun _ => RepL.nil), rfl⟩
  have G_sort_of : FnG ⟨K, mg, nm⟩ Pg w base 3 _ fd_sort_of ["thing"] (fxP p_sort_of) := okP false F_sort_of sc_sort_of (b_sort_of fs H_is_numeral_1 H_is_word_1)
  have B_sort_of_1 : ∃ ds, Vals [] ds ∧ Binds K fd_sort_of ["thing"] ds := ⟨[], .nil, FunD.bindsN F_sort_of (fun _ _ _ _ _ _ us hl => match us, hl with | [_], _ => rfl)⟩
  obtain ⟨ds_sort_of_1, V_sort_of_1, Bn_sort_of_1⟩ := B_sort_of_1
  have H_sort_of_1 : GFn ⟨K, mg, nm⟩ Pg w base 3 "sort_of" 1 [] (fxP p_sort_of) := ⟨_, fd_sort_of, ["thing"], _, ds_sort_of_1, He.glo_ok X G (c.fact 35), F_sort_of.kp, G_sort_of, Bn_sort_of_1, V_sort_of_1, (fun _ => RepL.nil), rfl⟩
  have G_Slip__DOT____init__ : FnG ⟨K, mg, nm⟩ Pg w base 4 _ fd_Slip__DOT____init__ ["self", "kind", "at", "token"] (fxP p_Slip__DOT____init__) := okP false F_Slip__DOT____init__ sc_Slip__DOT____init__ (b_Slip__DOT____init__ fs H_sort_of_1 X_BadSlip)
  have B_Slip__DOT____init___3 := FunD.binds1 (ps := ["self", "kind", "at", "token"]) F_Slip__DOT____init__ 4 1 (by exact List.cons_ne_nil _ _) rfl (fun T kV doc pm an cdv ct us its h1 h2 => match us, its, h1, h2 with | [_, _, _, _], [_], _, _ => ⟨_, rfl, rfl⟩)
  obtain ⟨ds_Slip__DOT____init___3, V_Slip__DOT____init___3, Bn_Slip__DOT____init___3⟩ := B_Slip__DOT____init___3
  have N_Slip_3 : GMk ⟨K, mg, nm⟩ Pg w base 4 262 [] (fxP p_Slip__DOT____init__) := GMk.of (T := ⟨K, mg, nm⟩) X G rfl (c.fact 48) (c.fact 49) G_Slip__DOT____init__ Bn_Slip__DOT____init___3 V_Slip__DOT____init___3 (fun _ => RepL.nil)
  have G_Slip__DOT__fits : FnG ⟨K, mg, nm⟩ Pg w base 1 _ fd_Slip__DOT__fits ["self", "file"] (fxP p_Slip__DOT__fits) := okP false F_Slip__DOT__fits sc_Slip__DOT__fits (b_Slip__DOT__fits fs )
  have B_Slip__DOT__fits : ∃ ds, Vals [] ds ∧ Binds K fd_Slip__DOT__fits ["self", "file"] ds := ⟨[], .nil, FunD.bindsN F_Slip__DOT__fits (fun _ _ _ _ _ _ us hl => match us, hl with | [_, _], _ => rfl)⟩
  obtain ⟨ds_Slip__DOT__fits, V_Slip__DOT__fits, Bn_Slip__DOT__fits⟩ := B_Slip__DOT__fits
  have E_Slip__DOT__fits : GMe ⟨K, mg, nm⟩ Pg w base 1 262 "fits" [] (fxP p_Slip__DOT__fits) := GMe.of (T := ⟨K, mg, nm⟩) X G rfl (c.fact 48) (c.fact 51) G_Slip__DOT__fits Bn_Slip__DOT__fits V_Slip__DOT__fits (fun _ => RepL.nil)
  have M_fits : ∀ c mm dd q, tab_fits c = some (mm, dd, q) → GMe ⟨K, mg, nm⟩ Pg w base 1 c "fits" dd (fxP q) := tab1_ok (E_Slip__DOT__fits.mono)
  have G_Slip__DOT____call__ : FnG ⟨K, mg, nm⟩ Pg w base 3 _ fd_Slip__DOT____call__ ["self", "file"] (fxP p_Slip__DOT____call__) := okP true F_Slip__DOT____call__ sc_Slip__DOT____call__ (b_Slip__DOT____call__ fs M_fits X_BadSlip)
  have B_Slip__DOT____call__ : ∃ ds, Vals [] ds ∧ Binds K fd_Slip__DOT____call__ ["self", "file"] ds := ⟨[], .nil, FunD.bindsN F_Slip__DOT____call__ (fun _ _ _ _ _ _ us hl => match us, hl with | [_, _], _ => rfl)⟩
  obtain ⟨ds_Slip__DOT____call__, V_Slip__DOT____call__, Bn_Slip__DOT____call__⟩ := B_Slip__DOT____call__
  have E_Slip__DOT____call__ : GMe ⟨K, mg, nm⟩ Pg w base 3 262 "__call__" [] (fxP p_Slip__DOT____call__) := GMe.of (T := ⟨K, mg, nm⟩) X G rfl (c.fact 48) (c.fact 52) G_Slip__DOT____call__ Bn_Slip__DOT____call__ V_Slip__DOT____call__ (fun _ => RepL.nil)
  have M___call__ : ∀ c mm dd q, tab___call__ c = some (mm, dd, q) → GMe ⟨K, mg, nm⟩ Pg w base 3 c "__call__" dd (fxP q) := tab1_ok (E_Slip__DOT____call__.mono)
  have G__law_done : FnG ⟨K, mg, nm⟩ Pg w base 4 _ fd__law_done ["slip", "file"] (fxP p__law_done) := okP false F__law_done sc__law_done (b__law_done fs M___call__)
  have B__law_done_2 : ∃ ds, Vals [] ds ∧ Binds K fd__law_done ["slip", "file"] ds := ⟨[], .nil, FunD.bindsN F__law_done (fun _ _ _ _ _ _ us hl => match us, hl with | [_, _], _ => rfl)⟩
  obtain ⟨ds__law_done_2, V__law_done_2, Bn__law_done_2⟩ := B__law_done_2
  have H__law_done_2 : GFn ⟨K, mg, nm⟩ Pg w base 4 "_law_done" 2 [] (fxP p__law_done) := ⟨_, fd__law_done, ["slip", "file"], _, ds__law_done_2, He.glo_ok X G (c.fact 36), F__law_done.kp, G__law_done, Bn__law_done_2, V__law_done_2, (fun _ => RepL.nil), rfl⟩
  have G__law_due : FnG ⟨K, mg, nm⟩ Pg w base 1 _ fd__law_due ["parts", "file"] (fxP p__law_due) := okP false F__law_due sc__law_due (b__law_due fs )
  have B__law_due_2 : ∃ ds, Vals [] ds ∧ Binds K fd__law_due ["parts", "file"] ds := ⟨[], .nil, FunD.bindsN F__law_due (fun _ _ _ _ _ _ us hl => match us, hl with | [_, _], _ => rfl)⟩
  obtain ⟨ds__law_due_2, V__law_due_2, Bn__law_due_2⟩ := B__law_due_2
  have H__law_due_2 : GFn ⟨K, mg, nm⟩ Pg w base 1 "_law_due" 2 [] (fxP p__law_due) := ⟨_, fd__law_due, ["parts", "file"], _, ds__law_due_2, He.glo_ok X G (c.fact 37), F__law_due.kp, G__law_due, Bn__law_due_2, V__law_due_2, (fun _ => RepL.nil), rfl⟩
  have G__law_fits : FnG ⟨K, mg, nm⟩ Pg w base 1 _ fd__law_fits ["parts", "file"] (fxP p__law_fits) := okP false F__law_fits sc__law_fits (b__law_fits fs )
  have B__law_fits_2 : ∃ ds, Vals [] ds ∧ Binds K fd__law_fits ["parts", "file"] ds := ⟨[], .nil, FunD.bindsN F__law_fits (fun _ _ _ _ _ _ us hl => match us, hl with | [_, _], _ => rfl)⟩
  obtain ⟨ds__law_fits_2, V__law_fits_2, Bn__law_fits_2⟩ := B__law_fits_2
  have H__law_fits_2 : GFn ⟨K, mg, nm⟩ Pg w base 1 "_law_fits" 2 [] (fxP p__law_fits) := ⟨_, fd__law_fits, ["parts", "file"], _, ds__law_fits_2, He.glo_ok X G (c.fact 38), F__law_fits.kp, G__law_fits, Bn__law_fits_2, V__law_fits_2, (fun _ => RepL.nil), rfl⟩
  have G__law_word : FnG ⟨K, mg, nm⟩ Pg w base 2 _ fd__law_word ["pool", "taken"] (fxP p__law_word) := okP false F__law_word sc__law_word (b__law_word fs H__law_pick_2)
  have B__law_word_2 : ∃ ds, Vals [] ds ∧ Binds K fd__law_word ["pool", "taken"] ds := ⟨[], .nil, FunD.bindsN F__law_word (fun _ _ _ _ _ _ us hl => match us, hl with | [_, _], _ => rfl)⟩
  obtain ⟨ds__law_word_2, V__law_word_2, Bn__law_word_2⟩ := B__law_word_2
  have H__law_word_2 : GFn ⟨K, mg, nm⟩ Pg w base 2 "_law_word" 2 [] (fxP p__law_word) := ⟨_, fd__law_word, ["pool", "taken"], _, ds__law_word_2, He.glo_ok X G (c.fact 39), F__law_word.kp, G__law_word, Bn__law_word_2, V__law_word_2, (fun _ => RepL.nil), rfl⟩
  have G__law_words : FnG ⟨K, mg, nm⟩ Pg w base 3 _ fd__law_words ["pool", "many", "taken"] (fxP p__law_words) := okP false F__law_words sc__law_words (b__law_words fs H__law_word_2)
  have B__law_words_3 : ∃ ds, Vals [] ds ∧ Binds K fd__law_words ["pool", "many", "taken"] ds := ⟨[], .nil, FunD.bindsN F__law_words (fun _ _ _ _ _ _ us hl => match us, hl with | [_, _, _], _ => rfl)⟩
  obtain ⟨ds__law_words_3, V__law_words_3, Bn__law_words_3⟩ := B__law_words_3
  have H__law_words_3 : GFn ⟨K, mg, nm⟩ Pg w base 3 "_law_words" 3 [] (fxP p__law_words) := ⟨_, fd__law_words, ["pool", "many", "taken"], _, ds__law_words_3, He.glo_ok X G (c.fact 40), F__law_words.kp, G__law_words, Bn__law_words_3, V__law_words_3, (fun _ => RepL.nil), rfl⟩
  have G__law_tokens : FnG ⟨K, mg, nm⟩ Pg w base 4 _ fd__law_tokens ["pool", "many"] (fxP p__law_tokens) := okP false F__law_tokens sc__law_tokens (b__law_tokens fs H__law_pick_2 H__law_of_2 H__law_words_3)
  have B__law_tokens_2 : ∃ ds, Vals [] ds ∧ Binds K fd__law_tokens ["pool", "many"] ds := ⟨[], .nil, FunD.bindsN F__law_tokens (fun _ _ _ _ _ _ us hl => match us, hl with | [_, _], _ => rfl)⟩
  obtain ⟨ds__law_tokens_2, V__law_tokens_2, Bn__law_tokens_2⟩ := B__law_tokens_2
  have H__law_tokens_2 : GFn ⟨K, mg, nm⟩ Pg w base 4 "_law_tokens" 2 [] (fxP p__law_tokens) := ⟨_, fd__law_tokens, ["pool", "many"], _, ds__law_tokens_2, He.glo_ok X G (c.fact 41), F__law_tokens.kp, G__law_tokens, Bn__law_tokens_2, V__law_tokens_2, (fun _ => RepL.nil), rfl⟩
  have G__law_made : FnG ⟨K, mg, nm⟩ Pg w base 6 _ fd__law_made ["parts"] (fxP p__law_made) := okP false F__law_made sc__law_made (b__law_made fs N_Slip_3)
  have B__law_made_1 : ∃ ds, Vals [] ds ∧ Binds K fd__law_made ["parts"] ds := ⟨[], .nil, FunD.bindsN F__law_made (fun _ _ _ _ _ _ us hl => match us, hl with | [_], _ => rfl)⟩
  obtain ⟨ds__law_made_1, V__law_made_1, Bn__law_made_1⟩ := B__law_made_1
  have H__law_made_1 : GFn ⟨K, mg, nm⟩ Pg w base 6 "_law_made" 1 [] (fxP p__law_made) := ⟨_, fd__law_made, ["parts"], _, ds__law_made_1, He.glo_ok X G (c.fact 42), F__law_made.kp, G__law_made, Bn__law_made_1, V__law_made_1, (fun _ => RepL.nil), rfl⟩
  have G__law_parts : FnG ⟨K, mg, nm⟩ Pg w base 3 _ fd__law_parts ["pool"] (fxP p__law_parts) := okP false F__law_parts sc__law_parts (b__law_parts fs H__law_of_2 H__law_pick_2)
  have B__law_parts_1 : ∃ ds, Vals [] ds ∧ Binds K fd__law_parts ["pool"] ds := ⟨[], .nil, FunD.bindsN F__law_parts (fun _ _ _ _ _ _ us hl => match us, hl with | [_], _ => rfl)⟩
  obtain ⟨ds__law_parts_1, V__law_parts_1, Bn__law_parts_1⟩ := B__law_parts_1
  have H__law_parts_1 : GFn ⟨K, mg, nm⟩ Pg w base 3 "_law_parts" 1 [] (fxP p__law_parts) := ⟨_, fd__law_parts, ["pool"], _, ds__law_parts_1, He.glo_ok X G (c.fact 43), F__law_parts.kp, G__law_parts, Bn__law_parts_1, V__law_parts_1, (fun _ => RepL.nil), rfl⟩
  have M___eq__ : ∀ c mm dd q, tab___eq__ c = some (mm, dd, q) → GMe ⟨K, mg, nm⟩ Pg w base 1 c "__eq__" dd (fxP q) := tab1_ok (E_Slip__DOT____eq__.mono)
  have O_eq : OkE ⟨K, mg, nm⟩ Pg w base 1 tab___eq__ sub_eq := ⟨M___eq__, sub_of X G (c.fact 47)⟩
  have G_law : FnG ⟨K, mg, nm⟩ Pg w base 7 _ fd_law ["script"] (fxP p_law) := okP false F_law sc_law (b_law fs H_trimmed_2 H__law_cut_2 H__law_lists_1 H__law_pool_2 H__law_done_2 H__law_due_2 H__law_fits_2 H__law_tokens_2 H__law_made_1 H__law_parts_1 N_Slip_3 O_eq M_fits)
  exact G_law
abbrev R : PySem.W.OpenRow := PySem.W.OpenLaw.row PySem.Challenge.rw_slipreach_k08_slips_done_and_lists_trimm
abbrev hk : PySem.W.Hook := hookF 4 fa fn
def ob (s : PySem.W.SharedT) : He.AlD := obsFG 4 fa fn (HandSHeadRun.getT s)
theorem ob_eq (s : PySem.W.SharedT) : ob s = hk.obs s.abs := obsFG_eq (HandSHeadRun.getT_eq s)
def loose : List PySem.Str := ["__name__", "SettingsError", "BadSlip", "SIGNS", "LETTERS", "DIGITS", "LONGEST", "made_of", "is_word", "is_numeral", "sort_of", "SLIP_KINDS", "Slip", "trimmed", "_law_pool", "_law_pick", "_law_of", "_law_word", "_law_words", "_law_tokens", "_law_parts", "_law_fits", "_law_due", "_law_made", "_law_done", "_law_cut", "_law_lists"]
theorem run (w : World) : HandSHeadRun.RunEq R (PySem.W.view R.prog [30]) hk ob 4000 loose w := by
  intro os
  kernel_rfl
-- facts: f_abs 0, f_bool 1, f_int 2, f_isinstance 3, f_len 4, f_list 5, f_min 6, f_range 7, f_repr 8, f_str 9, f_sum 10, f_tuple 11, c_DIGITS 12, c_LETTERS 13, c_LONGEST 14, g_SIGNS 15, c_SIGNS 16, g_SLIP_KINDS 17, c_SLIP_KINDS 18, xg_SettingsError 19, xg_BadSlip 20, exm_SettingsError_BadSlip 21, exm_BadSlip_BadSlip 22, xfc_BadSlip 23, noat_BadSlip_at 24, oex_BadSlip 25, d_trimmed 26, d__law_cut 27, d__law_pick 28, d__law_of 29, d__law_lists 30, d__law_pool 31, d_made_of 32, d_is_numeral 33, d_is_word 34, d_sort_of 35, d__law_done 36, d__law_due 37, d__law_fits 38, d__law_word 39, d__law_words 40, d__law_tokens 41, d__law_made 42, d__law_parts 43, d_law 44, okf 45, a_Slip 46, sub 47, ins_Slip 48, mkr_Slip 49, me_Slip__DOT____eq__ 50, me_Slip__DOT__fits 51, me_Slip__DOT____call__ 52
-- defs: trimmed 0, _law_cut 1, _law_pick 2, _law_of 3, _law_lists 4, _law_pool 5, Slip__DOT____eq__ 6, made_of 7, is_numeral 8, is_word 9, sort_of 10, Slip__DOT____init__ 11, Slip__DOT__fits 12, Slip__DOT____call__ 13, _law_done 14, _law_due 15, _law_fits 16, _law_word 17, _law_words 18, _law_tokens 19, _law_made 20, _law_parts 21, law 22, init_BadSlip 23
end LW
end
open PySem PySem.W PySem.Calls PyProof.Rows
set_option maxRecDepth 100000 in
set_option maxHeartbeats 8000000 in
theorem PySem.Challenge.cw_slipreach_k08_slips_done_and_lists_trimm_holds : PySem.Challenge.rw_slipreach_k08_slips_done_and_lists_trimm.Holds := by
  w_on; o_law
  refine HandSHeadRun.head_any (r := OpenLaw.row PySem.Challenge.rw_slipreach_k08_slips_done_and_lists_trimm) (q := view (OpenLaw.row PySem.Challenge.rw_slipreach_k08_slips_done_and_lists_trimm).prog [30]) (H := LW.hk) (ob := LW.ob) (M := 4000) (loose := LW.loose) (d := HandSHeadRun.topDef (OpenLaw.row PySem.Challenge.rw_slipreach_k08_slips_done_and_lists_trimm).prog 30) (kwd := []) LW.ob_eq
    (by kernel_rfl) (fun s => by kernel_rfl) LW.run (by kernel_rfl) (by kernel_rfl) (by kernel_rfl) (by rfl) (by first | assumption | decide +kernel) (by decide +kernel) ⟨rfl, rfl, rfl, rfl, rfl, by decide +kernel⟩ ?hw ?hc
  case hw => w_witness2
  case hc =>
    refine DL.walkG (l := PySem.Challenge.rw_slipreach_k08_slips_done_and_lists_trimm) (n := 63) (k := 7) (x := "script") rfl (by decide) (by kernel_rfl) ⟨rfl, by decide, by decide⟩ ?F
    intro w mg fa h Y G hmg0
    obtain ⟨K, KX, nl, c⟩ := Y
    have hmg : mg ("law" : PySem.Str) = some (.ref fa) := by
      have e : (HandSHeadRun.topDef (OpenLaw.row PySem.Challenge.rw_slipreach_k08_slips_done_and_lists_trimm).prog 30).name = ("law" : PySem.Str) := by kernel_rfl
      rw [← e]
      exact hmg0
    obtain ⟨fd, hb, hF⟩ := LW.facts (Pg := (PySem.Challenge.rw_slipreach_k08_slips_done_and_lists_trimm).prog) (w := w) KX G hmg c
    exact ⟨K, fd, LW.nm, KX, nl, hb, fun base h1 h2 => DL.lawP (hF base h1 h2) LW.law_true⟩
