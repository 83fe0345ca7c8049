import PyProof.Rows.All
import PySem.Challenge.RW_aheadseen_k85_other_texts
import Wide.All
import OpenK.AllK
import Wide.FinOn
import KE.KStateDown
import HandS.ForMost
import HandS.ForExc
import HandS.Defaults
import HandS.CallSlots
import HandS.TryMany
import HandS.TupAny
import HandS.DictComp
import HandS.SortKw
import HandS.Conv
import HandS.Style
import HandS.IsInst
import HandS.HeadHook2
import HandS.TupMul
import HandS.ListItems
import KE.SortData
import KE.SortKeyHeap
import HandS.FStr
import HandS.CallLocal
import KE.GoesMore
import HandS.ExcInit
import HandS.ExcIs
import HandS.ExcField
import KE.KExcIs
import HandS.HeadEnd
import PyProof.StrLawsChain
import PyProof.Rows.StrSplitJoin
import KE.IntTextLaws
import KE.KIntText
import PyProof.ReprLen
import HandS.RaiseMore
import Lean
import HandS.Ends
import HandS.More
import HandS.Words
import HandS.WordsExc
import HandS.Head0
import HandS.Head1
import HandS.Head2
import HandS.HeadHook1
set_option Elab.async false
set_option linter.all false
set_option maxRecDepth 100000
set_option maxHeartbeats 1000000
/-! Data as trees, a store of the changing objects: what an expression, a statement computes is a plain function. -/
namespace Ah
open PySem PySem.Spec PyProof.Rows L2

/-- a value as data: tuples whole (rls: a list that never changes, as the script; tml: a list just made that nobody else holds), changing objects by their number in the store, classes and defs by their names -/
inductive D where
  | non | bl (b : Bool) | int (i : Int) | str (x : Str) | tup (xs : List D) | rls (xs : List D) | tml (xs : List D) | ref (i : Nat) | glb (x : Str) | ty (n : String) | adr (a : Addr)
  deriving Inhabited

/-- a changing object: a list, a dict (locked or not), an instance -/

inductive Ob where
  | lst (xs : List D) | dct (lk : Bool) (kvs : List (Key × D)) | ins (C : Str) (fs : List (Str × D)) | xd (d : Addr) (fs : List (Str × D)) | gone
  deriving Inhabited
abbrev Sto := List Ob
abbrev En := List (Option D)

inductive R (α : Type) where
  | ok (a : α) (S : Sto) | ex (C : Str) (fs : List (Str × D)) (S : Sto) | bad
def R.bind {α β : Type} (r : R α) (k : α → Sto → R β) : R β := match r with
  | .ok a S => k a S
  | .ex C fs S => .ex C fs S
  | .bad => .bad
@[simp] theorem R.bind_ok {α β : Type} (a : α) (S : Sto) (k : α → Sto → R β) : (R.ok a S).bind k = k a S := rfl
@[simp] theorem R.bind_ex {α β : Type} (C : Str) (fs : List (Str × D)) (S : Sto) (k : α → Sto → R β) : (R.ex C fs S : R α).bind k = .ex C fs S := rfl
@[simp] theorem R.bind_bad {α β : Type} (k : α → Sto → R β) : (R.bad : R α).bind k = .bad := rfl

/-- what a statement comes to -/
inductive RS where
  | nx (e : En) (S : Sto) | rt (d : D) (S : Sto) | bk (e : En) (S : Sto) | ct (e : En) (S : Sto) | ex (C : Str) (fs : List (Str × D)) (e : En) (S : Sto) | bad

/-- a list that never changes: locked, or the module's -/
def SqR (K : PySem.W.Frag) (H : Hp) (a : Addr) (xs : List V) : Prop :=
  (∃ o, H a = some (.frz o (.lst xs))) ∨
    ∃ (o : Obj) (its : Array Value) (n : Nat), K.lookup a = some o ∧ o.cls = .type "list" ∧ o.dict = none ∧ o.data = .seq its n ∧ its.size ≤ sizeLine ∧ Vals xs its.toList
theorem SqR.sqL {K : PySem.W.Frag} {H : Hp} {a : Addr} {xs : List V} (h : SqR K H a xs) : SqL K H a xs := by
  rcases h with ⟨o, h⟩ | h
  · exact .inl (.inr ⟨o, h⟩)
  · exact .inr h
mutual
def VR (K : PySem.W.Frag) (m : List Addr) (H : Hp) : D → V → Prop
  | .non, v => v = .non
  | .bl b, v => v = .bl b
  | .int i, v => v = .int i
  | .str x, v => v = .str x
  | .tup ds, v => ∃ a xs, v = .ref a ∧ SqT K H a xs ∧ VRs K m H ds xs
  | .rls ds, v => ∃ a xs, v = .ref a ∧ SqR K H a xs ∧ VRs K m H ds xs
  | .tml _, _ => False
  | .ref i, v => ∃ a, m[i]? = some a ∧ v = .ref a
  | .glb x, v => v = .ref (He.ga K x)
  | .ty n, v => v = .ty n
  | .adr a, v => v = .ref a
def VRs (K : PySem.W.Frag) (m : List Addr) (H : Hp) : List D → List V → Prop
  | [], vs => vs = []
  | d :: ds, vs => ∃ v r, vs = v :: r ∧ VR K m H d v ∧ VRs K m H ds r
end

/-- tuples and what is locked stay -/
structure TK (H H' : Hp) : Prop where
  tup : ∀ a xs, Rd H a (.tup xs) → Rd H' a (.tup xs)
  frz : ∀ a o u, H a = some (.frz o u) → H' a = some (.frz o u)
theorem TK.refl {H : Hp} : TK H H := ⟨fun _ _ h => h, fun _ _ _ h => h⟩
theorem TK.trans {H H1 H2 : Hp} (a : TK H H1) (b : TK H1 H2) : TK H H2 := ⟨fun x y h => b.tup x y (a.tup x y h), fun x y z h => b.frz x y z (a.frz x y z h)⟩
theorem TK.sqT {K : PySem.W.Frag} {H H' : Hp} (e : TK H H') {a : Addr} {xs : List V} (h : SqT K H a xs) : SqT K H' a xs := by
  rcases h with h | h
  · exact .inl (e.tup a xs h)
  · exact .inr h
theorem TK.sqR {K : PySem.W.Frag} {H H' : Hp} (e : TK H H') {a : Addr} {xs : List V} (h : SqR K H a xs) : SqR K H' a xs := by
  rcases h with ⟨o, h⟩ | h
  · exact .inl ⟨o, e.frz _ _ _ h⟩
  · exact .inr h
theorem TK.new {H : Hp} {p : Addr} {o : HO} (h : H p = none) : TK H (upd H p o) := ⟨fun a xs r => by
  rcases r with r | ⟨ob, r⟩
  · exact .inl (by rw [upd_ne (ne_of_none r h)]; exact r)
  · exact .inr ⟨ob, by rw [upd_ne (ne_of_none r h)]; exact r⟩, fun a ob u r => by rw [upd_ne (ne_of_none r h)]; exact r⟩
/-- neither a tuple nor locked -/
def Chg : HO → Prop
  | .tup _ => False
  | .frz _ _ => False
  | _ => True
theorem chg_ne {H : Hp} {p a : Addr} {u q : HO} (h : H p = some u) (c : Chg u) (e : H a = some q) (n : ¬ Chg q) : a ≠ p := fun z => by
  subst z
  rw [h] at e
  cases e
  exact n c
theorem TK.mut {H : Hp} {p : Addr} {o u : HO} (h : H p = some u) (c : Chg u) : TK H (upd H p o) := ⟨fun a xs r => by
  rcases r with r | ⟨ob, r⟩
  · exact .inl (by rw [upd_ne (chg_ne h c r id)]; exact r)
  · exact .inr ⟨ob, by rw [upd_ne (chg_ne h c r id)]; exact r⟩, fun a ob w r => by rw [upd_ne (chg_ne h c r id)]; exact r⟩

/-- the numbers' addresses grow -/
abbrev Gr (m m' : List Addr) : Prop := ∀ (i : Nat) (a : Addr), m[i]? = some a → m'[i]? = some a
theorem Gr.app (m e : List Addr) : Gr m (m ++ e) := fun i a h => by
  have hi := (List.getElem?_eq_some_iff.mp h).1
  rw [List.getElem?_append_left hi]
  exact h

mutual
theorem VR.mono {K : PySem.W.Frag} {m m' : List Addr} {H H' : Hp} (g : Gr m m') (e : TK H H') : ∀ {d : D} {v : V}, VR K m H d v → VR K m' H' d v
  | .non, _, h => by unfold VR at h ⊢; exact h
  | .bl _, _, h => by unfold VR at h ⊢; exact h
  | .int _, _, h => by unfold VR at h ⊢; exact h
  | .str _, _, h => by unfold VR at h ⊢; exact h
  | .tup ds, _, h => by
    unfold VR at h ⊢
    obtain ⟨a, xs, e1, q, r⟩ := h
    exact ⟨a, xs, e1, e.sqT q, VRs.mono g e r⟩
  | .rls ds, _, h => by
    unfold VR at h ⊢
    obtain ⟨a, xs, e1, q, r⟩ := h
    exact ⟨a, xs, e1, e.sqR q, VRs.mono g e r⟩
  | .tml _, _, h => by unfold VR at h; exact h.elim
  | .ref _, _, h => by
    unfold VR at h ⊢
    obtain ⟨a, q, r⟩ := h
    exact ⟨a, g _ _ q, r⟩
  | .glb _, _, h => by unfold VR at h ⊢; exact h
  | .ty _, _, h => by unfold VR at h ⊢; exact h
  | .adr _, _, h => by unfold VR at h ⊢; exact h
theorem VRs.mono {K : PySem.W.Frag} {m m' : List Addr} {H H' : Hp} (g : Gr m m') (e : TK H H') : ∀ {ds : List D} {vs : List V}, VRs K m H ds vs → VRs K m' H' ds vs
  | [], _, h => by unfold VRs at h ⊢; exact h
  | d :: ds, _, h => by
    unfold VRs at h ⊢
    obtain ⟨v, r, e1, a, b⟩ := h
    exact ⟨v, r, e1, VR.mono g e a, VRs.mono g e b⟩
end

section
variable {K : PySem.W.Frag} {m m' : List Addr} {H H' : Hp}
theorem VRs.nil_iff {vs : List V} : VRs K m H [] vs ↔ vs = [] := by unfold VRs; rfl
theorem VRs.cons_iff {d : D} {ds : List D} {vs : List V} : VRs K m H (d :: ds) vs ↔ ∃ v r, vs = v :: r ∧ VR K m H d v ∧ VRs K m H ds r := by
  constructor
  · intro h; unfold VRs at h; exact h
  · intro h; unfold VRs; exact h
theorem VRs.nil : VRs K m H [] [] := by unfold VRs; rfl
theorem VRs.cons {d : D} {v : V} {ds : List D} {vs : List V} (h : VR K m H d v) (t : VRs K m H ds vs) : VRs K m H (d :: ds) (v :: vs) := by
  unfold VRs; exact ⟨v, vs, rfl, h, t⟩
theorem VRs.length : ∀ {ds : List D} {vs : List V}, VRs K m H ds vs → vs.length = ds.length
  | [], _, h => by rw [VRs.nil_iff.mp h]; rfl
  | d :: ds, _, h => by
    obtain ⟨v, r, rfl, _, t⟩ := VRs.cons_iff.mp h
    simp [VRs.length t]
theorem VRs.get : ∀ {ds : List D} {vs : List V} {i : Nat} {d : D}, VRs K m H ds vs → ds[i]? = some d → ∃ v, vs[i]? = some v ∧ VR K m H d v
  | [], _, _, _, _, e => by simp at e
  | d :: ds, _, i, x, h, e => by
    obtain ⟨v, r, rfl, a, t⟩ := VRs.cons_iff.mp h
    cases i with
    | zero => simp at e; subst e; exact ⟨v, rfl, a⟩
    | succ i => exact VRs.get (i := i) t (by simpa using e)
theorem VRs.getV : ∀ {ds : List D} {vs : List V} {i : Nat} {v : V}, VRs K m H ds vs → vs[i]? = some v → ∃ d, ds[i]? = some d ∧ VR K m H d v
  | [], _, _, _, h, e => by rw [VRs.nil_iff.mp h] at e; simp at e
  | d :: ds, _, i, x, h, e => by
    obtain ⟨v, r, rfl, a, t⟩ := VRs.cons_iff.mp h
    cases i with
    | zero => simp at e; subst e; exact ⟨d, rfl, a⟩
    | succ i => exact VRs.getV (i := i) t (by simpa using e)
theorem VRs.append : ∀ {ds es : List D} {vs us : List V}, VRs K m H ds vs → VRs K m H es us → VRs K m H (ds ++ es) (vs ++ us)
  | [], _, _, _, h, t => by rw [VRs.nil_iff.mp h]; exact t
  | d :: ds, _, _, _, h, t => by
    obtain ⟨v, r, rfl, a, q⟩ := VRs.cons_iff.mp h
    exact VRs.cons a (VRs.append q t)
theorem VRs.drop : ∀ {ds : List D} {vs : List V} (n : Nat), VRs K m H ds vs → VRs K m H (ds.drop n) (vs.drop n)
  | _, _, 0, h => h
  | [], _, _ + 1, h => by rw [VRs.nil_iff.mp h]; exact VRs.nil
  | d :: ds, _, n + 1, h => by
    obtain ⟨v, r, rfl, a, q⟩ := VRs.cons_iff.mp h
    exact VRs.drop n q
theorem VRs.take : ∀ {ds : List D} {vs : List V} (n : Nat), VRs K m H ds vs → VRs K m H (ds.take n) (vs.take n)
  | _, _, 0, _ => VRs.nil
  | [], _, _ + 1, h => by rw [VRs.nil_iff.mp h]; exact VRs.nil
  | d :: ds, _, n + 1, h => by
    obtain ⟨v, r, rfl, a, q⟩ := VRs.cons_iff.mp h
    exact VRs.cons a (VRs.take n q)
theorem VRs.set {d : D} {v : V} (r : VR K m H d v) : ∀ {ds : List D} {vs : List V} (i : Nat), VRs K m H ds vs → VRs K m H (ds.set i d) (vs.set i v)
  | [], _, _, h => by rw [VRs.nil_iff.mp h]; exact VRs.nil
  | x :: ds, _, 0, h => by
    obtain ⟨u, q, rfl, a, t⟩ := VRs.cons_iff.mp h
    exact VRs.cons r t
  | x :: ds, _, i + 1, h => by
    obtain ⟨u, q, rfl, a, t⟩ := VRs.cons_iff.mp h
    exact VRs.cons a (VRs.set r i t)
theorem VRs.one {d : D} {v : V} (r : VR K m H d v) : VRs K m H [d] [v] := VRs.cons r VRs.nil
theorem VRs.reverse : ∀ {ds : List D} {vs : List V}, VRs K m H ds vs → VRs K m H ds.reverse vs.reverse
  | [], _, h => by rw [VRs.nil_iff.mp h]; exact VRs.nil
  | d :: ds, _, h => by
    obtain ⟨v, r, rfl, a, t⟩ := VRs.cons_iff.mp h
    rw [List.reverse_cons, List.reverse_cons]
    exact VRs.append (VRs.reverse t) (VRs.one a)
theorem VRs.erase : ∀ {ds : List D} {vs : List V} (i : Nat), VRs K m H ds vs → VRs K m H (ds.eraseIdx i) (vs.eraseIdx i)
  | [], _, _, h => by rw [VRs.nil_iff.mp h]; exact VRs.nil
  | x :: ds, _, 0, h => by
    obtain ⟨u, q, rfl, a, t⟩ := VRs.cons_iff.mp h
    exact t
  | x :: ds, _, i + 1, h => by
    obtain ⟨u, q, rfl, a, t⟩ := VRs.cons_iff.mp h
    exact VRs.cons a (VRs.erase i t)
theorem VRs.dropLast : ∀ {ds : List D} {vs : List V}, VRs K m H ds vs → VRs K m H ds.dropLast vs.dropLast := fun {ds vs} h => by
  have e := h.length
  rw [List.dropLast_eq_take, List.dropLast_eq_take, e]
  exact h.take _
end

/-! ### attributes, dict entries -/
def FR (K : PySem.W.Frag) (m : List Addr) (H : Hp) : List (Str × D) → List (Str × V) → Prop
  | [], gs => gs = []
  | (f, d) :: fs, gs => ∃ v r, gs = (f, v) :: r ∧ VR K m H d v ∧ FR K m H fs r
def KR (K : PySem.W.Frag) (m : List Addr) (H : Hp) : List (Key × D) → List (Key × V) → Prop
  | [], gs => gs = []
  | (f, d) :: fs, gs => ∃ v r, gs = (f, v) :: r ∧ VR K m H d v ∧ KR K m H fs r
section
variable {K : PySem.W.Frag} {m m' : List Addr} {H H' : Hp}
theorem FR.mono (g : Gr m m') (e : TK H H') : ∀ {fs : List (Str × D)} {gs : List (Str × V)}, FR K m H fs gs → FR K m' H' fs gs
  | [], _, h => h
  | (f, d) :: fs, _, h => by
    obtain ⟨v, r, rfl, a, b⟩ := h
    exact ⟨v, r, rfl, a.mono g e, FR.mono g e b⟩
theorem KR.mono (g : Gr m m') (e : TK H H') : ∀ {fs : List (Key × D)} {gs : List (Key × V)}, KR K m H fs gs → KR K m' H' fs gs
  | [], _, h => h
  | (f, d) :: fs, _, h => by
    obtain ⟨v, r, rfl, a, b⟩ := h
    exact ⟨v, r, rfl, a.mono g e, KR.mono g e b⟩
theorem FR.length : ∀ {fs : List (Str × D)} {gs : List (Str × V)}, FR K m H fs gs → gs.length = fs.length
  | [], _, h => by rw [show _ = [] from h]; rfl
  | (f, d) :: fs, _, h => by
    obtain ⟨v, r, rfl, a, b⟩ := h
    simp [FR.length b]
theorem KR.length : ∀ {fs : List (Key × D)} {gs : List (Key × V)}, KR K m H fs gs → gs.length = fs.length
  | [], _, h => by rw [show _ = [] from h]; rfl
  | (f, d) :: fs, _, h => by
    obtain ⟨v, r, rfl, a, b⟩ := h
    simp [KR.length b]
theorem FR.look {f : Str} : ∀ {fs : List (Str × D)} {gs : List (Str × V)}, FR K m H fs gs → (∀ d, fs.lookup f = some d → ∃ v, gs.lookup f = some v ∧ VR K m H d v) ∧ (fs.lookup f = none → gs.lookup f = none)
  | [], _, h => by rw [show _ = [] from h]; exact ⟨fun d e => by simp at e, fun _ => rfl⟩
  | (k, x) :: fs, _, h => by
    obtain ⟨v, r, rfl, a, b⟩ := h
    have ih := FR.look (f := f) b
    cases q : (f == k) with
    | true => exact ⟨fun d e => ⟨v, by simp [List.lookup, q], by simp [List.lookup, q] at e; rw [← e]; exact a⟩, fun e => by simp [List.lookup, q] at e⟩
    | false => exact ⟨fun d e => by
        obtain ⟨u, e1, e2⟩ := ih.1 d (by simpa [List.lookup, q] using e)
        exact ⟨u, by simpa [List.lookup, q] using e1, e2⟩, fun e => by
        have := ih.2 (by simpa [List.lookup, q] using e)
        simpa [List.lookup, q] using this⟩
/-- the same on data as putF on values -/
def putD (f : Str) (d : D) : List (Str × D) → List (Str × D)
  | [] => [(f, d)]
  | (g, x) :: r => if g = f then (g, d) :: r else (g, x) :: putD f d r
theorem FR.put {f : Str} {d : D} {v : V} (r : VR K m H d v) : ∀ {fs : List (Str × D)} {gs : List (Str × V)}, FR K m H fs gs → FR K m H (putD f d fs) (putF f v gs)
  | [], _, h => by rw [show _ = [] from h]; exact ⟨v, [], rfl, r, rfl⟩
  | (k, x) :: fs, _, h => by
    obtain ⟨u, q, rfl, a, b⟩ := h
    unfold putD putF
    by_cases e : k = f
    · rw [if_pos e, if_pos e]; exact ⟨v, q, rfl, r, b⟩
    · rw [if_neg e, if_neg e]; exact ⟨u, _, rfl, a, FR.put r b⟩
def valD (kvs : List (Key × D)) (k : Key) : Option D := (kvs.find? fun kv => decide (kv.1 = k)).map (·.2)
def putKD (kvs : List (Key × D)) (k : Key) (d : D) : List (Key × D) :=
  if (kvs.any fun kv => decide (kv.1 = k)) = true then kvs.map fun kv => if kv.1 = k then (kv.1, d) else kv else kvs ++ [(k, d)]
def dropKD (kvs : List (Key × D)) (k : Key) : List (Key × D) := kvs.filter fun kv => decide (kv.1 ≠ k)
theorem KR.val {k : Key} : ∀ {fs : List (Key × D)} {gs : List (Key × V)}, KR K m H fs gs → (∀ d, valD fs k = some d → ∃ v, valV gs k = some v ∧ VR K m H d v) ∧ (valD fs k = none → valV gs k = none)
  | [], _, h => by rw [show _ = [] from h]; exact ⟨fun d e => by simp [valD] at e, fun _ => rfl⟩
  | (j, x) :: fs, _, h => by
    obtain ⟨v, r, rfl, a, b⟩ := h
    have ih := KR.val (k := k) b
    by_cases q : j = k
    · subst q
      exact ⟨fun d e => ⟨v, by simp [valV, List.find?_cons], by simp [valD, List.find?_cons] at e; rw [← e]; exact a⟩, fun e => by simp [valD, List.find?_cons] at e⟩
    · refine ⟨fun d e => ?_, fun e => ?_⟩
      · obtain ⟨u, e1, e2⟩ := ih.1 d (by simpa [valD, List.find?_cons, q] using e)
        exact ⟨u, by simpa [valV, List.find?_cons, q] using e1, e2⟩
      · have := ih.2 (by simpa [valD, List.find?_cons, q] using e)
        simpa [valV, List.find?_cons, q] using this
theorem KR.any {k : Key} : ∀ {fs : List (Key × D)} {gs : List (Key × V)}, KR K m H fs gs → (gs.any fun kv => decide (kv.1 = k)) = (fs.any fun kv => decide (kv.1 = k))
  | [], _, h => by rw [show _ = [] from h]; rfl
  | (j, x) :: fs, _, h => by
    obtain ⟨v, r, rfl, a, b⟩ := h
    rw [List.any_cons, List.any_cons, KR.any b]
theorem KR.app : ∀ {fs es : List (Key × D)} {gs us : List (Key × V)}, KR K m H fs gs → KR K m H es us → KR K m H (fs ++ es) (gs ++ us)
  | [], _, _, _, h, t => by rw [show _ = [] from h]; exact t
  | (j, x) :: fs, _, _, _, h, t => by
    obtain ⟨v, r, rfl, a, b⟩ := h
    exact ⟨v, _, rfl, a, KR.app b t⟩
theorem KR.mapPut {k : Key} {d : D} {v : V} (r : VR K m H d v) : ∀ {fs : List (Key × D)} {gs : List (Key × V)}, KR K m H fs gs → KR K m H (fs.map fun kv => if kv.1 = k then (kv.1, d) else kv) (gs.map fun kv => if kv.1 = k then (kv.1, v) else kv)
  | [], _, h => by rw [show _ = [] from h]; rfl
  | (j, x) :: fs, _, h => by
    obtain ⟨u, q, rfl, a, b⟩ := h
    by_cases e : j = k
    · simp only [List.map_cons, if_pos e]; exact ⟨v, _, rfl, r, KR.mapPut r b⟩
    · simp only [List.map_cons, if_neg e]; exact ⟨u, _, rfl, a, KR.mapPut r b⟩
theorem KR.put {k : Key} {d : D} {v : V} (r : VR K m H d v) {fs : List (Key × D)} {gs : List (Key × V)} (h : KR K m H fs gs) : KR K m H (putKD fs k d) (putK gs k v) := by
  unfold putKD putK
  rw [h.any]
  split
  · exact h.mapPut r
  · exact h.app ⟨v, [], rfl, r, rfl⟩
theorem KR.drop {k : Key} : ∀ {fs : List (Key × D)} {gs : List (Key × V)}, KR K m H fs gs → KR K m H (dropKD fs k) (dropK gs k)
  | [], _, h => by rw [show _ = [] from h]; rfl
  | (j, x) :: fs, _, h => by
    obtain ⟨u, q, rfl, a, b⟩ := h
    have ih := KR.drop (k := k) b
    unfold dropKD dropK at ih ⊢
    by_cases e : j = k
    · simp only [List.filter_cons, e, ne_eq, not_true_eq_false, decide_false, Bool.false_eq_true, if_false]
      simpa only [ne_eq] using ih
    · simp only [List.filter_cons, e, ne_eq, not_false_eq_true, decide_true, if_true]
      exact ⟨u, _, rfl, a, by simpa only [ne_eq] using ih⟩
end

/-! ### the store against the heap -/
def OR (K : PySem.W.Frag) (m : List Addr) (H : Hp) (a : Addr) : Ob → Prop
  | .lst ds => ∃ xs, VRs K m H ds xs ∧ H a = some (.lst xs)
  | .dct lk ks => ∃ kvs, KR K m H ks kvs ∧ (if lk = true then ∃ od, H a = some (.frz od (.dK kvs)) else H a = some (.dK kvs))
  | .ins C fs => ∃ dx gs, FR K m H fs gs ∧ H a = some (.ins (He.ga K C) dx gs)
  | .xd d fs => a = d ∧ ∃ gs, FR K m H fs gs ∧ H a = some (.xd gs)
  | .gone => ∃ u, H a = some u
structure Sim (K : PySem.W.Frag) (m : List Addr) (S : Sto) (H : Hp) : Prop where
  len : m.length = S.length
  nd : m.Nodup
  ob : ∀ (i : Nat) (a : Addr) (o : Ob), m[i]? = some a → S[i]? = some o → OR K m H a o

theorem OR.some_ {K : PySem.W.Frag} {m : List Addr} {H : Hp} {a : Addr} {o : Ob} (h : OR K m H a o) : ∃ u, H a = some u := by
  cases o with
  | lst ds =>
    obtain ⟨xs, _, q⟩ := h
    exact ⟨_, q⟩
  | dct lk ds =>
    obtain ⟨xs, _, q⟩ := h
    split at q
    · obtain ⟨od, q⟩ := q; exact ⟨_, q⟩
    · exact ⟨_, q⟩
  | ins C fs => obtain ⟨dx, gs, _, q⟩ := h; exact ⟨_, q⟩
  | xd d fs => obtain ⟨_, gs, _, q⟩ := h; exact ⟨_, q⟩
  | gone => exact h
theorem OR.mono {K : PySem.W.Frag} {m m' : List Addr} {H H' : Hp} {a : Addr} {o : Ob} (g : Gr m m') (e : TK H H') (ha : H' a = H a) (h : OR K m H a o) : OR K m' H' a o := by
  cases o with
  | lst ds => obtain ⟨xs, r, q⟩ := h; exact ⟨xs, r.mono g e, by rw [ha]; exact q⟩
  | dct lk ds => obtain ⟨xs, r, q⟩ := h; exact ⟨xs, r.mono g e, by rw [ha]; exact q⟩
  | ins C fs => obtain ⟨dx, gs, r, q⟩ := h; exact ⟨dx, gs, r.mono g e, by rw [ha]; exact q⟩
  | xd d fs => obtain ⟨z, gs, r, q⟩ := h; exact ⟨z, gs, r.mono g e, by rw [ha]; exact q⟩
  | gone => obtain ⟨u, q⟩ := h; exact ⟨u, by rw [ha]; exact q⟩
section
variable {K : PySem.W.Frag} {m : List Addr} {S : Sto} {H : Hp}
theorem Sim.at_ (s : Sim K m S H) {i : Nat} {o : Ob} (h : S[i]? = some o) : ∃ a, m[i]? = some a ∧ OR K m H a o := by
  have hi := (List.getElem?_eq_some_iff.mp h).1
  have hm : i < m.length := by rw [s.len]; exact hi
  exact ⟨m[i], by simp [hm], s.ob i _ o (by simp [hm]) h⟩
theorem Sim.there (s : Sim K m S H) {a : Addr} (h : a ∈ m) : ∃ u, H a = some u := by
  obtain ⟨i, hi⟩ := List.getElem?_of_mem h
  have hl : i < S.length := by rw [← s.len]; exact (List.getElem?_eq_some_iff.mp hi).1
  exact (s.ob i a S[i] hi (List.getElem?_eq_getElem hl)).some_
/-- a heap that keeps what the store speaks of -/
theorem Sim.keep {H' : Hp} (s : Sim K m S H) (e : TK H H') (h : ∀ a ∈ m, H' a = H a) : Sim K m S H' :=
  ⟨s.len, s.nd, fun i a o h1 h2 => (s.ob i a o h1 h2).mono (fun _ _ q => q) e (h a (List.mem_of_getElem? h1))⟩
/-- a new object that the store does not speak of -/
theorem Sim.other {p : Addr} {o : HO} (s : Sim K m S H) (h : H p = none) : Sim K m S (upd H p o) :=
  s.keep (TK.new h) fun a ha => by
    obtain ⟨u, q⟩ := s.there ha
    exact upd_ne (ne_of_none q h)
theorem Sim.notin {p : Addr} (s : Sim K m S H) (h : H p = none) : p ∉ m := fun q => by
  obtain ⟨u, e⟩ := s.there q
  rw [h] at e; cases e
theorem nodup_app_one {m : List Addr} {p : Addr} (h : m.Nodup) (n : p ∉ m) : (m ++ [p]).Nodup := by
  rw [List.nodup_append]
  exact ⟨h, by simp, fun a ha b hb => by
    have : b = p := by simpa using hb
    subst this
    intro z
    subst z
    exact n ha⟩
theorem Gr.refl {m : List Addr} : Gr m m := fun _ _ h => h
/-- the store takes an object in that stands already -/
theorem Sim.add {p : Addr} {o : Ob} (s : Sim K m S H) (n : p ∉ m) (h : OR K m H p o) : Sim K (m ++ [p]) (S ++ [o]) H := by
  refine ⟨by simp [s.len], nodup_app_one s.nd n, fun i a q h1 h2 => ?_⟩
  by_cases hi : i < m.length
  · rw [List.getElem?_append_left hi] at h1
    rw [List.getElem?_append_left (by rw [← s.len]; exact hi)] at h2
    exact (s.ob i a q h1 h2).mono (Gr.app m [p]) TK.refl rfl
  · rw [List.getElem?_append_right (by omega)] at h1
    rw [List.getElem?_append_right (by rw [← s.len]; omega), ← s.len] at h2
    obtain ⟨k, hk⟩ : ∃ k, i - m.length = k := ⟨_, rfl⟩
    rw [hk] at h1 h2
    cases k with
    | zero =>
      simp at h1 h2
      subst h1 h2
      exact h.mono (Gr.app m [p]) TK.refl rfl
    | succ k => simp at h1
/-- an object of the store is changed -/
theorem Sim.put {i : Nat} {a : Addr} {o : Ob} {u v : HO} (s : Sim K m S H) (hi : m[i]? = some a) (hu : H a = some u) (c : Chg u) (n : OR K m (upd H a v) a o) : Sim K m (S.set i o) (upd H a v) := by
  refine ⟨by simp [s.len], s.nd, fun j b q h1 h2 => ?_⟩
  by_cases e : j = i
  · subst e
    rw [hi] at h1
    cases h1
    have hl : j < S.length := by rw [← s.len]; exact (List.getElem?_eq_some_iff.mp hi).1
    rw [List.getElem?_set_self hl] at h2
    cases h2
    exact n
  · rw [List.getElem?_set_ne (Ne.symm e)] at h2
    have nb : b ≠ a := fun z => by
      subst z
      obtain ⟨l1, e1⟩ := List.getElem?_eq_some_iff.mp h1
      obtain ⟨l2, e2⟩ := List.getElem?_eq_some_iff.mp hi
      exact e ((List.getElem_inj s.nd).mp (e1.trans e2.symm))
    exact (s.ob j b q h1 h2).mono Gr.refl (TK.mut hu c) (upd_ne nb)
end
def ER (K : PySem.W.Frag) (m : List Addr) (H : Hp) (env : En) (σ : L2.St) : Prop := env.length = σ.length ∧ ∀ (i : Nat) (d : D), env[i]? = some (some d) → ∃ v, σ[i]? = some (some v) ∧ VR K m H d v
theorem ER.mono {K : PySem.W.Frag} {m m' : List Addr} {H H' : Hp} {env : En} {σ : L2.St} (g : Gr m m') (e : TK H H') (h : ER K m H env σ) : ER K m' H' env σ :=
  ⟨h.1, fun i d q => let ⟨v, a, b⟩ := h.2 i d q; ⟨v, a, b.mono g e⟩⟩
theorem ER.set {K : PySem.W.Frag} {m : List Addr} {H : Hp} {env : En} {σ : L2.St} {i : Nat} {d : D} {v : V} (h : ER K m H env σ) (r : VR K m H d v) : ER K m H (env.set i (some d)) (σ.set i (some v)) := by
  refine ⟨by simp [h.1], fun j x q => ?_⟩
  by_cases e : j = i
  · subst e
    have hl : j < env.length := by
      have := (List.getElem?_eq_some_iff.mp q).1
      simpa using this
    rw [List.getElem?_set_self hl] at q
    cases q
    exact ⟨v, by rw [List.getElem?_set_self (by rw [← h.1]; exact hl)], r⟩
  · rw [List.getElem?_set_ne (Ne.symm e)] at q
    obtain ⟨u, a, b⟩ := h.2 j x q
    exact ⟨u, by rw [List.getElem?_set_ne (Ne.symm e)]; exact a, b⟩

/-- how an exception's own fields lie -/
def XR (K : PySem.W.Frag) (H0 : Hp) (m : List Addr) (H : Hp) (fs : List (Str × D)) (dd : Option Addr) : Prop :=
  (fs = [] ∧ dd = none) ∨ ∃ d gs, fs ≠ [] ∧ dd = some d ∧ H0 d = none ∧ d ∉ m ∧ H d = some (.xd gs) ∧ FR K m H fs gs

/-- from the heap H, the store's addresses m, to H', the store's m ++ e: tuples and what is locked stay, what is tracked and not the store's stays as it is, what is tracked stays tracked, the new addresses were free -/
structure HE (m e : List Addr) (H H' : Hp) : Prop where
  tk : TK H H'
  oth : ∀ a o, a ∉ m → H a = some o → H' a = some o
  dom : ∀ a o, H a = some o → ∃ o', H' a = some o'
  new : ∀ a ∈ e, H a = none
theorem HE.refl {m : List Addr} {H : Hp} : HE m [] H H := ⟨TK.refl, fun _ _ _ h => h, fun _ o h => ⟨o, h⟩, fun _ h => absurd h (by simp)⟩
theorem HE.free {m e : List Addr} {H H' : Hp} (h : HE m e H H') {a : Addr} (q : H' a = none) : H a = none := by
  cases z : H a with
  | none => rfl
  | some o =>
    obtain ⟨o', e'⟩ := h.dom a o z
    rw [q] at e'; cases e'
theorem HE.trans {m e1 e2 : List Addr} {H H1 H2 : Hp} (a : HE m e1 H H1) (b : HE (m ++ e1) e2 H1 H2) : HE m (e1 ++ e2) H H2 :=
  ⟨a.tk.trans b.tk, fun x o n h => b.oth x o (fun q => (List.mem_append.mp q).elim n fun z => by rw [a.new x z] at h; cases h) (a.oth x o n h),
    fun x o h => let ⟨o', q⟩ := a.dom x o h; b.dom x o' q, fun x h => (List.mem_append.mp h).elim (a.new x) fun z => a.free (b.new x z)⟩
/-- a new object that the store does not take in -/
theorem HE.laid {m : List Addr} {H : Hp} {p : Addr} {o : HO} (h : H p = none) : HE m [] H (upd H p o) :=
  ⟨TK.new h, fun a ob _ r => by rw [upd_ne (ne_of_none r h)]; exact r,
    fun a ob r => ⟨ob, by rw [upd_ne (ne_of_none r h)]; exact r⟩, fun _ h => absurd h (by simp)⟩
/-- the store's object is changed -/
theorem HE.mut {m : List Addr} {H : Hp} {p : Addr} {o u : HO} (hp : p ∈ m) (h : H p = some u) (c : Chg u) : HE m [] H (upd H p o) :=
  ⟨TK.mut h c, fun a ob n r => by rw [upd_ne (fun z : a = p => n (by rw [z]; exact hp))]; exact r,
    fun a ob r => by
      by_cases e : a = p
      · exact ⟨o, by rw [e, upd_same]⟩
      · exact ⟨ob, by rw [upd_ne e]; exact r⟩, fun _ h => absurd h (by simp)⟩
/-- what stands beside the store is taken in -/
theorem HE.take {m : List Addr} {H H' : Hp} {p : Addr} (a : HE m [] H H') (h : H p = none) : HE m [p] H H' :=
  ⟨a.tk, a.oth, a.dom, fun x hx => by
    have : x = p := by simpa using hx
    rw [this]; exact h⟩

/-! ### the readings -/
theorem XR.back {K : PySem.W.Frag} {H0 H1 : Hp} {m m0 e0 : List Addr} {H : Hp} {fs : List (Str × D)} {dd : Option Addr} (h : XR K H1 m H fs dd) (he : HE m0 e0 H0 H1) : XR K H0 m H fs dd := by
  rcases h with h | ⟨d, gs, h0, h1, h2, h3⟩
  · exact .inl h
  · exact .inr ⟨d, gs, h0, h1, he.free h2, h3⟩
def KG {α : Type} (K : PySem.W.Frag) (W : WX) (σ : L2.St) (P : List Addr → Hp → Sto → α → Prop) (m : List Addr) (H : Hp) : R α → Prop
  | .ok a S' => ∀ H' e, Sim K (m ++ e) S' H' → HE m e H H' → P (m ++ e) H' S' a
  | .ex C fs S' => ∀ dd H' e, Sim K (m ++ e) S' H' → HE m e H H' → XR K H (m ++ e) H' fs dd → W (.ref (He.ga K C)) dd σ H'
  | .bad => False
theorem KG.mono {α : Type} {K : PySem.W.Frag} {W : WX} {σ : L2.St} {P P' : List Addr → Hp → Sto → α → Prop} {m : List Addr} {H : Hp} {r : R α} (h : KG K W σ P m H r)
    (f : ∀ e H' S' a, Sim K (m ++ e) S' H' → HE m e H H' → P (m ++ e) H' S' a → P' (m ++ e) H' S' a) : KG K W σ P' m H r := by
  cases r with
  | ok a S' => exact fun H' e s he => f e H' S' a s he (h H' e s he)
  | ex C fs S' => exact h
  | bad => exact h
/-- a value, perhaps a list just made since the heap H0 -/
def VX (K : PySem.W.Frag) (H0 : Hp) (m : List Addr) (H : Hp) : D → V → Prop
  | .tml ds, v => ∃ p xs, v = .ref p ∧ H0 p = none ∧ H p = some (.lst xs) ∧ p ∉ m ∧ VRs K m H ds xs
  | d, v => VR K m H d v
theorem VX.of {K : PySem.W.Frag} {H0 : Hp} {m : List Addr} {H : Hp} {d : D} {v : V} (h : VR K m H d v) : VX K H0 m H d v := by
  cases d <;> first | exact h | (unfold VR at h; exact h.elim)
theorem VR.on {K : PySem.W.Frag} {m e : List Addr} {H H' : Hp} {d : D} {v : V} (h : VR K m H d v) (he : HE m e H H') : VR K (m ++ e) H' d v := h.mono (Gr.app m e) he.tk
theorem VRs.on {K : PySem.W.Frag} {m e : List Addr} {H H' : Hp} {ds : List D} {vs : List V} (h : VRs K m H ds vs) (he : HE m e H H') : VRs K (m ++ e) H' ds vs := h.mono (Gr.app m e) he.tk
theorem ER.on {K : PySem.W.Frag} {m e : List Addr} {H H' : Hp} {env : En} {σ : L2.St} (h : ER K m H env σ) (he : HE m e H H') : ER K (m ++ e) H' env σ := h.mono (Gr.app m e) he.tk
theorem VX.on {K : PySem.W.Frag} {H0 : Hp} {m e : List Addr} {H H' : Hp} {d : D} {v : V} (h : VX K H0 m H d v) (he : HE m e H H') : VX K H0 (m ++ e) H' d v := by
  cases d with
  | tml ds =>
    obtain ⟨p, xs, e1, h0, hp, hn, r⟩ := h
    have np : p ∉ m ++ e := fun q => (List.mem_append.mp q).elim hn fun z => by
      rw [he.new p z] at hp
      cases hp
    exact ⟨p, xs, e1, h0, he.oth p _ hn hp, np, r.on he⟩
  | _ => exact VX.of (VR.on h he)
theorem VX.back {K : PySem.W.Frag} {H0 H1 : Hp} {m m0 e0 : List Addr} {H : Hp} {d : D} {v : V} (h : VX K H1 m H d v) (he : HE m0 e0 H0 H1) : VX K H0 m H d v := by
  cases d with
  | tml ds =>
    obtain ⟨p, xs, e1, h0, r⟩ := h
    exact ⟨p, xs, e1, he.free h0, r⟩
  | _ => exact h
theorem VX.on2 {K : PySem.W.Frag} {H0 : Hp} {m e e2 : List Addr} {H H' : Hp} {d : D} {v : V} (h : VX K H0 (m ++ e) H d v) (he : HE (m ++ e) e2 H H') : VX K H0 (m ++ (e ++ e2)) H' d v := by
  rw [← List.append_assoc]; exact h.on he
theorem ER.on2 {K : PySem.W.Frag} {m e e2 : List Addr} {H H' : Hp} {env : En} {σ : L2.St} (h : ER K (m ++ e) H env σ) (he : HE (m ++ e) e2 H H') : ER K (m ++ (e ++ e2)) H' env σ := by
  rw [← List.append_assoc]; exact h.on he
theorem VRs.on2 {K : PySem.W.Frag} {m e e2 : List Addr} {H H' : Hp} {ds : List D} {vs : List V} (h : VRs K (m ++ e) H ds vs) (he : HE (m ++ e) e2 H H') : VRs K (m ++ (e ++ e2)) H' ds vs := by
  rw [← List.append_assoc]; exact h.on he
theorem VR.on2 {K : PySem.W.Frag} {m e e2 : List Addr} {H H' : Hp} {d : D} {v : V} (h : VR K (m ++ e) H d v) (he : HE (m ++ e) e2 H H') : VR K (m ++ (e ++ e2)) H' d v := by
  rw [← List.append_assoc]; exact h.on he

/-- the first part of a chain -/
theorem KG.seq0 {α β : Type} {K : PySem.W.Frag} {W : WX} {σ : L2.St} {P : List Addr → Hp → Sto → β → Prop} {P' : List Addr → Hp → Sto → α → Prop} {m : List Addr} {H : Hp} {r : R α} {k : α → Sto → R β} (h : KG K W σ P m H (r.bind k))
    (f : ∀ e H1 S1 a, Sim K (m ++ e) S1 H1 → HE m e H H1 → KG K W σ P m H (k a S1) → P' (m ++ e) H1 S1 a) : KG K W σ P' m H r := by
  cases r with
  | ok a S' => exact fun H' e s he => f e H' S' a s he h
  | ex C fs S' => exact h
  | bad => exact h
/-- a further part -/
theorem KG.seq {α β : Type} {K : PySem.W.Frag} {W : WX} {σ : L2.St} {P : List Addr → Hp → Sto → β → Prop} {P' : List Addr → Hp → Sto → α → Prop} {m e : List Addr} {H H1 : Hp} {r : R α} {k : α → Sto → R β} (h : KG K W σ P m H (r.bind k)) (he : HE m e H H1)
    (f : ∀ e2 H2 S2 a, Sim K (m ++ (e ++ e2)) S2 H2 → HE (m ++ e) e2 H1 H2 → HE m (e ++ e2) H H2 → KG K W σ P m H (k a S2) → P' (m ++ (e ++ e2)) H2 S2 a) : KG K W σ P' (m ++ e) H1 r := by
  cases r with
  | ok a S' =>
    intro H' e' s he'
    rw [List.append_assoc] at s ⊢
    exact f e' H' S' a s he' (he.trans he') h
  | ex C fs S' =>
    intro dd H' e' s he' x
    rw [List.append_assoc] at s x
    exact h dd H' (e ++ e') s (he.trans he') (x.back he)
  | bad => exact h
/-- the last part, whatever it is -/
theorem KG.rest {α : Type} {K : PySem.W.Frag} {W : WX} {σ : L2.St} {P P' : List Addr → Hp → Sto → α → Prop} {m e : List Addr} {H H1 : Hp} {r : R α} (h : KG K W σ P m H r) (he : HE m e H H1)
    (f : ∀ e2 H2 S2 a, HE (m ++ e) e2 H1 H2 → P (m ++ (e ++ e2)) H2 S2 a → P' (m ++ (e ++ e2)) H2 S2 a) : KG K W σ P' (m ++ e) H1 r := by
  cases r with
  | ok a S' =>
    intro H' e' s he'
    rw [List.append_assoc] at s ⊢
    exact f e' H' S' a he' (h H' (e ++ e') s (he.trans he'))
  | ex C fs S' =>
    intro dd H' e' s he' x
    rw [List.append_assoc] at s x
    exact h dd H' (e ++ e') s (he.trans he') (x.back he)
  | bad => exact h
/-- the end -/
theorem KG.fin {α : Type} {K : PySem.W.Frag} {W : WX} {σ : L2.St} {P : List Addr → Hp → Sto → α → Prop} {m e : List Addr} {H H' : Hp} {a : α} {S : Sto} (h : KG K W σ P m H (.ok a S)) (s : Sim K (m ++ e) S H') (he : HE m e H H') : P (m ++ e) H' S a := h H' e s he
theorem KG.now {α : Type} {K : PySem.W.Frag} {W : WX} {σ : L2.St} {P : List Addr → Hp → Sto → α → Prop} {m : List Addr} {H : Hp} {a : α} {S : Sto} (h : KG K W σ P m H (.ok a S)) (s : Sim K m S H) : P m H S a := by
  have := h H [] (by simpa using s) HE.refl
  simpa using this

/-- what is wanted of a value -/
abbrev PQ (K : PySem.W.Frag) (Q : VK) : List Addr → Hp → Sto → D → Prop := fun m H _ d => ∀ v, VR K m H d v → Q v H
/-- .. that may be a list just made (H0: the heap ahead of it) -/
abbrev PV (K : PySem.W.Frag) (Q : VK) (H0 : Hp) : List Addr → Hp → Sto → D → Prop := fun m H _ d => ∀ v, VX K H0 m H d v → Q v H
abbrev PA_ (K : PySem.W.Frag) (Q : List V → Hp → Prop) : List Addr → Hp → Sto → List D → Prop := fun m H _ ds => ∀ vs, VRs K m H ds vs → Q vs H
/-- arguments of built-ins: lists just made among them -/
def VXs (K : PySem.W.Frag) (H0 : Hp) (m : List Addr) (H : Hp) : List D → List V → Prop
  | [], vs => vs = []
  | d :: ds, vs => ∃ v r, vs = v :: r ∧ VX K H0 m H d v ∧ VXs K H0 m H ds r
theorem VXs.nil {K : PySem.W.Frag} {H0 : Hp} {m : List Addr} {H : Hp} : VXs K H0 m H [] [] := rfl
theorem VXs.cons {K : PySem.W.Frag} {H0 : Hp} {m : List Addr} {H : Hp} {d : D} {v : V} {ds : List D} {vs : List V} (h : VX K H0 m H d v) (t : VXs K H0 m H ds vs) : VXs K H0 m H (d :: ds) (v :: vs) := ⟨v, vs, rfl, h, t⟩
abbrev PX_ (K : PySem.W.Frag) (Q : List V → Hp → Prop) (H0 : Hp) : List Addr → Hp → Sto → List D → Prop := fun m H _ ds => ∀ vs, VXs K H0 m H ds vs → Q vs H
abbrev PT_ (Q : Bool → Hp → Prop) : List Addr → Hp → Sto → Bool → Prop := fun _ H _ b => Q b H
abbrev FE := En → Sto → R D
abbrev FT := En → Sto → R Bool
abbrev FA := En → Sto → R (List D)
def TEf (K : PySem.W.Frag) (W : WX) (f : FE) : TE := fun σ H Q => ∃ m env S, Sim K m S H ∧ ER K m H env σ ∧ KG K W σ (PQ K Q) m H (f env S)
def TXf (K : PySem.W.Frag) (W : WX) (f : FE) : TE := fun σ H Q => ∃ m env S, Sim K m S H ∧ ER K m H env σ ∧ KG K W σ (PV K Q H) m H (f env S)
def TTf (K : PySem.W.Frag) (W : WX) (f : FT) : TT := fun σ H Q => ∃ m env S, Sim K m S H ∧ ER K m H env σ ∧ KG K W σ (PT_ Q) m H (f env S)
def TAf (K : PySem.W.Frag) (W : WX) (f : FA) : TA := fun σ H Q => ∃ m env S, Sim K m S H ∧ ER K m H env σ ∧ KG K W σ (PA_ K Q) m H (f env S)
/-- arguments of built-ins -/
def TBf (K : PySem.W.Frag) (W : WX) (f : FA) : TA := fun σ H Q => ∃ m env S, Sim K m S H ∧ ER K m H env σ ∧ KG K W σ (PX_ K Q H) m H (f env S)
/-- what is wanted behind a statement -/
def KS (K : PySem.W.Frag) (W : WX) (Dn : Ends) (m : List Addr) (H : Hp) : RS → Prop
  | .nx env S' => ∀ σ' H' e, Sim K (m ++ e) S' H' → HE m e H H' → ER K (m ++ e) H' env σ' → Dn.nx σ' H'
  | .bk env S' => ∀ σ' H' e, Sim K (m ++ e) S' H' → HE m e H H' → ER K (m ++ e) H' env σ' → Dn.bk σ' H'
  | .ct env S' => ∀ σ' H' e, Sim K (m ++ e) S' H' → HE m e H H' → ER K (m ++ e) H' env σ' → Dn.ct σ' H'
  | .rt d S' => ∀ v H' e, Sim K (m ++ e) S' H' → HE m e H H' → VR K (m ++ e) H' d v → Dn.rt v H'
  | .ex C fs env S' => ∀ dd σ' H' e, Sim K (m ++ e) S' H' → HE m e H H' → ER K (m ++ e) H' env σ' → XR K H (m ++ e) H' fs dd → W (.ref (He.ga K C)) dd σ' H'
  | .bad => False
theorem KS.shift {K : PySem.W.Frag} {W : WX} {Dn : Ends} {m e : List Addr} {H H1 : Hp} {r : RS} (he : HE m e H H1) (h : KS K W Dn m H r) : KS K W Dn (m ++ e) H1 r := by
  cases r with
  | nx env S' =>
    intro σ' H' e' s he' x
    rw [List.append_assoc] at s x
    exact h σ' H' (e ++ e') s (he.trans he') x
  | bk env S' =>
    intro σ' H' e' s he' x
    rw [List.append_assoc] at s x
    exact h σ' H' (e ++ e') s (he.trans he') x
  | ct env S' =>
    intro σ' H' e' s he' x
    rw [List.append_assoc] at s x
    exact h σ' H' (e ++ e') s (he.trans he') x
  | rt d S' =>
    intro σ' H' e' s he' x
    rw [List.append_assoc] at s x
    exact h σ' H' (e ++ e') s (he.trans he') x
  | ex C fs env S' =>
    intro dd σ' H' e' s he' x y
    rw [List.append_assoc] at s x y
    exact h dd σ' H' (e ++ e') s (he.trans he') x (y.back he)
  | bad => exact h
abbrev FS := En → Sto → RS
def TSf (K : PySem.W.Frag) (W : WX) (f : FS) : TS := fun Dn σ H => ∃ m env S, Sim K m S H ∧ ER K m H env σ ∧ KS K W Dn m H (f env S)

end Ah

set_option maxHeartbeats 1000000
namespace Ah
open PySem PySem.Spec PyProof.Rows L2

section
variable {X : Cx}
theorem pe_imp {e : Expr} {t t' : TE} (h : PE X e t) (w : ∀ σ H Q, t' σ H Q → t σ H Q) : PE X e t' := ⟨fun pins s σ H Q I q => h.run pins s σ H Q I (w σ H Q q)⟩
theorem pt_imp {e : Expr} {t t' : TT} (h : PT X e t) (w : ∀ σ H Q, t' σ H Q → t σ H Q) : PT X e t' := ⟨fun pins s σ H Q I q => h.run pins s σ H Q I (w σ H Q q)⟩
theorem pw_imp {e : Expr} {t t' : TT} (h : PW X e t) (w : ∀ σ H Q, t' σ H Q → t σ H Q) : PW X e t' := ⟨fun wh pins s σ H Q I q => h.run wh pins s σ H Q I (w σ H Q q)⟩
theorem pa_imp {es : List Expr} {t t' : TA} (h : PA X es t) (w : ∀ σ H Q, t' σ H Q → t σ H Q) : PA X es t' := ⟨fun pos pins s σ H Q I q => h.run pos pins s σ H Q I (w σ H Q q)⟩
theorem ps_imp {st : Stmt} {t t' : TS} (h : PS X st t) (w : ∀ Dn σ H, t' Dn σ H → t Dn σ H) : PS X st t' := ⟨fun pins s σ H Dn I q => h.run pins s σ H Dn I (w Dn σ H q)⟩
theorem pss_imp {st : List Stmt} {t t' : TS} (h : PSs X st t) (w : ∀ Dn σ H, t' Dn σ H → t Dn σ H) : PSs X st t' := ⟨fun pins s σ H Dn I q => h.run pins s σ H Dn I (w Dn σ H q)⟩
theorem pts_imp {es : List Expr} {t t' : TT} (h : PTs X es t) (w : ∀ σ H Q, t' σ H Q → t σ H Q) : PTs X es t' := ⟨fun pins s σ H Q I q => h.run pins s σ H Q I (w σ H Q q)⟩
end

/-- an expression, a test, arguments, a statement, a block: each is a plain function -/
abbrev SE (X : Cx) (W : WX) (e : Expr) (f : FE) : Prop := PE X e (TEf X.K W f)
/-- .. whose value may be a list just made -/
abbrev SX (X : Cx) (W : WX) (e : Expr) (f : FE) : Prop := PE X e (TXf X.K W f)
abbrev ST (X : Cx) (W : WX) (e : Expr) (f : FT) : Prop := PT X e (TTf X.K W f)
abbrev SW (X : Cx) (W : WX) (e : Expr) (f : FT) : Prop := PW X e (TTf X.K W f)
abbrev SA (X : Cx) (W : WX) (es : List Expr) (f : FA) : Prop := PA X es (TAf X.K W f)
abbrev SB (X : Cx) (W : WX) (es : List Expr) (f : FA) : Prop := PA X es (TBf X.K W f)
abbrev SS (X : Cx) (W : WX) (st : Stmt) (f : FS) : Prop := PS X st (TSf X.K W f)
abbrev SSs (X : Cx) (W : WX) (st : List Stmt) (f : FS) : Prop := PSs X st (TSf X.K W f)

/-! ### names, constants -/
def varF (i : Nat) : FE := fun env S => match env[i]? with
  | some (some d) => .ok d S
  | _ => .bad
def cF (d : D) : FE := fun _ S => .ok d S
section
variable {X : Cx} {W : WX} {pos : Pos}
theorem se_var (i : Nat) {x : Str} (hN : X.N[i]? = some x := by rfl) (hv : Vis X.env.scope x := by first | exact Or.inl rfl | exact Or.inr (Or.inl rfl) | exact Or.inr (Or.inr rfl)) (hd : (x == ("__debug__" : Str)) = false := by decide)
    (hcd : (x == ("__classdict__" : Str)) = false := by decide) : SE X W (.Name x pos) (varF i) := pe_imp (pe_var hN hv hd hcd) fun σ H Q ⟨m, env, S, s, er, k⟩ => by
  unfold varF at k
  split at k
  · rename_i d q
    obtain ⟨v, e1, r⟩ := er.2 i d q
    exact ⟨v, e1, k.now s v r⟩
  · exact k.elim
theorem se_c {e : Expr} {d : D} {v : V} (h : PE X e (tC v)) (r : ∀ m H, VR X.K m H d v) : SE X W e (cF d) := pe_imp h fun σ H Q ⟨m, env, S, s, er, k⟩ => k.now s v (r m H)
theorem se_int {i j pos} : SE X W (.Constant (.int i) j pos) (cF (.int i)) := se_c pe_int fun _ _ => by unfold VR; rfl
theorem se_bl {i j pos} : SE X W (.Constant (.bool i) j pos) (cF (.bl i)) := se_c pe_bl fun _ _ => by unfold VR; rfl
theorem se_non {j pos} : SE X W (.Constant .none j pos) (cF .non) := se_c pe_non fun _ _ => by unfold VR; rfl
theorem se_str {x j pos} : SE X W (.Constant (.str x) j pos) (cF (.str x)) := se_c pe_str fun _ _ => by unfold VR; rfl
/-- a module's text, number -/
theorem se_gstr {x z : Str} (hg : Gl X x) (hm : ∃ t, X.mg x = some (.str z t)) (hd : (x == ("__debug__" : Str)) = false := by decide) : SE X W (.Name x pos) (cF (.str z)) :=
  se_c (v := .str z) (let ⟨t, h⟩ := hm; pe_glob hg h ⟨t, rfl⟩ hd) fun _ _ => by unfold VR; rfl
theorem se_gint {x : Str} {i : Int} (hg : Gl X x) (hm : ∃ t, X.mg x = some (.int i t)) (hd : (x == ("__debug__" : Str)) = false := by decide) : SE X W (.Name x pos) (cF (.int i)) :=
  se_c (v := .int i) (let ⟨t, h⟩ := hm; pe_glob hg h ⟨t, rfl⟩ hd) fun _ _ => by unfold VR; rfl
/-- a def, a class of the module as a value -/
theorem se_gref {x : Str} (hg : Gl X x) (hm : X.mg x = some (.ref (He.ga X.K x))) (hd : (x == ("__debug__" : Str)) = false := by decide) : SE X W (.Name x pos) (cF (.glb x)) :=
  se_c (v := .ref (He.ga X.K x)) (pe_glob hg hm rfl hd) fun _ _ => by unfold VR; rfl
/-- a built-in type as a value -/
theorem se_ty {x : Str} {n : String} (hg : Gl X x) (hm : X.mg x = none) (hv : bootBuiltins x = some (.type n)) (hn : x ≠ "__name__" := by decide) (hd : (x == ("__debug__" : Str)) = false := by decide) : SE X W (.Name x pos) (cF (.ty n)) :=
  se_c (v := .ty n) (pe_bltn hg hm hv rfl hn hd) fun _ _ => by unfold VR; rfl
end

/-! ### two operands -/
abbrev Op2 := D → D → Sto → R D
def opF (op : Op2) (fa fb : FE) : FE := fun env S => (fa env S).bind fun x S1 => (fb env S1).bind fun y S2 => op x y S2
theorem tx_of {K : PySem.W.Frag} {W : WX} {f : FE} {σ : L2.St} {H : Hp} {Q : VK} (h : TXf K W f σ H Q) : TEf K W f σ H Q :=
  let ⟨m, env, S, s, er, k⟩ := h
  ⟨m, env, S, s, er, k.mono fun _ _ _ _ _ _ q v r => q v (VX.of r)⟩
theorem sx_of {X : Cx} {W : WX} {e : Expr} {f : FE} (h : SE X W e f) : SX X W e f := pe_imp h fun σ H Q q => tx_of q
/-- a list just made is taken into the store -/
def alF (f : FE) : FE := fun env S => (f env S).bind fun d S1 => match d with
  | .tml ds => .ok (.ref S1.length) (S1 ++ [.lst ds])
  | d => .ok d S1
theorem alloc_ok {K : PySem.W.Frag} {W : WX} {σ : L2.St} {P : List Addr → Hp → Sto → D → Prop} {m e : List Addr} {S : Sto} {H0 H : Hp} {p : Addr} {xs : List V} {ds : List D} (k : KG K W σ P m H0 (.ok (.ref S.length) (S ++ [.lst ds])))
    (he : HE m e H0 H) (s : Sim K (m ++ e) S H) (h0 : H0 p = none) (hp : H p = some (.lst xs)) (hn : p ∉ m ++ e) (r : VRs K (m ++ e) H ds xs) : ∃ e', P (m ++ e') H (S ++ [.lst ds]) (.ref S.length) ∧ VR K (m ++ e') H (.ref S.length) (.ref p) := by
  refine ⟨e ++ [p], k H (e ++ [p]) ?_ ⟨he.tk, he.oth, he.dom, fun a ha => (List.mem_append.mp ha).elim (he.new a) fun z => ?_⟩, ?_⟩
  · rw [← List.append_assoc]
    exact s.add hn ⟨xs, r, hp⟩
  · have : a = p := by simpa using z
    rw [this]; exact h0
  · unfold VR
    refine ⟨p, ?_, rfl⟩
    rw [← List.append_assoc, ← s.len]
    simp
theorem se_al {X : Cx} {W : WX} {e : Expr} {f : FE} (h : SX X W e f) : SE X W e (alF f) := pe_imp h fun σ H Q ⟨m, env, S, s, er, k⟩ => ⟨m, env, S, s, er, k.seq0 fun e H1 S1 x s1 he k1 v vr => by
  cases x with
  | tml ds =>
    obtain ⟨p, xs, rfl, h0, hp, hn, r⟩ := vr
    obtain ⟨e', q, z⟩ := alloc_ok k1 he s1 h0 hp hn r
    exact q _ z
  | _ => exact k1.fin s1 he v vr⟩
/-- the operation on values, on data -/
def Ad2 (K : PySem.W.Frag) (r : R2) (op : Op2) : Prop :=
  ∀ (W : WX) (σ : L2.St) (m e : List Addr) (S : Sto) (H0 H : Hp) (x y : D) (v u : V) (Q : VK), HE m e H0 H → Sim K (m ++ e) S H → VX K H0 (m ++ e) H x v → VX K H0 (m ++ e) H y u → KG K W σ (PQ K Q) m H0 (op x y S) → r v u H Q
/-- .. that makes a list -/
def Ad2L (K : PySem.W.Frag) (r : R2) (op : Op2) : Prop :=
  ∀ (W : WX) (σ : L2.St) (m e : List Addr) (S : Sto) (H0 H : Hp) (x y : D) (v u : V) (Q : VK), HE m e H0 H → Sim K (m ++ e) S H → VX K H0 (m ++ e) H x v → VX K H0 (m ++ e) H y u → KG K W σ (PV K Q H0) m H0 (op x y S) → r v u H Q
def Op1 := D → Sto → R D
def unF (op : Op1) (fa : FE) : FE := fun env S => (fa env S).bind fun x S1 => op x S1
def Ad1 (K : PySem.W.Frag) (r : V → Hp → VK → Prop) (op : Op1) : Prop :=
  ∀ (W : WX) (σ : L2.St) (m e : List Addr) (S : Sto) (H0 H : Hp) (x : D) (v : V) (Q : VK), HE m e H0 H → Sim K (m ++ e) S H → VX K H0 (m ++ e) H x v → KG K W σ (PQ K Q) m H0 (op x S) → r v H Q
theorem to_op {K : PySem.W.Frag} {W : WX} {r : R2} {op : Op2} (ad : Ad2 K r op) {fa fb : FE} {σ : L2.St} {H : Hp} {Q : VK} (h : TEf K W (opF op fa fb) σ H Q) : tOp r (TXf K W fa) (TXf K W fb) σ H Q := by
  obtain ⟨m, env, S, s, er, k⟩ := h
  refine ⟨m, env, S, s, er, k.seq0 fun e H1 S1 x s1 he k1 v vr => ⟨m ++ e, env, S1, s1, er.on he, k1.seq he fun e2 H2 S2 y s2 he2 he3 k2 u ur => ?_⟩⟩
  exact ad W σ m (e ++ e2) S2 H H2 x y v u Q he3 s2 (vr.on2 he2) (ur.back he) k2
theorem to_opL {K : PySem.W.Frag} {W : WX} {r : R2} {op : Op2} (ad : Ad2L K r op) {fa fb : FE} {σ : L2.St} {H : Hp} {Q : VK} (h : TXf K W (opF op fa fb) σ H Q) : tOp r (TXf K W fa) (TXf K W fb) σ H Q := by
  obtain ⟨m, env, S, s, er, k⟩ := h
  refine ⟨m, env, S, s, er, k.seq0 fun e H1 S1 x s1 he k1 v vr => ⟨m ++ e, env, S1, s1, er.on he, k1.seq he fun e2 H2 S2 y s2 he2 he3 k2 u ur => ?_⟩⟩
  exact ad W σ m (e ++ e2) S2 H H2 x y v u Q he3 s2 (vr.on2 he2) (ur.back he) k2
theorem to_un {K : PySem.W.Frag} {W : WX} {r : V → Hp → VK → Prop} {op : Op1} (ad : Ad1 K r op) {fa : FE} {σ : L2.St} {H : Hp} {Q : VK} (h : TEf K W (unF op fa) σ H Q) : tUn r (TXf K W fa) σ H Q := by
  obtain ⟨m, env, S, s, er, k⟩ := h
  exact ⟨m, env, S, s, er, k.seq0 fun e H1 S1 x s1 he k1 v vr => ad W σ m e S1 H H1 x v Q he s1 vr k1⟩
section
variable {X : Cx} {W : WX} {pos : Pos} {a b c : Expr} {fa fb fc : FE}
theorem se_op {op : Operator} {r : R2} {f : Op2} (ho : OpR X (binaryOp op) r) (ad : Ad2 X.K r f) (ha : SX X W a fa) (hb : SX X W b fb) : SE X W (.BinOp a op b pos) (opF f fa fb) :=
  pe_imp (pe_op ho ha hb) fun σ H Q h => to_op ad h
theorem sx_op {op : Operator} {r : R2} {f : Op2} (ho : OpR X (binaryOp op) r) (ad : Ad2L X.K r f) (ha : SX X W a fa) (hb : SX X W b fb) : SX X W (.BinOp a op b pos) (opF f fa fb) :=
  pe_imp (pe_op ho ha hb) fun σ H Q h => to_opL ad h
theorem se_un {op : UnaryOp} {r : V → Hp → VK → Prop} {f : Op1} (ho : UnR X (unaryOp op) r) (ad : Ad1 X.K r f) (ha : SX X W a fa) : SE X W (.UnaryOp op a pos) (unF f fa) :=
  pe_imp (pe_un ho ha) fun σ H Q h => to_un ad h
theorem se_cmp {op : CmpOp} {r : R2} {f : Op2} (ho : OpR X (compareOp op) r) (ad : Ad2 X.K r f) (ha : SX X W a fa) (hb : SX X W b fb) (hm : behindInMarks op b = false) : SE X W (.Compare a [op] [b] pos) (opF f fa fb) :=
  pe_imp (pe_cmpR ho ha hb hm) fun σ H Q h => to_op ad h
/-- a value that must be a truth, as a test -/
def tstF (f : FE) : FT := fun env S => (f env S).bind fun d S1 => match d with
  | .bl b => .ok b S1
  | _ => .bad
theorem to_tst {K : PySem.W.Frag} {f : FE} {σ : L2.St} {H : Hp} {Q : Bool → Hp → Prop} (h : TTf K W (tstF f) σ H Q) : TEf K W f σ H (fun x H' => ∃ k, x = .bl k ∧ Q k H') := by
  obtain ⟨m, env, S, s, er, k⟩ := h
  refine ⟨m, env, S, s, er, k.seq0 fun e H1 S1 x s1 he k1 v vr => ?_⟩
  cases x with
  | bl b =>
    unfold VR at vr
    exact ⟨b, vr, k1.fin s1 he⟩
  | _ => exact k1.elim
theorem st_cmp {op : CmpOp} {r : R2} {f : Op2} (ho : OpR X (compareOp op) r) (ad : Ad2 X.K r f) (ha : SX X W a fa) (hb : SX X W b fb) (hm : behindInMarks op b = false) : ST X W (.Compare a [op] [b] pos) (tstF (opF f fa fb)) :=
  pt_imp (pt_cmpR ho ha hb hm) fun σ H Q h => to_op (Q := fun x H' => ∃ k, x = .bl k ∧ Q k H') ad (to_tst h)
/-- an expression whose value is a truth (a name, a call, an item), as a test -/
theorem st_val {e : Expr} {f : FE} (h : SE X W e f) (he : ∀ whole, isTrue e X.env whole = (do let v ← whole; standAt e.pos; holding [v] (truthy v)) := by intro _; rfl) : ST X W e (tstF f) :=
  pt_imp (pt_val h he) fun σ H Q h => to_tst h
/-! and, or, not -/
def andF (f g : FT) : FT := fun env S => (f env S).bind fun b S1 => if b = true then g env S1 else .ok false S1
def orF (f g : FT) : FT := fun env S => (f env S).bind fun b S1 => if b = true then .ok true S1 else g env S1
def notF (f : FT) : FT := fun env S => (f env S).bind fun b S1 => .ok (!b) S1
variable {ga gb : FT} {rest : List Expr}
theorem sw_and1 (h : ST X W a ga) : SW X W (.BoolOp .And [a] pos) ga := pw_and1 h
theorem sw_or1 (h : ST X W a ga) : SW X W (.BoolOp .Or [a] pos) ga := pw_or1 h
theorem sw_and (ha : ST X W a ga) (hb : SW X W (.BoolOp .And (b :: rest) pos) gb) : SW X W (.BoolOp .And (a :: b :: rest) pos) (andF ga gb) :=
  pw_imp (pw_and ha hb) fun σ H Q ⟨m, env, S, s, er, k⟩ => ⟨m, env, S, s, er, k.seq0 fun e H1 S1 x s1 he k1 => by
    show if x = true then _ else _
    cases x with
    | true => exact ⟨m ++ e, env, S1, s1, er.on he, k1.rest he fun _ _ _ _ _ q => q⟩
    | false => exact k1.fin s1 he⟩
theorem sw_or (ha : ST X W a ga) (hb : SW X W (.BoolOp .Or (b :: rest) pos) gb) : SW X W (.BoolOp .Or (a :: b :: rest) pos) (orF ga gb) :=
  pw_imp (pw_or ha hb) fun σ H Q ⟨m, env, S, s, er, k⟩ => ⟨m, env, S, s, er, k.seq0 fun e H1 S1 x s1 he k1 => by
    show if x = true then _ else _
    cases x with
    | true => exact k1.fin s1 he
    | false => exact ⟨m ++ e, env, S1, s1, er.on he, k1.rest he fun _ _ _ _ _ q => q⟩⟩
theorem st_w (h : SW X W a ga) : ST X W a ga := PW.pt h
theorem st_not (h : ST X W a ga) : ST X W (.UnaryOp .Not a pos) (notF ga) :=
  pt_imp (pt_not h) fun σ H Q ⟨m, env, S, s, er, k⟩ => ⟨m, env, S, s, er, k.seq0 fun e H1 S1 x s1 he k1 => k1.fin s1 he⟩
/-- .. as values, of truths -/
def andV (f g : FE) : FE := fun env S => (f env S).bind fun d S1 => match d with
  | .bl true => g env S1
  | .bl false => .ok (.bl false) S1
  | _ => .bad
def orV (f g : FE) : FE := fun env S => (f env S).bind fun d S1 => match d with
  | .bl true => .ok (.bl true) S1
  | .bl false => g env S1
  | _ => .bad
def notV (f : FE) : FE := fun env S => (f env S).bind fun d S1 => match d with
  | .bl b => .ok (.bl (!b)) S1
  | _ => .bad
theorem se_one {op} (h : SE X W a fa) : SE X W (.BoolOp op [a] pos) fa := pe_one h
theorem se_and (ha : SE X W a fa) (hb : SE X W (.BoolOp .And (b :: rest) pos) fb) : SE X W (.BoolOp .And (a :: b :: rest) pos) (andV fa fb) :=
  pe_imp (pe_and ha hb) fun σ H Q ⟨m, env, S, s, er, k⟩ => ⟨m, env, S, s, er, k.seq0 fun e H1 S1 x s1 he k1 v vr => by
    cases x with
    | bl b =>
      unfold VR at vr
      refine ⟨b, vr, ?_⟩
      cases b with
      | true => exact ⟨m ++ e, env, S1, s1, er.on he, k1.rest he fun _ _ _ _ h2 q => q⟩
      | false => exact k1.fin s1 he _ (by unfold VR; rfl)
    | _ => exact k1.elim⟩
theorem se_or (ha : SE X W a fa) (hb : SE X W (.BoolOp .Or (b :: rest) pos) fb) : SE X W (.BoolOp .Or (a :: b :: rest) pos) (orV fa fb) :=
  pe_imp (pe_or ha hb) fun σ H Q ⟨m, env, S, s, er, k⟩ => ⟨m, env, S, s, er, k.seq0 fun e H1 S1 x s1 he k1 v vr => by
    cases x with
    | bl b =>
      unfold VR at vr
      refine ⟨b, vr, ?_⟩
      cases b with
      | true => exact k1.fin s1 he _ (by unfold VR; rfl)
      | false => exact ⟨m ++ e, env, S1, s1, er.on he, k1.rest he fun _ _ _ _ h2 q => q⟩
    | _ => exact k1.elim⟩
theorem se_not (ha : SE X W a fa) : SE X W (.UnaryOp .Not a pos) (notV fa) :=
  pe_imp (pe_not ha) fun σ H Q ⟨m, env, S, s, er, k⟩ => ⟨m, env, S, s, er, k.seq0 fun e H1 S1 x s1 he k1 v vr => by
    cases x with
    | bl b =>
      unfold VR at vr
      exact ⟨b, vr, k1.fin s1 he _ (by unfold VR; rfl)⟩
    | _ => exact k1.elim⟩
def ifF (t : FT) (f g : FE) : FE := fun env S => (t env S).bind fun b S1 => if b = true then f env S1 else g env S1
theorem se_if {t : Expr} (ht : ST X W t ga) (ha : SE X W a fa) (hb : SE X W b fb) : SE X W (.IfExp t a b pos) (ifF ga fa fb) :=
  pe_imp (pe_ifExp ht ha hb) fun σ H Q ⟨m, env, S, s, er, k⟩ => ⟨m, env, S, s, er, k.seq0 fun e H1 S1 x s1 he k1 => by
    show if x = true then _ else _
    cases x with
    | true => exact ⟨m ++ e, env, S1, s1, er.on he, k1.rest he fun _ _ _ _ h2 q => q⟩
    | false => exact ⟨m ++ e, env, S1, s1, er.on he, k1.rest he fun _ _ _ _ h2 q => q⟩⟩
/-- a comparison that changes nothing -/
abbrev Prd := D → D → Sto → Option Bool
def prF (p : Prd) : Op2 := fun x y S => match p x y S with
  | some b => .ok (.bl b) S
  | none => .bad
def AdP (K : PySem.W.Frag) (r : R2) (p : Prd) : Prop :=
  ∀ (m : List Addr) (S : Sto) (H0 H : Hp) (x y : D) (v u : V) (b : Bool) (Q : VK), Sim K m S H → VX K H0 m H x v → VX K H0 m H y u → p x y S = some b → Q (.bl b) H → r v u H Q
theorem AdP.ad {K : PySem.W.Frag} {r : R2} {p : Prd} (h : AdP K r p) : Ad2 K r (prF p) := fun W σ m e S H0 H x y v u Q he s rx ry k => by
  unfold prF at k
  split at k
  · rename_i b q
    exact h _ S H0 H x y v u b Q s rx ry q (k.fin s he _ (by unfold VR; rfl))
  · exact k.elim
theorem sx_if {t : Expr} (ht : ST X W t ga) (ha : SX X W a fa) (hb : SX X W b fb) : SX X W (.IfExp t a b pos) (ifF ga fa fb) :=
  pe_imp (pe_ifExp ht ha hb) fun σ H Q ⟨m, env, S, s, er, k⟩ => ⟨m, env, S, s, er, k.seq0 fun e H1 S1 x s1 he k1 => by
    show if x = true then _ else _
    cases x with
    | true => exact ⟨m ++ e, env, S1, s1, er.on he, k1.rest he fun _ _ _ _ h2 q u ur => q u (ur.back he)⟩
    | false => exact ⟨m ++ e, env, S1, s1, er.on he, k1.rest he fun _ _ _ _ h2 q u ur => q u (ur.back he)⟩⟩
/-- a < b < c -/
def chF (p p' : Prd) (fa fb fc : FE) : FE := fun env S => (fa env S).bind fun x S1 => (fb env S1).bind fun y S2 => match p x y S2 with
  | some true => (fc env S2).bind fun w S4 => prF p' y w S4
  | some false => .ok (.bl false) S2
  | none => .bad
theorem to_chain {K : PySem.W.Frag} {r r' : R2} {p p' : Prd} (ad : AdP K r p) (ad' : AdP K r' p') {σ : L2.St} {H : Hp} {Q : VK} (h : TEf K W (chF p p' fa fb fc) σ H Q) : tChain r r' (TXf K W fa) (TXf K W fb) (TXf K W fc) σ H Q := by
  obtain ⟨m, env, S, s, er, k⟩ := h
  refine ⟨m, env, S, s, er, k.seq0 fun e H1 S1 x s1 he k1 v vr => ⟨m ++ e, env, S1, s1, er.on he, k1.seq he fun e2 H2 S2 y s2 h12 he2 k2 u ur => ?_⟩⟩
  have er2 := (er.on he).on2 h12
  split at k2
  · rename_i q
    refine ad _ S2 H H2 x y v u true _ s2 (vr.on2 h12) (ur.back he) q ⟨true, rfl, ?_⟩
    refine ⟨_, env, S2, s2, er2, k2.seq he2 fun e3 H3 S3 w s3 h23 he3 k3 z zr => ?_⟩
    exact ad'.ad W σ m _ S3 H H3 y w u z Q he3 s3 ((ur.back he).on2 h23) (zr.back he2) k3
  · rename_i q
    exact ad _ S2 H H2 x y v u false _ s2 (vr.on2 h12) (ur.back he) q ⟨false, rfl, k2.fin s2 he2 _ (by unfold VR; rfl)⟩
  · exact k2.elim
theorem se_chain {op op' : CmpOp} {r r' : R2} {f f' : Prd} (ho : OpR X (compareOp op) r) (ad : AdP X.K r f) (ho' : OpR X (compareOp op') r') (ad' : AdP X.K r' f') (ha : SX X W a fa) (hb : SX X W b fb) (hc : SX X W c fc)
    (hm : lastMarks [op, op'] [b, c] = false := by with_unfolding_all rfl) : SE X W (.Compare a [op, op'] [b, c] pos) (chF f f' fa fb fc) :=
  pe_imp (pe_chain ho ho' ha hb hc hm) fun σ H Q h => to_chain ad ad' h
theorem st_chain {op op' : CmpOp} {r r' : R2} {f f' : Prd} (ho : OpR X (compareOp op) r) (ad : AdP X.K r f) (ho' : OpR X (compareOp op') r') (ad' : AdP X.K r' f') (ha : SX X W a fa) (hb : SX X W b fb) (hc : SX X W c fc)
    (hm : lastMarks [op, op'] [b, c] = false := by with_unfolding_all rfl) : ST X W (.Compare a [op, op'] [b, c] pos) (tstF (chF f f' fa fb fc)) :=
  pt_imp (pt_chain ho ho' ha hb hc hm) fun σ H Q h => to_chain ad ad' (Q := fun x H' => ∃ k, x = .bl k ∧ Q k H') (to_tst h)
end

/-! ### numbers, texts -/
def iiF (C : Int → Int → Prop) [∀ i j, Decidable (C i j)] (g : Int → Int → D) : Op2 := fun x y S => match x, y with
  | .int i, .int j => if C i j then .ok (g i j) S else .bad
  | _, _ => .bad
def ii0 (g : Int → Int → D) : Op2 := fun x y S => match x, y with
  | .int i, .int j => .ok (g i j) S
  | _, _ => .bad
theorem VX.vr {K : PySem.W.Frag} {H0 : Hp} {m : List Addr} {H : Hp} {d : D} {v : V} (h : VX K H0 m H d v) (n : ∀ ds, d ≠ .tml ds) : VR K m H d v := by
  cases d <;> first | exact h | exact absurd rfl (n _)
section
variable {K : PySem.W.Frag}
theorem vx_int {H0 m H} {i : Int} {v : V} (h : VX K H0 m H (.int i) v) : v = .int i := by unfold VX VR at h; exact h
theorem vx_str {H0 m H} {i : Str} {v : V} (h : VX K H0 m H (.str i) v) : v = .str i := by unfold VX VR at h; exact h
theorem vx_bl {H0 m H} {i : Bool} {v : V} (h : VX K H0 m H (.bl i) v) : v = .bl i := by unfold VX VR at h; exact h
theorem vx_non {H0 m H} {v : V} (h : VX K H0 m H .non v) : v = .non := by unfold VX VR at h; exact h
theorem vr_int {m H} {i : Int} : VR K m H (.int i) (.int i) := by unfold VR; rfl
theorem vr_bl {m H} {i : Bool} : VR K m H (.bl i) (.bl i) := by unfold VR; rfl
theorem vr_str {m H} {i : Str} : VR K m H (.str i) (.str i) := by unfold VR; rfl
theorem vr_non {m H} : VR K m H .non .non := by unfold VR; rfl
end
section
variable {K : PySem.W.Frag}
theorem ad_ii0 {g : Int → Int → V} {gd : Int → Int → D} (hg : ∀ m H i j, VR K m H (gd i j) (g i j)) : Ad2 K (rI0 g) (ii0 gd) := by
  intro W σ m e S H0 H x y v u Q he s rx ry k
  unfold ii0 at k
  split at k
  · rename_i i j
    exact ⟨i, j, vx_int rx, vx_int ry, k.fin s he _ (hg _ H i j)⟩
  · exact k.elim
theorem ad_ii {C C' : Int → Int → Prop} [∀ i j, Decidable (C i j)] {g : Int → Int → V} {gd : Int → Int → D} (hC : ∀ i j, C i j → C' i j) (hg : ∀ m H i j, VR K m H (gd i j) (g i j)) : Ad2 K (rI C' g) (iiF C gd) := by
  intro W σ m e S H0 H x y v u Q he s rx ry k
  unfold iiF at k
  split at k
  · rename_i i j
    split at k
    · rename_i hc
      exact ⟨i, j, vx_int rx, vx_int ry, hC i j hc, k.fin s he _ (hg _ H i j)⟩
    · exact k.elim
  · exact k.elim
end
def oAdd : Op2 := ii0 fun i j => .int (i + j)
def oSub : Op2 := ii0 fun i j => .int (i - j)
def oMul : Op2 := iiF (fun i j => (-(2 ^ 64) < i ∧ i < 2 ^ 64) ∨ (-(2 ^ 64) < j ∧ j < 2 ^ 64)) fun i j => .int (i * j)
def oMod : Op2 := iiF (fun _ j => 0 < j) fun i j => .int (i % j)
def oDiv : Op2 := iiF (fun _ j => 0 < j ∧ j < 1073741824) fun i j => .int (i / j)
def oPow : Op2 := iiF (fun i j => 0 ≤ j ∧ j ≤ 1000000 ∧ i.natAbs < 2 ^ 64) fun i j => .int (i ^ j.toNat)
def pI (g : Int → Int → Bool) : Prd := fun x y _ => match x, y with
  | .int i, .int j => some (g i j)
  | _, _ => none
def pLt : Prd := pI fun i j => decide (i < j)
def pLe : Prd := pI fun i j => decide (i ≤ j)
def pGt : Prd := pI fun i j => decide (j < i)
def pGe : Prd := pI fun i j => decide (j ≤ i)
def pS (g : Str → Str → Bool) : Prd := fun x y _ => match x, y with
  | .str i, .str j => some (g i j)
  | _, _ => none
def pLeS : Prd := pS fun i j => !decide (j.cps.toList < i.cps.toList)
def pLtS : Prd := pS fun i j => decide (i.cps.toList < j.cps.toList)
def isNon : D → Bool
  | .non => true
  | _ => false
/-- is None, is not None -/
def pIsN : Prd := fun x y _ => match y with
  | .non => some (isNon x)
  | _ => none
def pNotN : Prd := fun x y _ => match y with
  | .non => some (!isNon x)
  | _ => none
section
variable {K : PySem.W.Frag}
theorem ad_add : Ad2 K (rI0 fun i j => .int (i + j)) oAdd := ad_ii0 fun _ _ _ _ => vr_int
theorem ad_sub : Ad2 K (rI0 fun i j => .int (i - j)) oSub := ad_ii0 fun _ _ _ _ => vr_int
theorem ad_mul : Ad2 K (rI CMul fun i j => .int (i * j)) oMul := ad_ii (fun _ _ h => h) fun _ _ _ _ => vr_int
theorem ad_mod : Ad2 K (rI (fun _ j => 0 < j) fun i j => .int (i % j)) oMod := ad_ii (fun _ _ h => h) fun _ _ _ _ => vr_int
theorem ad_div : Ad2 K (rI CDiv fun i j => .int (i / j)) oDiv := ad_ii (fun _ _ h => h) fun _ _ _ _ => vr_int
theorem ad_pow : Ad2 K (rI CPow fun i j => .int (i ^ j.toNat)) oPow := ad_ii (fun _ _ h => h) fun _ _ _ _ => vr_int
theorem ap_I {g : Int → Int → Bool} : AdP K (rI0 fun i j => .bl (g i j)) (pI g) := fun m S H0 H x y v u b Q s rx ry e q => by
  unfold pI at e
  split at e
  · rename_i i j
    have e' := Option.some.inj e
    exact ⟨i, j, vx_int rx, vx_int ry, by show Q (V.bl (g i j)) H; rw [e']; exact q⟩
  · cases e
theorem ap_lt : AdP K (rI0 fun i j => .bl (decide (i < j))) pLt := ap_I
theorem ap_le : AdP K (rI0 fun i j => .bl (decide (i ≤ j))) pLe := ap_I
theorem ap_gt : AdP K (rI0 fun i j => .bl (decide (j < i))) pGt := ap_I
theorem ap_ge : AdP K (rI0 fun i j => .bl (decide (j ≤ i))) pGe := ap_I
theorem ap_S {g : Str → Str → Bool} : AdP K (fun x y H Q => ∃ i j, x = .str i ∧ y = .str j ∧ Q (.bl (g i j)) H) (pS g) := fun m S H0 H x y v u b Q s rx ry e q => by
  unfold pS at e
  split at e
  · rename_i i j
    have e' := Option.some.inj e
    exact ⟨i, j, vx_str rx, vx_str ry, by rw [e']; exact q⟩
  · cases e
theorem ap_leS : AdP K (fun x y H Q => ∃ i j, x = .str i ∧ y = .str j ∧ Q (.bl (!decide (j.cps.toList < i.cps.toList))) H) pLeS := ap_S
theorem ap_ltS : AdP K (fun x y H Q => ∃ i j, x = .str i ∧ y = .str j ∧ Q (.bl (decide (i.cps.toList < j.cps.toList))) H) pLtS := ap_S
/-- the negative of a number -/
def oNeg : Op1 := fun x S => match x with
  | .int i => .ok (.int (-i)) S
  | _ => .bad
theorem ad_neg : Ad1 K (rU fun i => .int (-i)) oNeg := by
  intro W σ m e S H0 H x v Q he s rx k
  unfold oNeg at k
  split at k
  · exact ⟨_, vx_int rx, k.fin s he _ vr_int⟩
  · exact k.elim
def oCat : Op2 := fun x y S => match x, y with
  | .str i, .str j => if i.length + j.length ≤ 16777216 then .ok (.str (i ++ j)) S else .bad
  | _, _ => .bad
theorem ad_cat : Ad2 K (fun x y H Q => ∃ i j, x = .str i ∧ y = .str j ∧ i.length + j.length ≤ sizeLine ∧ Q (.str (i ++ j)) H) oCat := by
  intro W σ m e S H0 H x y v u Q he s rx ry k
  unfold oCat at k
  split at k
  · rename_i i j
    split at k
    · rename_i hc
      exact ⟨i, j, vx_str rx, vx_str ry, by rw [sizeLine_eq]; exact hc, k.fin s he _ vr_str⟩
    · exact k.elim
  · exact k.elim
theorem isNon_ok {H0 m H} {x : D} {v : V} (h : VX K H0 m H x v) : decide (v = .non) = isNon x := by
  cases x <;> (unfold VX at h; try unfold VR at h) <;> first | (subst h; rfl) | (obtain ⟨a, xs, rfl, _⟩ := h; rfl) | (obtain ⟨a, _, rfl⟩ := h; rfl)
theorem ap_isN : AdP K (fun x y H Q => y = .non ∧ Q (.bl (decide (x = .non))) H) pIsN := fun m S H0 H x y v u b Q s rx ry e q => by
  unfold pIsN at e
  split at e
  · have e' := Option.some.inj e
    exact ⟨vx_non ry, by rw [isNon_ok rx, e']; exact q⟩
  · cases e
theorem ap_notN : AdP K (fun x y H Q => y = .non ∧ Q (.bl (!decide (x = .non))) H) pNotN := fun m S H0 H x y v u b Q s rx ry e q => by
  unfold pNotN at e
  split at e
  · have e' := Option.some.inj e
    exact ⟨vx_non ry, by rw [isNon_ok rx, e']; exact q⟩
  · cases e
end

/-! ### argument lists -/
def nilA : FA := fun _ S => .ok [] S
def consA (f : FE) (g : FA) : FA := fun env S => (f env S).bind fun d S1 => (g env S1).bind fun ds S2 => .ok (d :: ds) S2
theorem VXs.back {K : PySem.W.Frag} {H0 H1 : Hp} {m m0 e0 : List Addr} {H : Hp} (he : HE m0 e0 H0 H1) : ∀ {ds : List D} {vs : List V}, VXs K H1 m H ds vs → VXs K H0 m H ds vs
  | [], _, h => h
  | d :: ds, _, h => by
    obtain ⟨v, r, rfl, a, b⟩ := h
    exact ⟨v, r, rfl, a.back he, VXs.back he b⟩
theorem VXs.length {K : PySem.W.Frag} {H0 : Hp} {m : List Addr} {H : Hp} : ∀ {ds : List D} {vs : List V}, VXs K H0 m H ds vs → vs.length = ds.length
  | [], _, h => by rw [show _ = [] from h]; rfl
  | d :: ds, _, h => by
    obtain ⟨v, r, rfl, a, b⟩ := h
    simp [VXs.length b]
section
variable {X : Cx} {W : WX} {e : Expr} {es : List Expr} {f : FE} {g : FA}
theorem sa_nil : SA X W [] nilA := pa_imp pa_nil fun σ H Q ⟨m, env, S, s, er, k⟩ => k.now s [] VRs.nil
theorem sa_cons (ha : SE X W e f) (hr : SA X W es g) (hs : starEach (e :: es) X.env = (false, eval e X.env) :: starEach es X.env := by rfl) : SA X W (e :: es) (consA f g) :=
  pa_imp (pa_cons ha hr hs) fun σ H Q ⟨m, env, S, s, er, k⟩ => ⟨m, env, S, s, er, k.seq0 fun e1 H1 S1 x s1 he k1 v vr => ⟨m ++ e1, env, S1, s1, er.on he, k1.seq he fun e2 H2 S2 xs s2 h12 he2 k2 vs vrs => k2.fin s2 he2 _ (VRs.cons (vr.on2 h12) vrs)⟩⟩
theorem sb_nil : SB X W [] nilA := pa_imp pa_nil fun σ H Q ⟨m, env, S, s, er, k⟩ => k.now s [] VXs.nil
theorem sb_cons (ha : SX X W e f) (hr : SB X W es g) (hs : starEach (e :: es) X.env = (false, eval e X.env) :: starEach es X.env := by rfl) : SB X W (e :: es) (consA f g) :=
  pa_imp (pa_cons ha hr hs) fun σ H Q ⟨m, env, S, s, er, k⟩ => ⟨m, env, S, s, er, k.seq0 fun e1 H1 S1 x s1 he k1 v vr => ⟨m ++ e1, env, S1, s1, er.on he, k1.seq he fun e2 H2 S2 xs s2 h12 he2 k2 vs vrs => k2.fin s2 he2 _ (VXs.cons (vr.on2 h12) (vrs.back he))⟩⟩
end
end Ah

set_option maxHeartbeats 1000000
namespace Ah
open PySem PySem.Spec PyProof.Rows L2

/-! ### what a value holds -/
def seqD (S : Sto) : D → Option (List D)
  | .tup ds => some ds
  | .rls ds => some ds
  | .tml ds => some ds
  | .ref i => match S[i]? with
    | some (.lst ds) => some ds
    | _ => none
  | _ => none
def lstD (S : Sto) : D → Option (List D)
  | .rls ds => some ds
  | .tml ds => some ds
  | .ref i => match S[i]? with
    | some (.lst ds) => some ds
    | _ => none
  | _ => none
/-- a list that may change -/
def mlsD (S : Sto) : D → Option (List D)
  | .tml ds => some ds
  | .ref i => match S[i]? with
    | some (.lst ds) => some ds
    | _ => none
  | _ => none
def dctD (S : Sto) : D → Option (List (Key × D))
  | .ref i => match S[i]? with
    | some (.dct _ ks) => some ks
    | _ => none
  | _ => none
def keyD : D → Option Key
  | .int i => some (.inl i)
  | .str x => some (.inr x)
  | _ => none
section
variable {K : PySem.W.Frag} {m : List Addr} {S : Sto} {H0 H : Hp} {d : D} {v : V} {ds : List D}
theorem mls_ok (s : Sim K m S H) (r : VX K H0 m H d v) (h : mlsD S d = some ds) : ∃ p xs, v = .ref p ∧ H p = some (.lst xs) ∧ VRs K m H ds xs := by
  cases d with
  | tml es =>
    obtain ⟨p, xs, e1, _, hp, _, q⟩ := r
    cases (Option.some.inj h)
    exact ⟨p, xs, e1, hp, q⟩
  | ref i =>
    unfold VX VR at r
    obtain ⟨a, ha, rfl⟩ := r
    unfold mlsD at h
    dsimp only at h
    split at h
    · rename_i es q
      cases (Option.some.inj h)
      obtain ⟨a', ha', o⟩ := s.at_ q
      rw [ha] at ha'
      cases ha'
      obtain ⟨xs, r, hp⟩ := o
      exact ⟨a, xs, rfl, hp, r⟩
    · cases h
  | _ => cases h
theorem lst_ok (s : Sim K m S H) (r : VX K H0 m H d v) (h : lstD S d = some ds) : ∃ p xs, v = .ref p ∧ SqL K H p xs ∧ VRs K m H ds xs := by
  cases d with
  | rls es =>
    unfold VX VR at r
    obtain ⟨p, xs, e1, q, r⟩ := r
    cases (Option.some.inj h)
    exact ⟨p, xs, e1, q.sqL, r⟩
  | tml es =>
    obtain ⟨p, xs, e1, hp, q⟩ := mls_ok (ds := ds) s r h
    exact ⟨p, xs, e1, SqL.of hp, q⟩
  | ref i =>
    obtain ⟨p, xs, e1, hp, q⟩ := mls_ok (ds := ds) s r h
    exact ⟨p, xs, e1, SqL.of hp, q⟩
  | _ => cases h
theorem seq_ok (s : Sim K m S H) (r : VX K H0 m H d v) (h : seqD S d = some ds) : ∃ p xs, v = .ref p ∧ (SqL K H p xs ∨ SqT K H p xs) ∧ VRs K m H ds xs := by
  cases d with
  | tup es =>
    unfold VX VR at r
    obtain ⟨p, xs, e1, q, r⟩ := r
    cases (Option.some.inj h)
    exact ⟨p, xs, e1, .inr q, r⟩
  | rls es =>
    obtain ⟨p, xs, e1, hp, q⟩ := lst_ok (ds := ds) s r h
    exact ⟨p, xs, e1, .inl hp, q⟩
  | tml es =>
    obtain ⟨p, xs, e1, hp, q⟩ := lst_ok (ds := ds) s r h
    exact ⟨p, xs, e1, .inl hp, q⟩
  | ref i =>
    obtain ⟨p, xs, e1, hp, q⟩ := lst_ok (ds := ds) s r h
    exact ⟨p, xs, e1, .inl hp, q⟩
  | _ => cases h
theorem tup_ok (r : VX K H0 m H (.tup ds) v) : ∃ p xs, v = .ref p ∧ SqT K H p xs ∧ VRs K m H ds xs := by
  unfold VX VR at r
  exact r
theorem dct_ok {ks : List (Key × D)} (s : Sim K m S H) (r : VX K H0 m H d v) (h : dctD S d = some ks) : ∃ p kvs, v = .ref p ∧ Rd H p (.dK kvs) ∧ KR K m H ks kvs := by
  cases d with
  | ref i =>
    unfold VX VR at r
    obtain ⟨a, ha, rfl⟩ := r
    unfold dctD at h
    dsimp only at h
    split at h
    · rename_i lk es q
      cases (Option.some.inj h)
      obtain ⟨a', ha', o⟩ := s.at_ q
      rw [ha] at ha'
      cases ha'
      obtain ⟨kvs, r, hp⟩ := o
      refine ⟨a, kvs, rfl, ?_, r⟩
      split at hp
      · exact .inr hp
      · exact .inl hp
    · cases h
  | _ => cases h
theorem key_ok {k : Key} (r : VX K H0 m H d v) (h : keyD d = some k) : v = kV k := by
  cases d with
  | int i => cases (Option.some.inj h); exact vx_int r
  | str i => cases (Option.some.inj h); exact vx_str r
  | _ => cases h
end
theorem seqD_tup {S : Sto} {ds : List D} : seqD S (.tup ds) = some ds := rfl
theorem seqD_tml {S : Sto} {ds : List D} : seqD S (.tml ds) = some ds := rfl

/-! ### displays -/
/-- arguments of a known number -/
def LenA (g : FA) (n : Nat) : Prop := ∀ env S ds S1, g env S = .ok ds S1 → ds.length = n
theorem lenA_nil : LenA nilA 0 := fun _ _ ds _ h => by cases h; rfl
theorem lenA_cons {f : FE} {g : FA} {n : Nat} (h : LenA g n) : LenA (consA f g) (n + 1) := fun env S ds S1 e => by
  unfold consA at e
  cases q : f env S with
  | ok d S2 =>
    rw [q, R.bind_ok] at e
    cases q2 : g env S2 with
    | ok es S3 =>
      rw [q2, R.bind_ok] at e
      cases e
      simp [h _ _ _ _ q2]
    | ex => rw [q2] at e; cases e
    | bad => rw [q2] at e; cases e
  | ex => rw [q] at e; cases e
  | bad => rw [q] at e; cases e
def tupF (g : FA) : FE := fun env S => (g env S).bind fun ds S1 => .ok (.tup ds) S1
def lstF (g : FA) : FE := fun env S => (g env S).bind fun ds S1 => .ok (.tml ds) S1
section
variable {X : Cx} {W : WX} {pos : Pos} {es : List Expr} {g : FA} {n : Nat}
/-- a new tuple stands -/
theorem vr_tup {K : PySem.W.Frag} {m : List Addr} {H : Hp} {ds : List D} {xs : List V} {p : Addr} (h : H p = none) (r : VRs K m H ds xs) : VR K m (upd H p (.tup xs)) (.tup ds) (.ref p) := by
  unfold VR
  exact ⟨p, xs, rfl, SqT.of upd_same, r.mono Gr.refl (TK.new h)⟩
theorem vx_tml {K : PySem.W.Frag} {H0 : Hp} {m e : List Addr} {H : Hp} {S : Sto} {ds : List D} {xs : List V} {p : Addr} (he : HE m e H0 H) (s : Sim K (m ++ e) S H) (h : H p = none) (r : VRs K (m ++ e) H ds xs) : VX K H0 (m ++ e) (upd H p (.lst xs)) (.tml ds) (.ref p) :=
  ⟨p, xs, rfl, he.free h, upd_same, s.notin h, r.mono Gr.refl (TK.new h)⟩
/-- laid beside the store -/
theorem HE.beside {m e : List Addr} {H0 H : Hp} {p : Addr} {o : HO} (he : HE m e H0 H) (h : H p = none) : HE m e H0 (upd H p o) := by
  have := he.trans (e2 := []) (HE.laid (m := m ++ e) (o := o) h)
  simpa using this
theorem se_tup {x1} (h : SA X W es g) (hl : LenA g n) (hn : n ≤ 1000 := by decide) : SE X W (.Tuple es x1 pos) (tupF g) := pe_imp (pe_tup h) fun σ H Q ⟨m, env, S, s, er, k⟩ => ⟨m, env, S, s, er, by
  unfold tupF at k
  cases q : g env S with
  | ok ds S1 =>
    rw [q, R.bind_ok] at k
    intro H1 e s1 he vs vr
    refine ⟨?_, fun p hp => ?_⟩
    · rw [vr.length, hl _ _ _ _ q, sizeLine_eq]; omega
    · exact k _ e (s1.other hp) (he.beside hp) _ (vr_tup hp vr)
  | ex => rw [q] at k; exact k
  | bad => rw [q] at k; exact k⟩
theorem sx_lst (h : SA X W es g) (hl : LenA g n) (hn : n ≤ 1000 := by decide) : SX X W (.List es pos) (lstF g) := pe_imp (pe_lst h) fun σ H Q ⟨m, env, S, s, er, k⟩ => ⟨m, env, S, s, er, by
  unfold lstF at k
  cases q : g env S with
  | ok ds S1 =>
    rw [q, R.bind_ok] at k
    intro H1 e s1 he vs vr
    refine ⟨?_, fun p hp => ?_⟩
    · rw [vr.length, hl _ _ _ _ q, sizeLine_eq]; omega
    · exact k _ e (s1.other hp) (he.beside hp) _ (vx_tml he s1 hp vr)
  | ex => rw [q] at k; exact k
  | bad => rw [q] at k; exact k⟩
end

/-! ### an item, a slice -/
theorem VRs.atI {K : PySem.W.Frag} {m : List Addr} {H : Hp} {ds : List D} {xs : List V} {i : Int} {d : D} (r : VRs K m H ds xs) (h : atI ds i = some d) : ∃ v, atI xs i = some v ∧ VR K m H d v := by
  unfold L2.atI at h ⊢
  rw [r.length]
  cases q : ixN ds.length i with
  | none => rw [q] at h; cases h
  | some j =>
    rw [q] at h
    exact r.get h
def ixF : Op2 := fun x y S => match x, y with
  | .str z, .int i => if z.length ≤ 16777216 then (match atI z.cps.toList i with
      | some c => .ok (.str ⟨#[c]⟩) S
      | none => .bad) else .bad
  | x, y => match seqD S x, y with
    | some ds, .int i => (match atI ds i with
      | some d => .ok d S
      | none => .bad)
    | _, y => match dctD S x, keyD y with
      | some ks, some k => (match valD ks k with
        | some d => .ok d S
        | none => .bad)
      | _, _ => .bad
/-- d[k], by values -/
def rDG : R2 := fun x y H Q => ∃ a v, x = .ref a ∧ DGet H a y (some v) ∧ Q v H
theorem ix_dict {X : Cx} (hu : X.A.units + 1 < cLine) : IxR X rDG := by
  intro value slice pins s σ H x y v u Q I rx ry h hs
  obtain ⟨a, z, rfl, g, q⟩ := h
  cases rx
  refine tail_any (dict_typeIs I g) PySem.F.slot_dict_getitem.lookup ?_ hs
  exact d_getItem hu I g ry fun w' s' I' r' => ⟨z, H, I', r', q⟩
abbrev rIxD (K : PySem.W.Frag) : R2 := fun x y H Q => rIx K x y H Q ∨ rDG x y H Q
theorem ix_any {X : Cx} (hu : X.A.units + 1 < cLine) : IxR X (rIxD X.K) := IxR.or ix_seq (ix_dict hu)
theorem ad_ix {K : PySem.W.Frag} : Ad2 K (rIxD K) ixF := by
  intro W σ m e S H0 H x y v u Q he s rx ry k
  have seqs : ∀ ds i, seqD S x = some ds → y = .int i → (match atI ds i with
      | some d => KG K W σ (PQ K Q) m H0 (.ok d S)
      | none => False) → rIxD K v u H Q := fun ds i h1 h2 h3 => by
    subst h2
    split at h3
    · rename_i d q
      obtain ⟨p, xs, rfl, sq, r⟩ := seq_ok s rx h1
      obtain ⟨w, e1, r1⟩ := r.atI q
      have fin := h3.fin s he w r1
      rcases sq with sq | sq
      · exact .inl (.inl ⟨p, xs, i, w, rfl, vx_int ry, sq, e1, fin⟩)
      · exact .inl (.inr (.inl ⟨p, xs, i, w, rfl, vx_int ry, sq, e1, fin⟩))
    · exact h3.elim
  have dcts : (match dctD S x, keyD y with
      | some ks, some kk => (match valD ks kk with
        | some d => KG K W σ (PQ K Q) m H0 (.ok d S)
        | none => False)
      | _, _ => False) → rIxD K v u H Q := fun h => by
    split at h
    · rename_i ks kk h1 h2
      split at h
      · rename_i d q
        obtain ⟨p, kvs, rfl, rd, r⟩ := dct_ok s rx h1
        obtain ⟨w, e1, r1⟩ := r.val.1 d q
        exact .inr ⟨p, w, rfl, .inl ⟨kvs, kk, rd, key_ok ry h2, e1.symm⟩, h.fin s he w r1⟩
      · exact h.elim
    · exact h.elim
  unfold ixF at k
  split at k
  · rename_i z i
    split at k
    · rename_i hz
      split at k
      · rename_i c q
        exact .inl (.inr (.inr ⟨z, i, c, vx_str rx, vx_int ry, by rw [sizeLine_eq]; exact hz, q, k.fin s he _ vr_str⟩))
      · exact k.elim
    · exact k.elim
  · split at k
    · rename_i ds i h1 _
      refine seqs ds i h1 rfl ?_
      split at k
      · exact k
      · exact k.elim
    · refine dcts ?_
      split at k
      · split at k
        · exact k
        · exact k.elim
      · exact k.elim
section
variable {X : Cx} {W : WX} {pos p2 : Pos} {a b : Expr} {fa fb : FE}
theorem se_ix (hu : X.A.units + 1 < cLine) (ha : SX X W a fa) (hb : SX X W b fb) (hs : PlainIx b := by exact fun _ _ => rfl) : SE X W (.Subscript a b pos) (opF ixF fa fb) :=
  pe_imp (pe_ix (ix_any hu) ha hb hs) fun σ H Q h => to_op ad_ix h
/-- a slice's part -/
abbrev FO := En → Sto → R (Option Int)
def TOf (K : PySem.W.Frag) (W : WX) (f : FO) : TO := fun σ H Q => ∃ m env S, Sim K m S H ∧ ER K m H env σ ∧ KG K W σ (fun _ H _ o => Q o H) m H (f env S)
def noO : FO := fun _ S => .ok none S
def soO (f : FE) : FO := fun env S => (f env S).bind fun d S1 => match d with
  | .int i => .ok (some i) S1
  | _ => .bad
theorem to_none : PO X none (TOf X.K W noO) := ⟨fun pins s σ H Q I ⟨m, env, S, s1, er, k⟩ => po_none.run pins s σ H Q I (k.now s1)⟩
theorem to_some {e : Expr} {f : FE} (h : SE X W e f) : PO X (some e) (TOf X.K W (soO f)) := ⟨fun pins s σ H Q I ⟨m, env, S, s1, er, k⟩ => (po_some h).run pins s σ H Q I ⟨m, env, S, s1, er, k.seq0 fun e1 H1 S1 x s1 he k1 v vr => by
  cases x with
  | int i => exact ⟨i, by unfold VR at vr; exact vr, k1.fin s1 he⟩
  | _ => exact k1.elim⟩⟩
def cutD (xs : List D) (lo hi : Option Int) : List D := (xs.drop (HT.sIx xs.length 0 lo)).take (HT.sIx xs.length xs.length hi - HT.sIx xs.length 0 lo)
theorem VRs.cut {K : PySem.W.Frag} {m : List Addr} {H : Hp} {ds : List D} {xs : List V} (r : VRs K m H ds xs) (lo hi : Option Int) : VRs K m H (cutD ds lo hi) (cutV xs lo hi) := by
  unfold cutD cutV
  rw [r.length]
  exact (r.drop _).take _
def slD (S : Sto) (x : D) (lo hi : Option Int) : R D := match x with
  | .str z => if z.length ≤ 16777216 then .ok (.str (cutS z lo hi)) S else .bad
  | .tup ds => .ok (.tup (cutD ds lo hi)) S
  | x => match lstD S x with
    | some ds => .ok (.tml (cutD ds lo hi)) S
    | none => .bad
def slF (fa : FE) (lo hi : FO) : FE := fun env S => (fa env S).bind fun x S1 => (lo env S1).bind fun l S2 => (hi env S2).bind fun u S3 => slD S3 x l u
abbrev rSl (K : PySem.W.Frag) : V → Option Int → Option Int → Hp → VK → Prop := fun x lo hi H Q => (rSlL K x lo hi H Q ∨ rSlA K x lo hi H Q) ∨ rSlS x lo hi H Q
theorem sx_sl {lo hi : Option Expr} {fl fh : FO} (ha : SX X W a fa) (hl : PO X lo (TOf X.K W fl)) (hh : PO X hi (TOf X.K W fh)) : SX X W (.Subscript a (.Slice lo hi none p2) pos) (slF fa fl fh) :=
  pe_imp (pe_slice ((sl_list.or sl_tupA).or sl_str) ha hl hh) fun σ H Q ⟨m, env, S, s, er, k⟩ => ⟨m, env, S, s, er, k.seq0 fun e H1 S1 x s1 he k1 v vr => ⟨m ++ e, env, S1, s1, er.on he, k1.seq he fun e2 H2 S2 l s2 h12 he2 k2 => by
    have er2 := (er.on he).on2 h12
    have vr2 := vr.on2 h12
    refine ⟨_, env, S2, s2, er2, k2.seq he2 fun e3 H3 S3 u s3 h23 he3 k3 => ?_⟩
    have vr3 := vr2.on2 h23
    have lists : ∀ ds, lstD S3 x = some ds → KG X.K W σ (PV X.K Q H) m H (.ok (.tml (cutD ds l u)) S3) → rSl X.K v l u H3 Q := fun ds h1 h2 => by
      obtain ⟨p, xs, rfl, sq, r⟩ := lst_ok s3 vr3 h1
      exact .inl (.inl ⟨p, xs, rfl, sq, fun q hq => h2.fin (s3.other hq) (he3.beside hq) _ (vx_tml he3 s3 hq (r.cut l u))⟩)
    unfold slD at k3
    split at k3
    · rename_i z
      split at k3
      · rename_i hz
        exact .inr ⟨z, vx_str vr3, by rw [sizeLine_eq]; exact hz, k3.fin s3 he3 _ (VX.of vr_str)⟩
      · exact k3.elim
    · rename_i ds
      obtain ⟨p, xs, rfl, sq, r⟩ := tup_ok vr3
      refine .inl (.inr ⟨p, xs, rfl, sq, fun ⟨z1, z2⟩ => ?_, fun _ q hq => ?_⟩)
      · have e1 : cutD ds l u = ds := by
          unfold cutD
          rw [r.length] at z1 z2
          rw [z1, z2]
          simp
        rw [e1] at k3
        exact k3.fin s3 he3 _ vr3
      · exact k3.fin (s3.other hq) (he3.beside hq) _ (VX.of (vr_tup hq (r.cut l u)))
    · split at k3
      · rename_i ds h1
        exact lists ds h1 k3
      · exact k3.elim⟩⟩
end
end Ah

set_option maxHeartbeats 1000000
namespace Ah
open PySem PySem.Spec PyProof.Rows L2

/-! ### data as the library has it -/
mutual
def toP : D → Option PyData
  | .non => some .none
  | .bl b => some (.bool b)
  | .int i => some (.int i)
  | .str x => some (.str x)
  | .tup ds => (toPs ds).map .tuple
  | .rls ds => (toPs ds).map .list
  | .tml _ => none
  | .ref _ => none
  | .glb _ => none
  | .ty _ => none
  | .adr _ => none
def toPs : List D → Option (List PyData)
  | [] => some []
  | d :: ds => match toP d, toPs ds with
    | some p, some ps => some (p :: ps)
    | _, _ => none
end
def pdS (S : Sto) : D → Option PyData
  | .ref i => match S[i]? with
    | some (.lst ds) => (toPs ds).map .list
    | _ => none
  | .tml ds => (toPs ds).map .list
  | d => toP d
section
variable {K : PySem.W.Frag} {m : List Addr} {S : Sto} {H0 H : Hp}
mutual
theorem toP_ok : ∀ {d : D} {p : PyData} {v : V}, toP d = some p → VR K m H d v → Dp K H v p
  | .non, _, _, e, r => by
    unfold toP at e; cases e
    unfold VR at r; subst r
    exact .non
  | .bl b, _, _, e, r => by
    unfold toP at e; cases e
    unfold VR at r; subst r
    exact .bl b
  | .int b, _, _, e, r => by
    unfold toP at e; cases e
    unfold VR at r; subst r
    exact .int b
  | .str b, _, _, e, r => by
    unfold toP at e; cases e
    unfold VR at r; subst r
    exact .str b
  | .tup ds, p, _, e, r => by
    unfold toP at e
    unfold VR at r
    obtain ⟨a, xs, rfl, q, r⟩ := r
    cases z : toPs ds with
    | none => rw [z] at e; cases e
    | some ps =>
      rw [z] at e; cases e
      exact .tup q (toPs_ok z r)
  | .rls ds, p, _, e, r => by
    unfold toP at e
    unfold VR at r
    obtain ⟨a, xs, rfl, q, r⟩ := r
    cases z : toPs ds with
    | none => rw [z] at e; cases e
    | some ps =>
      rw [z] at e; cases e
      exact .lst q.sqL (toPs_ok z r)
  | .tml _, _, _, e, _ => by unfold toP at e; cases e
  | .ref _, _, _, e, _ => by unfold toP at e; cases e
  | .glb _, _, _, e, _ => by unfold toP at e; cases e
  | .ty _, _, _, e, _ => by unfold toP at e; cases e
  | .adr _, _, _, e, _ => by unfold toP at e; cases e
theorem toPs_ok : ∀ {ds : List D} {ps : List PyData} {vs : List V}, toPs ds = some ps → VRs K m H ds vs → DpAll K H vs ps
  | [], _, _, e, r => by
    unfold toPs at e; cases e
    rw [VRs.nil_iff.mp r]
    exact .nil
  | d :: ds, _, _, e, r => by
    obtain ⟨v, r', rfl, a, b⟩ := VRs.cons_iff.mp r
    unfold toPs at e
    cases z : toP d with
    | none => rw [z] at e; cases e
    | some p =>
      cases z2 : toPs ds with
      | none => rw [z, z2] at e; cases e
      | some ps =>
        rw [z, z2] at e; cases e
        exact .cons (toP_ok z a) (toPs_ok z2 b)
end
theorem pdS_ok {d : D} {p : PyData} {v : V} (s : Sim K m S H) (e : pdS S d = some p) (r : VX K H0 m H d v) : Dp K H v p := by
  have lists : ∀ ds, (toPs ds).map PyData.list = some p → mlsD S d = some ds → Dp K H v p := fun ds e1 e2 => by
    obtain ⟨a, xs, rfl, hp, r⟩ := mls_ok s r e2
    cases z : toPs ds with
    | none => rw [z] at e1; cases e1
    | some ps =>
      rw [z] at e1; cases e1
      exact .lst (SqL.of hp) (toPs_ok z r)
  cases d with
  | ref i =>
    unfold pdS at e
    dsimp only at e
    split at e
    · rename_i ds q
      exact lists ds e (by unfold mlsD; dsimp only; rw [q])
    · cases e
  | tml ds => exact lists ds e rfl
  | _ => exact toP_ok (m := m) e r
end
/-- == of plain things -/
def eqS : D → D → Option Bool
  | .non, .non => some true
  | .non, .int _ => some false
  | .int _, .non => some false
  | .non, .bl _ => some false
  | .bl _, .non => some false
  | .non, .str _ => some false
  | .str _, .non => some false
  | .int i, .int j => some (decide (i = j))
  | .bl i, .bl j => some (decide (i = j))
  | .str i, .str j => some (decide (i = j))
  | .int _, .str _ => some false
  | .str _, .int _ => some false
  | .bl _, .str _ => some false
  | .str _, .bl _ => some false
  | _, _ => none
theorem eqS_ok {K : PySem.W.Frag} {m : List Addr} {H0 H : Hp} {x y : D} {v u : V} {b : Bool} (rx : VX K H0 m H x v) (ry : VX K H0 m H y u) (e : eqS x y = some b) : scal v u = true ∧ decide (v = u) = b := by
  cases x <;> cases y <;> first
    | (cases e; done)
    | (unfold VX VR at rx ry; subst rx ry; cases e; exact ⟨rfl, by simp⟩)
def pEq : Prd := fun x y S => match eqS x y with
  | some b => some b
  | none => match pdS S x, pdS S y with
    | some p, some q => if SeqAt.shaped p && SeqAt.shaped q then some (PyData.eqv p q) else none
    | _, _ => none
def pNe : Prd := fun x y S => (pEq x y S).map (!·)
section
variable {K : PySem.W.Frag}
theorem ap_eq : AdP K (fun x y H Q => rEq x y H Q ∨ rEqD K x y H Q) pEq := fun m S H0 H x y v u b Q s rx ry e q => by
  unfold pEq at e
  split at e
  · rename_i b' h
    cases e
    obtain ⟨h1, h2⟩ := eqS_ok rx ry h
    exact .inl ⟨h1, by rw [h2]; exact q⟩
  · split at e
    · rename_i p1 p2 h1 h2
      split at e
      · rename_i hs
        cases e
        obtain ⟨s1, s2⟩ := Bool.and_eq_true_iff.mp hs
        exact .inr ⟨p1, p2, pdS_ok s h1 rx, pdS_ok s h2 ry, s1, s2, q⟩
      · cases e
    · cases e
theorem ap_ne : AdP K (fun x y H Q => rNe x y H Q ∨ rNeD K x y H Q) pNe := fun m S H0 H x y v u b Q s rx ry e q => by
  unfold pNe at e
  cases z : pEq x y S with
  | none => rw [z] at e; cases e
  | some c =>
    rw [z] at e
    cases e
    unfold pEq at z
    split at z
    · rename_i b' h
      cases z
      obtain ⟨h1, h2⟩ := eqS_ok rx ry h
      exact .inl ⟨h1, by rw [h2]; exact q⟩
    · split at z
      · rename_i p1 p2 h1 h2
        split at z
        · rename_i hs
          cases z
          obtain ⟨s1, s2⟩ := Bool.and_eq_true_iff.mp hs
          exact .inr ⟨p1, p2, pdS_ok s h1 rx, pdS_ok s h2 ry, s1, s2, q⟩
        · cases z
      · cases z
end

/-! ### in -/
def flatD : D → Bool
  | .non => true
  | .bl _ => true
  | .int _ => true
  | .str _ => true
  | _ => false
/-- == of flat things -/
def eqD : D → D → Bool
  | .non, .non => true
  | .bl a, .bl b => a == b
  | .bl a, .int b => (if a then 1 else 0) == b
  | .int a, .bl b => a == (if b then 1 else 0)
  | .int a, .int b => a == b
  | .str a, .str b => a == b
  | _, _ => false
def sign1 (x : Str) : Option Nat := if x.cps.size = 1 then x.cps[0]? else none
def pIn : Prd := fun x y S => match x, y with
  | .str i, .str z => (sign1 i).map fun c => decide (c ∈ z.cps.toList)
  | x, y => match seqD S y with
    | some ds => if flatD x && ds.all flatD then some (ds.any fun y => eqD y x) else none
    | none => match dctD S y, keyD x with
      | some ks, some k => some (valD ks k).isSome
      | _, _ => none
def pNi : Prd := fun x y S => (pIn x y S).map (!·)
section
variable {K : PySem.W.Frag} {m : List Addr} {H0 H : Hp}
theorem flat_ok {x : D} {v : V} (r : VR K m H x v) (h : flatD x = true) : flatV v = true := by
  cases x <;> first | (cases h; done) | (unfold VR at r; subst r; rfl)
theorem eqD_ok {x y : D} {v u : V} (r : VR K m H x v) (r' : VR K m H y u) (h : flatD x = true) (h' : flatD y = true) : eqV v u = eqD x y := by
  cases x <;> first | (cases h; done) | skip
  all_goals cases y <;> first | (cases h'; done) | (unfold VR at r r'; subst r r'; rfl)
theorem flats_ok : ∀ {ds : List D} {vs : List V}, VRs K m H ds vs → ds.all flatD = true → vs.all flatV = true
  | [], _, r, _ => by rw [VRs.nil_iff.mp r]; rfl
  | d :: ds, _, r, h => by
    obtain ⟨v, r', rfl, a, b⟩ := VRs.cons_iff.mp r
    rw [List.all_cons, Bool.and_eq_true] at h ⊢
    exact ⟨flat_ok a h.1, flats_ok b h.2⟩
theorem in_ok {x : D} {v : V} (rx : VR K m H x v) (hx : flatD x = true) : ∀ {ds : List D} {vs : List V}, VRs K m H ds vs → ds.all flatD = true → inV v vs = (ds.any fun y => eqD y x)
  | [], _, r, _ => by rw [VRs.nil_iff.mp r]; rfl
  | d :: ds, _, r, h => by
    obtain ⟨u, r', rfl, a, b⟩ := VRs.cons_iff.mp r
    rw [List.all_cons, Bool.and_eq_true] at h
    have ih := in_ok rx hx b h.2
    unfold inV at ih ⊢
    rw [List.any_cons, List.any_cons, ih, eqD_ok a rx h.1 hx]
theorem sign1_ok {x : Str} {c : Nat} (h : sign1 x = some c) : x = ⟨#[c]⟩ := by
  unfold sign1 at h
  split at h
  · rename_i hs
    obtain ⟨a⟩ := x
    obtain ⟨l⟩ := a
    match l, hs, h with
    | [y], _, h => simp at h; rw [h]
  · cases h
abbrev rInA (K : PySem.W.Frag) : R2 := fun x y H Q => (rIn K false x y H Q ∨ (∃ (c : Nat) (z : Str), x = .str ⟨#[c]⟩ ∧ y = .str z ∧ Q (.bl (decide (c ∈ z.cps.toList))) H)) ∨ ∃ a o, y = .ref a ∧ DGet H a x o ∧ Q (.bl o.isSome) H
abbrev rNiA (K : PySem.W.Frag) : R2 := fun x y H Q => (rIn K true x y H Q ∨ (∃ (c : Nat) (z : Str), x = .str ⟨#[c]⟩ ∧ y = .str z ∧ Q (.bl (!decide (c ∈ z.cps.toList))) H)) ∨ ∃ a o, y = .ref a ∧ DGet H a x o ∧ Q (.bl (!o.isSome)) H
theorem op_in_dict {X : Cx} (hu : X.A.units + 1 < cLine) : OpR X (compareOp .In) (fun x y H Q => ∃ a o, y = .ref a ∧ DGet H a x o ∧ Q (.bl o.isSome) H) := by
  intro pins s σ H x y v u Q I rx ry h
  obtain ⟨a, o, rfl, g, q⟩ := h
  cases ry
  exact d_in hu I g rx fun s' I' => ⟨.bl o.isSome, H, I', rfl, q⟩
theorem op_ni_dict {X : Cx} (hu : X.A.units + 1 < cLine) : OpR X (compareOp .NotIn) (fun x y H Q => ∃ a o, y = .ref a ∧ DGet H a x o ∧ Q (.bl (!o.isSome)) H) := by
  intro pins s σ H x y v u Q I rx ry h
  obtain ⟨a, o, rfl, g, q⟩ := h
  cases ry
  exact d_notIn hu I g rx fun s' I' => ⟨.bl (!o.isSome), H, I', rfl, q⟩
theorem op_in {X : Cx} (hu : X.A.units + 1 < cLine) : OpR X (compareOp .In) (rInA X.K) := (op_in_seq.or op_in_sign).or (op_in_dict hu)
theorem op_ni {X : Cx} (hu : X.A.units + 1 < cLine) : OpR X (compareOp .NotIn) (rNiA X.K) := (op_notIn_seq.or op_notIn_sign).or (op_ni_dict hu)
theorem in_all {S : Sto} {x y : D} {v u : V} {b : Bool} (s : Sim K m S H) (rx : VX K H0 m H x v) (ry : VX K H0 m H y u) (e : pIn x y S = some b) :
    (∃ p xs, u = .ref p ∧ (SqL K H p xs ∨ SqT K H p xs) ∧ flatV v = true ∧ xs.all flatV = true ∧ inV v xs = b) ∨ (∃ (c : Nat) (z : Str), v = .str ⟨#[c]⟩ ∧ u = .str z ∧ decide (c ∈ z.cps.toList) = b) ∨ ∃ a o, u = .ref a ∧ DGet H a v o ∧ o.isSome = b := by
  unfold pIn at e
  split at e
  · rename_i i z
    cases q : sign1 i with
    | none => rw [q] at e; cases e
    | some c =>
      rw [q] at e
      have e' : decide (c ∈ z.cps.toList) = b := Option.some.inj e
      exact .inr (.inl ⟨c, z, by rw [vx_str rx, sign1_ok q], vx_str ry, e'⟩)
  · split at e
    · rename_i ds h1
      split at e
      · rename_i hf
        have e' := Option.some.inj e
        obtain ⟨f1, f2⟩ := Bool.and_eq_true_iff.mp hf
        obtain ⟨p, xs, rfl, sq, r⟩ := seq_ok s ry h1
        have rx' : VR K m H x v := rx.vr fun ds z => by rw [z] at f1; cases f1
        exact .inl ⟨p, xs, rfl, sq, flat_ok rx' f1, flats_ok r f2, by rw [in_ok rx' f1 r f2]; exact e'⟩
      · cases e
    · split at e
      · rename_i ks k h1 h2
        have e' := Option.some.inj e
        obtain ⟨p, kvs, rfl, rd, r⟩ := dct_ok s ry h1
        refine .inr (.inr ⟨p, valV kvs k, rfl, .inl ⟨kvs, k, rd, key_ok rx h2, rfl⟩, ?_⟩)
        rw [← e']
        cases z : valD ks k with
        | none => rw [r.val.2 z]; rfl
        | some d =>
          obtain ⟨w, e1, _⟩ := r.val.1 d z
          rw [e1]; rfl
      · cases e
theorem ap_in : AdP K (rInA K) pIn := fun m S H0 H x y v u b Q s rx ry e q => by
  rcases in_all s rx ry e with ⟨p, xs, e1, h1, h2, h3, h4⟩ | ⟨c, z, e1, e2, e3⟩ | ⟨a, o, e1, g, e2⟩
  · exact .inl (.inl ⟨p, xs, e1, h1, h2, h3, by rw [if_neg Bool.false_ne_true, h4]; exact q⟩)
  · exact .inl (.inr ⟨c, z, e1, e2, by rw [e3]; exact q⟩)
  · exact .inr ⟨a, o, e1, g, by rw [e2]; exact q⟩
theorem ap_ni : AdP K (rNiA K) pNi := fun m S H0 H x y v u b Q s rx ry e q => by
  unfold pNi at e
  cases z : pIn x y S with
  | none => rw [z] at e; cases e
  | some b' =>
    rw [z] at e
    have e' : (!b') = b := Option.some.inj e
    rcases in_all s rx ry z with ⟨p, xs, e1, h1, h2, h3, h4⟩ | ⟨c, z, e1, e2, e3⟩ | ⟨a, o, e1, g, e2⟩
    · exact .inl (.inl ⟨p, xs, e1, h1, h2, h3, by rw [if_pos rfl, h4, e']; exact q⟩)
    · exact .inl (.inr ⟨c, z, e1, e2, by rw [e3, e']; exact q⟩)
    · exact .inr ⟨a, o, e1, g, by rw [e2, e']; exact q⟩
end
theorem OpR.or2 {X : Cx} {f : Value → Value → Sem Value} {r r' : R2} (h : OpR X f r) (h' : OpR X f r') : OpR X f (fun x y H Q => r x y H Q ∨ r' x y H Q) := h.or h'
end Ah

set_option maxHeartbeats 1000000
namespace Ah
open PySem PySem.Spec PyProof.Rows L2

/-! ### built-ins by values -/
abbrev FC := List D → Sto → R D
def callF (g : FC) (fa : FA) : FE := fun env S => (fa env S).bind fun ds S1 => g ds S1
def AdC (K : PySem.W.Frag) (r : List V → Hp → VK → Prop) (g : FC) : Prop :=
  ∀ (W : WX) (σ : L2.St) (m e : List Addr) (S : Sto) (H0 H : Hp) (ds : List D) (vs : List V) (Q : VK), HE m e H0 H → Sim K (m ++ e) S H → VXs K H0 (m ++ e) H ds vs → KG K W σ (PQ K Q) m H0 (g ds S) → r vs H Q
def AdCL (K : PySem.W.Frag) (r : List V → Hp → VK → Prop) (g : FC) : Prop :=
  ∀ (W : WX) (σ : L2.St) (m e : List Addr) (S : Sto) (H0 H : Hp) (ds : List D) (vs : List V) (Q : VK), HE m e H0 H → Sim K (m ++ e) S H → VXs K H0 (m ++ e) H ds vs → KG K W σ (PV K Q H0) m H0 (g ds S) → r vs H Q
section
variable {X : Cx} {W : WX} {pos p : Pos} {e : Expr} {es : List Expr} {fa : FA} {x : Str} {id T : String} {r : List V → Hp → VK → Prop} {g : FC}
theorem to_cb {K : PySem.W.Frag} (ad : AdC K r g) {σ : L2.St} {H : Hp} {Q : VK} (h : TEf K W (callF g fa) σ H Q) : tCB r (TBf K W fa) σ H Q := by
  obtain ⟨m, env, S, s, er, k⟩ := h
  exact ⟨m, env, S, s, er, k.seq0 fun e H1 S1 ds s1 he k1 vs vr => ad W σ m e S1 H H1 ds vs Q he s1 vr k1⟩
theorem to_cbL {K : PySem.W.Frag} (ad : AdCL K r g) {σ : L2.St} {H : Hp} {Q : VK} (h : TXf K W (callF g fa) σ H Q) : tCB r (TBf K W fa) σ H Q := by
  obtain ⟨m, env, S, s, er, k⟩ := h
  exact ⟨m, env, S, s, er, k.seq0 fun e H1 S1 ds s1 he k1 vs vr => ad W σ m e S1 H H1 ds vs Q he s1 vr k1⟩
theorem se_cb (hc : CallR X (.builtin id) r) (ad : AdC X.K r g) (hg : Gl X x) (hm : X.mg x = none) (hv : bootBuiltins x = some (.builtin id)) (ha : SB X W (e :: es) fa) (hn : x ≠ "__name__" := by decide) (hdb : (x == ("__debug__" : Str)) = false := by decide)
    (he : starEach (e :: es) X.env = (false, eval e X.env) :: starEach es X.env := by rfl) (hpl : (backTo pos (starEach es X.env)).any (·.1) = false := by rfl) : SE X W (.Call (.Name x p) (e :: es) [] pos) (callF g fa) :=
  pe_imp (pe_callB hc hg hm hv ha hn hdb he hpl) fun σ H Q h => to_cb ad h
theorem sx_cb (hc : CallR X (.builtin id) r) (ad : AdCL X.K r g) (hg : Gl X x) (hm : X.mg x = none) (hv : bootBuiltins x = some (.builtin id)) (ha : SB X W (e :: es) fa) (hn : x ≠ "__name__" := by decide) (hdb : (x == ("__debug__" : Str)) = false := by decide)
    (he : starEach (e :: es) X.env = (false, eval e X.env) :: starEach es X.env := by rfl) (hpl : (backTo pos (starEach es X.env)).any (·.1) = false := by rfl) : SX X W (.Call (.Name x p) (e :: es) [] pos) (callF g fa) :=
  pe_imp (pe_callB hc hg hm hv ha hn hdb he hpl) fun σ H Q h => to_cbL ad h
theorem se_ct (hc : CallR X (.type T) r) (ad : AdC X.K r g) (hg : Gl X x) (hm : X.mg x = none) (hv : bootBuiltins x = some (.type T)) (ha : SB X W (e :: es) fa) (hn : x ≠ "__name__" := by decide) (hdb : (x == ("__debug__" : Str)) = false := by decide)
    (he : starEach (e :: es) X.env = (false, eval e X.env) :: starEach es X.env := by rfl) (hpl : (backTo pos (starEach es X.env)).any (·.1) = false := by rfl) : SE X W (.Call (.Name x p) (e :: es) [] pos) (callF g fa) :=
  pe_imp (pe_callTy hc hg hm hv ha hn hdb he hpl) fun σ H Q h => to_cb ad h
theorem sx_ct (hc : CallR X (.type T) r) (ad : AdCL X.K r g) (hg : Gl X x) (hm : X.mg x = none) (hv : bootBuiltins x = some (.type T)) (ha : SB X W (e :: es) fa) (hn : x ≠ "__name__" := by decide) (hdb : (x == ("__debug__" : Str)) = false := by decide)
    (he : starEach (e :: es) X.env = (false, eval e X.env) :: starEach es X.env := by rfl) (hpl : (backTo pos (starEach es X.env)).any (·.1) = false := by rfl) : SX X W (.Call (.Name x p) (e :: es) [] pos) (callF g fa) :=
  pe_imp (pe_callTy hc hg hm hv ha hn hdb he hpl) fun σ H Q h => to_cbL ad h
end
section
variable {K : PySem.W.Frag} {H0 : Hp} {m : List Addr} {H : Hp} {S : Sto}
theorem vxs1 {d : D} {vs : List V} (h : VXs K H0 m H [d] vs) : ∃ v, vs = [v] ∧ VX K H0 m H d v := by
  obtain ⟨v, r, rfl, a, b⟩ := h
  exact ⟨v, by rw [show r = [] from b], a⟩
theorem vxs2 {d d' : D} {vs : List V} (h : VXs K H0 m H [d, d'] vs) : ∃ v v', vs = [v, v'] ∧ VX K H0 m H d v ∧ VX K H0 m H d' v' := by
  obtain ⟨v, r, rfl, a, b⟩ := h
  obtain ⟨v', rfl, c⟩ := vxs1 b
  exact ⟨v, v', rfl, a, c⟩
/-! lists of plain things -/
def intsD : List D → Option (List Int)
  | [] => some []
  | .int i :: r => (intsD r).map (i :: ·)
  | _ => none
def strsD : List D → Option (List Str)
  | [] => some []
  | .str i :: r => (strsD r).map (i :: ·)
  | _ => none
def blsD : List D → Option (List Bool)
  | [] => some []
  | .bl i :: r => (blsD r).map (i :: ·)
  | _ => none
theorem ints_ok : ∀ {ds : List D} {ns : List Int} {vs : List V}, intsD ds = some ns → VRs K m H ds vs → vs = ns.map V.int
  | [], _, _, e, r => by cases e; exact VRs.nil_iff.mp r
  | d :: ds, ns, vs, e, r => by
    obtain ⟨v, r', rfl, a, b⟩ := VRs.cons_iff.mp r
    cases d <;> first | (cases e; done) | skip
    rename_i i
    unfold intsD at e
    cases z : intsD ds with
    | none => rw [z] at e; cases e
    | some l =>
      rw [z] at e
      cases (Option.some.inj e)
      unfold VR at a
      rw [a, ints_ok z b]
      rfl
theorem strs_ok : ∀ {ds : List D} {ns : List Str} {vs : List V}, strsD ds = some ns → VRs K m H ds vs → vs = ns.map V.str
  | [], _, _, e, r => by cases e; exact VRs.nil_iff.mp r
  | d :: ds, ns, vs, e, r => by
    obtain ⟨v, r', rfl, a, b⟩ := VRs.cons_iff.mp r
    cases d <;> first | (cases e; done) | skip
    rename_i i
    unfold strsD at e
    cases z : strsD ds with
    | none => rw [z] at e; cases e
    | some l =>
      rw [z] at e
      cases (Option.some.inj e)
      unfold VR at a
      rw [a, strs_ok z b]
      rfl
theorem bls_ok : ∀ {ds : List D} {ns : List Bool} {vs : List V}, blsD ds = some ns → VRs K m H ds vs → vs = ns.map V.bl
  | [], _, _, e, r => by cases e; exact VRs.nil_iff.mp r
  | d :: ds, ns, vs, e, r => by
    obtain ⟨v, r', rfl, a, b⟩ := VRs.cons_iff.mp r
    cases d <;> first | (cases e; done) | skip
    rename_i i
    unfold blsD at e
    cases z : blsD ds with
    | none => rw [z] at e; cases e
    | some l =>
      rw [z] at e
      cases (Option.some.inj e)
      unfold VR at a
      rw [a, bls_ok z b]
      rfl
theorem vrs_strs : ∀ {ns : List Str}, VRs K m H (ns.map D.str) (ns.map V.str)
  | [] => VRs.nil
  | n :: ns => VRs.cons vr_str vrs_strs
theorem vrs_ints : ∀ {ns : List Int}, VRs K m H (ns.map D.int) (ns.map V.int)
  | [] => VRs.nil
  | n :: ns => VRs.cons vr_int vrs_ints
theorem intsD_map : ∀ (ns : List Int), intsD (ns.map D.int) = some ns
  | [] => rfl
  | n :: ns => by show (intsD (ns.map D.int)).map (n :: ·) = _; rw [intsD_map ns]; rfl
theorem strsD_map : ∀ (ns : List Str), strsD (ns.map D.str) = some ns
  | [] => rfl
  | n :: ns => by show (strsD (ns.map D.str)).map (n :: ·) = _; rw [strsD_map ns]; rfl
theorem blsD_map : ∀ (ns : List Bool), blsD (ns.map D.bl) = some ns
  | [] => rfl
  | n :: ns => by show (blsD (ns.map D.bl)).map (n :: ·) = _; rw [blsD_map ns]; rfl
end

/-! ### len, tuple, list, all, any, max, min, int, str -/
def gLen : FC := fun ds S => match ds with
  | [.str z] => if z.length ≤ 16777216 then .ok (.int z.length) S else .bad
  | [d] => match seqD S d with
    | some xs => .ok (.int xs.length) S
    | none => match d with
      | .ref i => (match S[i]? with
        | some (.dct false ks) => .ok (.int ks.length) S
        | _ => .bad)
      | _ => .bad
  | _ => .bad
def gTup : FC := fun ds S => match ds with
  | [.tup xs] => .ok (.tup xs) S
  | [d] => match lstD S d with
    | some xs => .ok (.tup xs) S
    | none => .bad
  | _ => .bad
def gLst : FC := fun ds S => match ds with
  | [d] => match seqD S d with
    | some xs => .ok (.tml xs) S
    | none => .bad
  | _ => .bad
def gAll : FC := fun ds S => match ds with
  | [d] => match (lstD S d).bind blsD with
    | some bs => .ok (.bl (bs.all id)) S
    | none => .bad
  | _ => .bad
def gAny : FC := fun ds S => match ds with
  | [d] => match (lstD S d).bind blsD with
    | some bs => .ok (.bl (bs.any id)) S
    | none => .bad
  | _ => .bad
def gMax : FC := fun ds S => match ds with
  | [.int i, .int j] => .ok (.int (if j > i then j else i)) S
  | [d] => match ((lstD S d).bind intsD).bind List.max? with
    | some n => .ok (.int n) S
    | none => .bad
  | _ => .bad
def gMin : FC := fun ds S => match ds with
  | [.int i, .int j] => .ok (.int (if j < i then j else i)) S
  | [d] => match ((lstD S d).bind intsD).bind List.min? with
    | some n => .ok (.int n) S
    | none => .bad
  | _ => .bad
def gInt : FC := fun ds S => match ds with
  | [.int i] => .ok (.int i) S
  | [.bl b] => .ok (.int (if b then 1 else 0)) S
  | [.str z] => if z.length ≤ 640 then (match PySem.intText? z with
    | some n => .ok (.int n) S
    | none => .bad) else .bad
  | _ => .bad
def gStr : FC := fun ds S => match ds with
  | [.int i] => if i.natAbs.log2 < 1920 then .ok (.str (toString i)) S else .bad
  | _ => .bad
section
variable {K : PySem.W.Frag}
abbrev rLenA (K : PySem.W.Frag) : List V → Hp → VK → Prop := fun xs H Q => (∃ x n, xs = [x] ∧ LenV K x H n ∧ Q (.int n) H) ∨ ∃ a kvs, xs = [V.ref a] ∧ H a = some (.dK kvs) ∧ Q (.int kvs.length) H
theorem cr_len {X : Cx} : CallR X (.builtin "len") (rLenA X.K) := CallR.or call_len call_lenD
theorem ac_len : AdC K (rLenA K) gLen := by
  intro W σ m e S H0 H ds vs Q he s r k
  unfold gLen at k
  split at k
  · rename_i z
    split at k
    · rename_i hz
      obtain ⟨v, rfl, rv⟩ := vxs1 r
      rw [vx_str rv]
      exact .inl ⟨_, z.length, rfl, ⟨by rw [sizeLine_eq]; exact hz, rfl⟩, k.fin s he _ vr_int⟩
    · exact k.elim
  · rename_i d _
    obtain ⟨v, rfl, rv⟩ := vxs1 r
    split at k
    · rename_i xs h1
      obtain ⟨p, us, rfl, sq, rr⟩ := seq_ok s rv h1
      refine .inl ⟨_, us.length, rfl, ?_, k.fin s he _ (by rw [rr.length]; exact vr_int)⟩
      rcases sq with sq | sq
      · exact .inl ⟨us, sq, rfl⟩
      · exact .inr ⟨us, sq, rfl⟩
    · split at k
      · rename_i i _ _
        split at k
        · rename_i ks q
          unfold VX VR at rv
          obtain ⟨a, ha, rfl⟩ := rv
          obtain ⟨a', ha', o⟩ := s.at_ q
          rw [ha] at ha'
          cases ha'
          obtain ⟨kvs, rr, hp⟩ := o
          exact .inr ⟨a, kvs, rfl, hp, k.fin s he _ (by rw [rr.length]; exact vr_int)⟩
        · exact k.elim
      · exact k.elim
  · exact k.elim
abbrev rTupA (K : PySem.W.Frag) : List V → Hp → VK → Prop := fun xs H Q => ∃ p ys, xs = [.ref p] ∧ ((SqL K H p ys ∧ ∀ l, H l = none → Q (.ref l) (upd H l (.tup ys))) ∨ (SqT K H p ys ∧ Q (.ref p) H))
theorem ac_tup : AdC K (rTupA K) gTup := by
  intro W σ m e S H0 H ds vs Q he s r k
  unfold gTup at k
  split at k
  · rename_i xs
    obtain ⟨v, rfl, rv⟩ := vxs1 r
    obtain ⟨p, us, rfl, sq, rr⟩ := tup_ok rv
    exact ⟨p, us, rfl, .inr ⟨sq, k.fin s he _ rv⟩⟩
  · rename_i d _
    obtain ⟨v, rfl, rv⟩ := vxs1 r
    split at k
    · rename_i xs h1
      obtain ⟨p, us, rfl, sq, rr⟩ := lst_ok s rv h1
      exact ⟨p, us, rfl, .inl ⟨sq, fun l hl => k.fin (s.other hl) (he.beside hl) _ (vr_tup hl rr)⟩⟩
    · exact k.elim
  · exact k.elim
theorem ac_lst : AdCL K (fun xs H Q => ∃ p ys, xs = [.ref p] ∧ (SqL K H p ys ∨ SqT K H p ys) ∧ ∀ l, H l = none → Q (.ref l) (upd H l (.lst ys))) gLst := by
  intro W σ m e S H0 H ds vs Q he s r k
  unfold gLst at k
  split at k
  · rename_i d
    obtain ⟨v, rfl, rv⟩ := vxs1 r
    split at k
    · rename_i xs h1
      obtain ⟨p, us, rfl, sq, rr⟩ := seq_ok s rv h1
      exact ⟨p, us, rfl, sq, fun l hl => k.fin (s.other hl) (he.beside hl) _ (vx_tml he s hl rr)⟩
    · exact k.elim
  · exact k.elim
theorem bls_of {m : List Addr} {H0 H : Hp} {S : Sto} {d : D} {v : V} {bs : List Bool} (s : Sim K m S H) (r : VX K H0 m H d v) (h : (lstD S d).bind blsD = some bs) : ∃ a, v = .ref a ∧ SqL K H a (bs.map V.bl) := by
  cases z : lstD S d with
  | none => rw [z] at h; cases h
  | some xs =>
    rw [z] at h
    obtain ⟨p, us, rfl, sq, rr⟩ := lst_ok s r z
    exact ⟨p, rfl, by rw [← bls_ok (show blsD xs = some bs from h) rr]; exact sq⟩
theorem ints_of {m : List Addr} {H0 H : Hp} {S : Sto} {d : D} {v : V} {bs : List Int} (s : Sim K m S H) (r : VX K H0 m H d v) (h : (lstD S d).bind intsD = some bs) : ∃ a, v = .ref a ∧ SqL K H a (bs.map V.int) := by
  cases z : lstD S d with
  | none => rw [z] at h; cases h
  | some xs =>
    rw [z] at h
    obtain ⟨p, us, rfl, sq, rr⟩ := lst_ok s r z
    exact ⟨p, rfl, by rw [← ints_ok (show intsD xs = some bs from h) rr]; exact sq⟩
theorem ac_all : AdC K (rAll K) gAll := by
  intro W σ m e S H0 H ds vs Q he s r k
  unfold gAll at k
  split at k
  · obtain ⟨v, rfl, rv⟩ := vxs1 r
    split at k
    · rename_i bs h1
      obtain ⟨p, rfl, sq⟩ := bls_of s rv h1
      exact ⟨p, bs, rfl, sq, k.fin s he _ vr_bl⟩
    · exact k.elim
  · exact k.elim
theorem ac_any : AdC K (rAny K) gAny := by
  intro W σ m e S H0 H ds vs Q he s r k
  unfold gAny at k
  split at k
  · obtain ⟨v, rfl, rv⟩ := vxs1 r
    split at k
    · rename_i bs h1
      obtain ⟨p, rfl, sq⟩ := bls_of s rv h1
      exact ⟨p, bs, rfl, sq, k.fin s he _ vr_bl⟩
    · exact k.elim
  · exact k.elim
abbrev rMaxA (K : PySem.W.Frag) : List V → Hp → VK → Prop := fun xs H Q => (∃ i j, xs = [.int i, .int j] ∧ Q (.int (if j > i then j else i)) H) ∨ rMax K xs H Q
abbrev rMinA (K : PySem.W.Frag) : List V → Hp → VK → Prop := fun xs H Q => (∃ i j, xs = [.int i, .int j] ∧ Q (.int (if j < i then j else i)) H) ∨ rMin K xs H Q
theorem cr_maxA {X : Cx} (hc : X.calm = true) : CallR X (.builtin "max") (rMaxA X.K) := CallR.or (call_max2 hc) (cr_max hc)
theorem cr_minA {X : Cx} (hc : X.calm = true) : CallR X (.builtin "min") (rMinA X.K) := CallR.or (call_min2 hc) (cr_min hc)
theorem ac_max : AdC K (rMaxA K) gMax := by
  intro W σ m e S H0 H ds vs Q he s r k
  unfold gMax at k
  split at k
  · rename_i i j
    obtain ⟨v, v', rfl, r1, r2⟩ := vxs2 r
    exact .inl ⟨i, j, by rw [vx_int r1, vx_int r2], k.fin s he _ vr_int⟩
  · obtain ⟨v, rfl, rv⟩ := vxs1 r
    split at k
    · rename_i n h1
      cases z : (lstD S _).bind intsD with
      | none => rw [z] at h1; cases h1
      | some ns =>
        rw [z] at h1
        obtain ⟨p, rfl, sq⟩ := ints_of s rv z
        have h2 : ns.max? = some n := h1
        obtain ⟨h3, h4⟩ := List.max?_eq_some_iff.mp h2
        refine .inr ⟨p, ns, rfl, sq, List.length_pos_of_mem h3, fun m' hm hle => ?_⟩
        have e' : m' = n := Int.le_antisymm (h4 m' hm) (hle n h3)
        rw [e']
        exact k.fin s he _ vr_int
    · exact k.elim
  · exact k.elim
theorem ac_min : AdC K (rMinA K) gMin := by
  intro W σ m e S H0 H ds vs Q he s r k
  unfold gMin at k
  split at k
  · rename_i i j
    obtain ⟨v, v', rfl, r1, r2⟩ := vxs2 r
    exact .inl ⟨i, j, by rw [vx_int r1, vx_int r2], k.fin s he _ vr_int⟩
  · obtain ⟨v, rfl, rv⟩ := vxs1 r
    split at k
    · rename_i n h1
      cases z : (lstD S _).bind intsD with
      | none => rw [z] at h1; cases h1
      | some ns =>
        rw [z] at h1
        obtain ⟨p, rfl, sq⟩ := ints_of s rv z
        have h2 : ns.min? = some n := h1
        obtain ⟨h3, h4⟩ := List.min?_eq_some_iff.mp h2
        refine .inr ⟨p, ns, rfl, sq, List.length_pos_of_mem h3, fun m' hm hle => ?_⟩
        have e' : m' = n := Int.le_antisymm (hle n h3) (h4 m' hm)
        rw [e']
        exact k.fin s he _ vr_int
    · exact k.elim
  · exact k.elim
abbrev rIntA : List V → Hp → VK → Prop := fun xs H Q => ((∃ i, xs = [.int i] ∧ Q (.int i) H) ∨ ∃ k, xs = [.bl k] ∧ Q (.int (if k then 1 else 0)) H) ∨ ∃ a n, xs = [.str a] ∧ PySem.intText? a = some n ∧ a.length ≤ 640 ∧ Q (.int n) H
theorem cr_int {X : Cx} : CallR X (.type "int") rIntA := CallR.or call_int1 call_int_str
theorem ac_int : AdC K rIntA gInt := by
  intro W σ m e S H0 H ds vs Q he s r k
  unfold gInt at k
  split at k
  · obtain ⟨v, rfl, rv⟩ := vxs1 r
    exact .inl (.inl ⟨_, by rw [vx_int rv], k.fin s he _ vr_int⟩)
  · obtain ⟨v, rfl, rv⟩ := vxs1 r
    exact .inl (.inr ⟨_, by rw [vx_bl rv], k.fin s he _ vr_int⟩)
  · obtain ⟨v, rfl, rv⟩ := vxs1 r
    split at k
    · rename_i hz
      split at k
      · rename_i n h1
        exact .inr ⟨_, n, by rw [vx_str rv], h1, hz, k.fin s he _ vr_int⟩
      · exact k.elim
    · exact k.elim
  · exact k.elim
theorem ac_str : AdC K (fun xs H Q => ∃ i, xs = [.int i] ∧ i.natAbs.log2 < 1920 ∧ Q (.str (toString i)) H) gStr := by
  intro W σ m e S H0 H ds vs Q he s r k
  unfold gStr at k
  split at k
  · obtain ⟨v, rfl, rv⟩ := vxs1 r
    split at k
    · rename_i hz
      exact ⟨_, by rw [vx_int rv], hz, k.fin s he _ vr_str⟩
    · exact k.elim
  · exact k.elim
end
end Ah

set_option maxHeartbeats 1000000
namespace Ah
open PySem PySem.Spec PyProof.Rows L2

/-! ### a def as a plain function of data and store -/
abbrev FF := List D → Sto → R D
/-- its promise -/
def SpD (K : PySem.W.Frag) (n : Nat) (g : FF) : Sp := fun vs H Q E => vs.length = n ∧ ∃ m ds S, Sim K m S H ∧ VRs K m H ds vs ∧ KG K (fun c d _ H' => E c d H') [] (PV K Q H) m H (g ds S)
theorem KG.cut {α : Type} {K : PySem.W.Frag} {W W' : WX} {σ σ' : L2.St} {P : List Addr → Hp → Sto → α → Prop} {m : List Addr} {H : Hp} {r : R α} (h : KG K W σ P m H r) (w : ∀ c d H', W c d σ H' → W' c d σ' H') : KG K W' σ' P m H r := by
  cases r with
  | ok a S' => exact h
  | ex C fs S' => exact fun dd H' e s he x => w _ _ _ (h dd H' e s he x)
  | bad => exact h
/-- the def at f computes g, where no representation is being written -/
structure FnG (P : Program) (w : World) (K : PySem.W.Frag) (mg : Str → Option Value) (base : Heap) (k : Nat) (f : Addr) (fd : FuncData) (ps : List Str) (g : FF) : Prop where
  run : ∀ (A : Around) (outer : List Env) (s : Shared) (H : Hp) (args : Args) (us : List Value) (vs : List V) (Q : VK) (E : XK), Room k A → A.guards = some [] → Env0 P w K mg base A outer s H →
    BindsTo s fd args (ps.zip us) → Vals vs us → SpD K ps.length g vs H Q E → codeAny (model P w) A (.call (.ref f) args) (CR (L2.CX P w) outer P w H s Q E) s
theorem FnG.mono {P : Program} {w : World} {K : PySem.W.Frag} {mg : Str → Option Value} {base : Heap} {j k : Nat} {f : Addr} {fd : FuncData} {ps : List Str} {g : FF} (F : FnG P w K mg base j f fd ps g) (h : j ≤ k) : FnG P w K mg base k f fd ps g :=
  ⟨fun A o s H args us vs Q E hr => F.run A o s H args us vs Q E (hr.mono h)⟩
/-- the names at a def's entry -/
def enD (n : Nat) (ds : List D) : En := ds.map some ++ List.replicate (n - ds.length) none
/-- what a body hands back -/
def bodyF (n : Nat) (h : FS) : FF := fun ds S => match h (enD n ds) S with
  | .rt d S' => .ok d S'
  | .nx _ S' => .ok .non S'
  | .ex C fs _ S' => .ex C fs S'
  | _ => .bad
theorem er_start {K : PySem.W.Frag} {m : List Addr} {H : Hp} {ds : List D} {vs : List V} {N : List Str} (r : VRs K m H ds vs) : ER K m H (enD N.length ds) (L2.start N vs) := by
  refine ⟨by simp [enD, L2.start, r.length], fun i d h => ?_⟩
  unfold enD at h
  by_cases hi : i < ds.length
  · rw [List.getElem?_append_left (by simpa using hi), List.getElem?_map] at h
    cases e : ds[i]? with
    | none => rw [e] at h; cases h
    | some x =>
      rw [e] at h
      have hx : x = d := by simpa using h
      subst hx
      obtain ⟨v, e1, e2⟩ := r.get e
      refine ⟨v, ?_, e2⟩
      unfold L2.start
      rw [List.getElem?_append_left (by simp [r.length]; exact hi), List.getElem?_map, e1]
      rfl
  · rw [List.getElem?_append_right (by simp; omega), List.getElem?_replicate] at h
    split at h <;> cases h
theorem fng_of {P : Program} {w : World} {K : PySem.W.Frag} {mg : Str → Option Value} {base : Heap} {x qual : Str} {params : Arguments} {body : List Stmt} {scope : Scope} {dvs : List V} {kws : List (Str × V)} {f : Addr} {fd : FuncData} {N ps : List Str} {k : Nat} {h : FS}
    (F : FunD K x qual params body scope dvs kws f fd) (SC : FnScope N ps scope)
    (hb : ∀ (cdv : Value) (A : Around) (outer : List Env) (s : Shared) (H : Hp) (E : XK), Room k (A.deeper (envOfC qual scope s.heap.objs.size f cdv)) → (A.deeper (envOfC qual scope s.heap.objs.size f cdv)).guards = some [] →
      SSs (cxOf (L2.CX P w) P w K mg base N qual scope f cdv A outer s H E) (fun c d _ H' => E c d H') body h) : FnG P w K mg base (k + 1) f fd ps (bodyF N.length h) := by
  obtain ⟨oc, od, dV, kV, doc, pm, an, cdv, ct, osl, rfl, lk, hcd, _, _⟩ := F.ex
  refine ⟨fun A outer s H args us vs Q E hr hg e0 bt r sp => ?_⟩
  obtain ⟨hl, m, ds, S, sim, vr, kg⟩ := sp
  have kin : K.In s.heap := e0.mod.kin.keeps fun b o q => (e0.bs b o q).1
  have nl : s.heap.NoLimit := e0.mod.nolimit.keeps fun b o q => (e0.bs b o q).1
  refine codeAny_call_function hr.depth (kin _ _ lk) rfl SC.co SC.gen rfl (PySem.W.codeRec_of kin hcd) (bt _ _ _ _ ?_)
  refine wpAny_newFunctionEnv_cells SC.kind (fun y hy => ?_) fun env eq s1 ic => ?_
  · obtain ⟨y1, y2⟩ := y
    exact (SC.par y1 (List.of_mem_zip hy).1).elim .inl fun q => .inr ⟨q, PySem.W.cellsFrom_some _ _ _ (.inl q)⟩
  subst eq
  refine ⟨nl.keeps ic.toInCall.keep, codeAny_func ?_⟩
  have inv : Inv (cxOf (L2.CX P w) P w K mg base N qual scope f cdv A outer s H E) [] (L2.start N vs) H s1 := inv_start SC hr.hd e0 hl r ic
  have st := (hb cdv A outer s H E (hr.deeper _) hg).run [] s1 (L2.start N vs) H { nx := fun _ H' => Q .non H', rt := Q } inv ⟨m, _, S, sim, er_start vr, by
    unfold bodyF at kg
    split at kg
    · rename_i d S' q
      rw [q]
      exact fun v H' e si he rr => kg H' e si he v (VX.of rr)
    · rename_i d S' q
      rw [q]
      exact fun σ' H' e si he rr => kg H' e si he .non (VX.of vr_non)
    · rename_i C fs _ S' q
      rw [q]
      exact fun dd σ' H' e si he rr xx => kg dd H' e si he xx
    · exact kg.elim⟩
  refine wpAny_mono st (fun fl s' q => ?_) fun e s' q => q
  have done : ∀ {σ' : L2.St} {H' : Hp} {v : V} {u : Value}, Inv (cxOf (L2.CX P w) P w K mg base N qual scope f cdv A outer s H E) [] σ' H' s' → RelV v u → Q v H' → CE outer P w H s Q u s' :=
    fun {_ H' v _} J rv qq => ⟨v, H', J.os, J.bare, J.base, J.hok, rv, qq⟩
  cases fl with
  | ret u => obtain ⟨v, σ', H', J, rv, qq⟩ := q; exact done J rv qq
  | next => obtain ⟨σ', H', J, qq⟩ := q; exact done (v := V.non) (u := Value.none) J rfl qq
  | brk => obtain ⟨_, _, _, qq⟩ := q; exact qq.elim
  | cont => obtain ⟨_, _, _, qq⟩ := q; exact qq.elim

/-! ### what was made within is let go -/
mutual
/-- the store's numbers in it are below n -/
def D.bel (n : Nat) : D → Bool
  | .non => true
  | .bl _ => true
  | .int _ => true
  | .str _ => true
  | .tup ds => D.bels n ds
  | .rls ds => D.bels n ds
  | .tml ds => D.bels n ds
  | .ref i => decide (i < n)
  | .glb _ => true
  | .ty _ => true
  | .adr _ => true
def D.bels (n : Nat) : List D → Bool
  | [] => true
  | d :: ds => D.bel n d && D.bels n ds
end
def Ob.bel (n : Nat) : Ob → Bool
  | .lst ds => D.bels n ds
  | .dct _ ks => D.bels n (ks.map (·.2))
  | .ins _ fs => D.bels n (fs.map (·.2))
  | .xd _ fs => D.bels n (fs.map (·.2))
  | .gone => true
section
variable {K : PySem.W.Frag} {m e : List Addr} {H : Hp}
theorem get_back {i : Nat} {a : Addr} (hi : i < m.length) (h : (m ++ e)[i]? = some a) : m[i]? = some a := by
  rwa [List.getElem?_append_left hi] at h
mutual
theorem VR.low : ∀ {d : D} {v : V}, D.bel m.length d = true → VR K (m ++ e) H d v → VR K m H d v
  | .non, _, _, h => by unfold VR at h ⊢; exact h
  | .bl _, _, _, h => by unfold VR at h ⊢; exact h
  | .int _, _, _, h => by unfold VR at h ⊢; exact h
  | .str _, _, _, h => by unfold VR at h ⊢; exact h
  | .tup ds, _, b, h => by
    unfold VR at h ⊢
    obtain ⟨a, xs, e1, q, r⟩ := h
    exact ⟨a, xs, e1, q, VRs.low (by unfold D.bel at b; exact b) r⟩
  | .rls ds, _, b, h => by
    unfold VR at h ⊢
    obtain ⟨a, xs, e1, q, r⟩ := h
    exact ⟨a, xs, e1, q, VRs.low (by unfold D.bel at b; exact b) r⟩
  | .tml _, _, _, h => by unfold VR at h; exact h.elim
  | .ref i, _, b, h => by
    unfold VR at h ⊢
    obtain ⟨a, q, r⟩ := h
    exact ⟨a, get_back (by unfold D.bel at b; exact of_decide_eq_true b) q, r⟩
  | .glb _, _, _, h => by unfold VR at h ⊢; exact h
  | .ty _, _, _, h => by unfold VR at h ⊢; exact h
  | .adr _, _, _, h => by unfold VR at h ⊢; exact h
theorem VRs.low : ∀ {ds : List D} {vs : List V}, D.bels m.length ds = true → VRs K (m ++ e) H ds vs → VRs K m H ds vs
  | [], _, _, h => by unfold VRs at h ⊢; exact h
  | d :: ds, _, b, h => by
    unfold VRs at h ⊢
    obtain ⟨v, r, e1, x, y⟩ := h
    unfold D.bels at b
    obtain ⟨b1, b2⟩ := Bool.and_eq_true_iff.mp b
    exact ⟨v, r, e1, VR.low b1 x, VRs.low b2 y⟩
end
theorem FR.low : ∀ {fs : List (Str × D)} {gs : List (Str × V)}, D.bels m.length (fs.map (·.2)) = true → FR K (m ++ e) H fs gs → FR K m H fs gs
  | [], _, _, h => h
  | (f, d) :: fs, _, b, h => by
    obtain ⟨v, r, e1, x, y⟩ := h
    rw [List.map_cons] at b
    unfold D.bels at b
    obtain ⟨b1, b2⟩ := Bool.and_eq_true_iff.mp b
    exact ⟨v, r, e1, x.low b1, FR.low b2 y⟩
theorem KR.low : ∀ {fs : List (Key × D)} {gs : List (Key × V)}, D.bels m.length (fs.map (·.2)) = true → KR K (m ++ e) H fs gs → KR K m H fs gs
  | [], _, _, h => h
  | (f, d) :: fs, _, b, h => by
    obtain ⟨v, r, e1, x, y⟩ := h
    rw [List.map_cons] at b
    unfold D.bels at b
    obtain ⟨b1, b2⟩ := Bool.and_eq_true_iff.mp b
    exact ⟨v, r, e1, x.low b1, KR.low b2 y⟩
theorem OR.low {a : Addr} {o : Ob} (b : o.bel m.length = true) (h : OR K (m ++ e) H a o) : OR K m H a o := by
  cases o with
  | lst ds => obtain ⟨xs, r, q⟩ := h; exact ⟨xs, r.low b, q⟩
  | dct lk ks => obtain ⟨xs, r, q⟩ := h; exact ⟨xs, r.low b, q⟩
  | ins C fs => obtain ⟨dx, gs, r, q⟩ := h; exact ⟨dx, gs, r.low b, q⟩
  | xd d fs => obtain ⟨z, gs, r, q⟩ := h; exact ⟨z, gs, r.low b, q⟩
  | gone => exact h
/-! what was related stays so under fewer addresses -/
variable {H0 : Hp}
mutual
theorem VR.prev : ∀ {d : D} {v v' : V}, VR K m H0 d v → VR K (m ++ e) H d v' → VR K m H d v'
  | .non, _, _, _, h => by unfold VR at h ⊢; exact h
  | .bl _, _, _, _, h => by unfold VR at h ⊢; exact h
  | .int _, _, _, _, h => by unfold VR at h ⊢; exact h
  | .str _, _, _, _, h => by unfold VR at h ⊢; exact h
  | .tup ds, _, _, b, h => by
    unfold VR at h b ⊢
    obtain ⟨a, xs, e1, q, r⟩ := h
    obtain ⟨a', xs', _, _, r'⟩ := b
    exact ⟨a, xs, e1, q, VRs.prev r' r⟩
  | .rls ds, _, _, b, h => by
    unfold VR at h b ⊢
    obtain ⟨a, xs, e1, q, r⟩ := h
    obtain ⟨a', xs', _, _, r'⟩ := b
    exact ⟨a, xs, e1, q, VRs.prev r' r⟩
  | .tml _, _, _, _, h => by unfold VR at h; exact h.elim
  | .ref i, _, _, b, h => by
    unfold VR at h b ⊢
    obtain ⟨a, q, r⟩ := h
    obtain ⟨a', q', _⟩ := b
    exact ⟨a, get_back (List.getElem?_eq_some_iff.mp q').1 q, r⟩
  | .glb _, _, _, _, h => by unfold VR at h ⊢; exact h
  | .ty _, _, _, _, h => by unfold VR at h ⊢; exact h
  | .adr _, _, _, _, h => by unfold VR at h ⊢; exact h
theorem VRs.prev : ∀ {ds : List D} {vs vs' : List V}, VRs K m H0 ds vs → VRs K (m ++ e) H ds vs' → VRs K m H ds vs'
  | [], _, _, _, h => by unfold VRs at h ⊢; exact h
  | d :: ds, _, _, b, h => by
    unfold VRs at h b ⊢
    obtain ⟨v, r, e1, x, y⟩ := h
    obtain ⟨v', r', _, x', y'⟩ := b
    exact ⟨v, r, e1, VR.prev x' x, VRs.prev y' y⟩
end
theorem FR.prev : ∀ {fs : List (Str × D)} {gs gs' : List (Str × V)}, FR K m H0 fs gs → FR K (m ++ e) H fs gs' → FR K m H fs gs'
  | [], _, _, _, h => h
  | (f, d) :: fs, _, _, b, h => by
    obtain ⟨v, r, e1, x, y⟩ := h
    obtain ⟨v', r', _, x', y'⟩ := b
    exact ⟨v, r, e1, VR.prev x' x, FR.prev y' y⟩
theorem KR.prev : ∀ {fs : List (Key × D)} {gs gs' : List (Key × V)}, KR K m H0 fs gs → KR K (m ++ e) H fs gs' → KR K m H fs gs'
  | [], _, _, _, h => h
  | (f, d) :: fs, _, _, b, h => by
    obtain ⟨v, r, e1, x, y⟩ := h
    obtain ⟨v', r', _, x', y'⟩ := b
    exact ⟨v, r, e1, VR.prev x' x, KR.prev y' y⟩
theorem OR.prev {a a' : Addr} {o : Ob} (b : OR K m H0 a' o) (h : OR K (m ++ e) H a o) : OR K m H a o := by
  cases o with
  | lst ds =>
    obtain ⟨xs, r, q⟩ := h
    obtain ⟨_, r', _⟩ := b
    exact ⟨xs, r'.prev r, q⟩
  | dct lk ks =>
    obtain ⟨xs, r, q⟩ := h
    obtain ⟨_, r', _⟩ := b
    exact ⟨xs, r'.prev r, q⟩
  | ins C fs =>
    obtain ⟨dx, gs, r, q⟩ := h
    obtain ⟨_, _, r', _⟩ := b
    exact ⟨dx, gs, r'.prev r, q⟩
  | xd d fs =>
    obtain ⟨z, gs, r, q⟩ := h
    obtain ⟨_, _, r', _⟩ := b
    exact ⟨z, gs, r'.prev r, q⟩
  | gone => exact h
/-- the older objects of the store are as they were, or name nothing newer -/
def Kept (S S' : Sto) : Prop := S.length ≤ S'.length ∧ ∀ (i : Nat) (o : Ob), i < S.length → S'[i]? = some o → S[i]? = some o ∨ o.bel S.length = true
theorem Sim.low {S S' : Sto} (s0 : Sim K m S H0) (s : Sim K (m ++ e) S' H) (k : Kept S S') : Sim K m (S'.take S.length) H := by
  have hl : m.length = S.length := s0.len
  refine ⟨by rw [List.length_take, Nat.min_eq_left k.1]; exact hl, s.nd.sublist (List.sublist_append_left _ _), fun i a o h1 h2 => ?_⟩
  have hi : i < m.length := (List.getElem?_eq_some_iff.mp h1).1
  rw [List.getElem?_take_of_lt (by omega)] at h2
  have q := s.ob i a o (by rw [List.getElem?_append_left hi]; exact h1) h2
  rcases k.2 i o (by omega) h2 with z | z
  · exact (s0.ob i a o h1 z).prev q
  · exact OR.low (by rw [hl]; exact z) q
theorem HE.low (he : HE m e H0 H) : HE m [] H0 H := ⟨he.tk, he.oth, he.dom, fun _ h => absurd h (by simp)⟩
end
/-- the def's end: a value of what stood; a list just made; a dict or an instance just made -/
noncomputable def wrapF (g : FF) : FF := fun ds S => match g ds S with
  | .ok d S' => open Classical in if Kept S S' then
      (match d with
      | .ref i => if i < S.length then .ok (.ref i) (S'.take S.length) else
          (match S'[i]? with
          | some (.lst xs) => if D.bels S.length xs = true then .ok (.tml xs) (S'.take S.length) else .bad
          | some o => if o.bel S.length = true then .ok (.ref S.length) (S'.take S.length ++ [o]) else .bad
          | none => .bad)
      | .tml xs => .bad
      | d => if d.bel S.length = true then .ok d (S'.take S.length) else .bad) else .bad
  | .ex C fs S' => open Classical in if Kept S S' ∧ D.bels S.length (fs.map (·.2)) = true then .ex C fs (S'.take S.length) else .bad
  | .bad => .bad
theorem wrap_ok {K : PySem.W.Frag} {W : WX} {σ : L2.St} {m : List Addr} {H : Hp} {S : Sto} {Q : VK} {g : FF} {ds : List D} (s0 : Sim K m S H) (h : KG K W σ (PV K Q H) m H (wrapF g ds S)) : KG K W σ (PV K Q H) m H (g ds S) := by
  unfold wrapF at h
  cases q : g ds S with
  | bad => rw [q] at h; exact h
  | ex C fs S' =>
    rw [q] at h
    dsimp only at h
    split at h
    · rename_i hk
      intro dd H' e s he x
      refine h dd H' [] (by simpa using s0.low s hk.1) he.low ?_
      rcases x with ⟨x1, x2⟩ | ⟨d, gs, xz, x1, x0, xn, x2, x3⟩
      · exact .inl ⟨x1, x2⟩
      · exact .inr ⟨d, gs, xz, x1, x0, by rw [List.append_nil]; exact fun z => xn (List.mem_append_left _ z), x2, by rw [List.append_nil]; exact x3.low (by rw [s0.len]; exact hk.2)⟩
    · exact h.elim
  | ok d S' =>
    rw [q] at h
    dsimp only at h
    split at h
    · rename_i hk
      intro H' e s he v vr
      have sl := s0.low s hk
      have plain : ∀ d', d' = d → D.bel S.length d' = true → (∀ xs, d' ≠ .tml xs) → KG K W σ (PV K Q H) m H (.ok d' (S'.take S.length)) → Q v H' := fun d' e1 b nt kk => by
        subst e1
        have r1 : VR K (m ++ e) H' d' v := vr.vr nt
        have := kk H' [] (by simpa using sl) he.low
        rw [List.append_nil] at this
        exact this v (VX.of (r1.low (by rw [s0.len]; exact b)))
      split at h
      · rename_i i
        split at h
        · rename_i hi
          exact plain _ rfl (by unfold D.bel; exact decide_eq_true hi) (fun xs z => by cases z) h
        · rename_i hi
          have r1 : VR K (m ++ e) H' (.ref i) v := vr
          unfold VR at r1
          obtain ⟨a, ha, rfl⟩ := r1
          have him : m.length ≤ i := by rw [s0.len]; omega
          have hae : a ∈ e := by
            rw [List.getElem?_append_right him] at ha
            exact List.mem_of_getElem? ha
          have ham : a ∉ m := fun z => by
            have nd := s.nd
            rw [List.nodup_append] at nd
            exact nd.2.2 a z a hae rfl
          split at h
          · rename_i xs q2
            split at h
            · rename_i hb
              obtain ⟨us, r, hp⟩ := s.ob i a _ ha q2
              have := h H' [] (by simpa using sl) he.low
              rw [List.append_nil] at this
              exact this (.ref a) ⟨a, us, rfl, he.new a hae, hp, ham, r.low (by rw [s0.len]; exact hb)⟩
            · exact h.elim
          · rename_i o _ q2
            split at h
            · rename_i hb
              have oo := s.ob i a _ ha q2
              have sim2 := sl.add (p := a) (o := o) ham (OR.low (by rw [s0.len]; exact hb) oo)
              refine h H' [a] sim2 ⟨he.tk, he.oth, he.dom, fun x hx => ?_⟩ _ ?_
              · have : x = a := by simpa using hx
                rw [this]; exact he.new a hae
              · refine VX.of ?_
                unfold VR
                refine ⟨a, ?_, rfl⟩
                rw [← s0.len]
                simp
            · exact h.elim
          · exact h.elim
      · exact h.elim
      · rename_i n1 n2
        split at h
        · rename_i hb
          exact plain _ rfl hb (fun xs z => n2 xs z) h
        · exact h.elim
    · exact h.elim
theorem FnG.wrap {P : Program} {w : World} {K : PySem.W.Frag} {mg : Str → Option Value} {base : Heap} {k : Nat} {f : Addr} {fd : FuncData} {ps : List Str} {g : FF} (F : FnG P w K mg base k f fd ps g) : FnG P w K mg base k f fd ps (wrapF g) :=
  ⟨fun A o s H args us vs Q E hr hg e0 bt r ⟨hl, m, ds, S, sim, vr, kg⟩ => F.run A o s H args us vs Q E hr hg e0 bt r ⟨hl, m, ds, S, sim, vr, wrap_ok sim kg⟩⟩
/-- another function that is worth the same where it is worth something -/
theorem FnG.is {P : Program} {w : World} {K : PySem.W.Frag} {mg : Str → Option Value} {base : Heap} {k : Nat} {f : Addr} {fd : FuncData} {ps : List Str} {g g' : FF} (F : FnG P w K mg base k f fd ps g) (h : ∀ ds S, g' ds S ≠ .bad → g ds S = g' ds S) : FnG P w K mg base k f fd ps g' :=
  ⟨fun A o s H args us vs Q E hr hg e0 bt r ⟨hl, m, ds, S, sim, vr, kg⟩ => F.run A o s H args us vs Q E hr hg e0 bt r ⟨hl, m, ds, S, sim, vr, by
    rw [h ds S fun z => by rw [z] at kg; exact kg]
    exact kg⟩⟩

/-! ### a call -/
def runF (g : FF) (dvs : List D) (fa : FA) : FE := fun env S => (fa env S).bind fun ds S1 => g (ds ++ dvs) S1
section
variable {X : Cx} {W : WX} {k : Nat} {f : Addr} {fd : FuncData} {ps : List Str} {g : FF} {dds : List D} {ds : List Value} {x : Str} {p pos : Pos} {e : Expr} {es : List Expr} {fa : FA}
theorem run_g {pins : List (Addr × Obj)} {σ : L2.St} {H : Hp} {s : Shared} {Q : VK} {us : List Value} {vs dvs : List V} {E : XK} (F : FnG X.prog X.w X.K X.mg X.base k f fd ps g) (hr : Room k X.A) (hg : X.A.guards = some []) (hb : Binds X.K fd ps ds) (hd : Vals dvs ds) (hx : PassesAt (L2.CX X.prog X.w) X σ E)
    (I : Inv X pins σ H s) (r : Vals vs us) (h : SpD X.K ps.length g (vs ++ dvs) H Q E) : wpAny (model X.prog X.w) X.A (call (.ref f) us) (EP X pins σ Q) X.xe s := by
  have r2 : Vals (vs ++ dvs) (us ++ ds) := r.append hd
  have hl : (us ++ ds).length = ps.length := by rw [← r2.length]; exact h.1
  refine wpAny_call (codeAny_mono (F.run X.A X.stack s H ⟨us, []⟩ (us ++ ds) (vs ++ dvs) Q E hr hg I.env0 (hb s us I.kIn hl) r2 h) fun r s' q => ?_)
  cases r with
  | error e => exact hx pins H s e s' I q
  | ok fl =>
    cases fl with
    | ret u => exact I.after q
    | _ => exact False.elim q
/-- default values are data that need no heap -/
def DVs (K : PySem.W.Frag) (dds : List D) (dvs : List V) : Prop := ∀ m H, VRs K m H dds dvs
theorem dvs_nil {K : PySem.W.Frag} : DVs K [] [] := fun _ _ => VRs.nil
theorem VRs.app {K : PySem.W.Frag} {m : List Addr} {H : Hp} {ds es : List D} {vs us : List V} (h : VRs K m H ds vs) (t : VRs K m H es us) : VRs K m H (ds ++ es) (vs ++ us) := h.append t
theorem sp_call {K : PySem.W.Frag} {σ : L2.St} {m e1 : List Addr} {H H1 : Hp} {S1 : Sto} {Q : VK} {xs : List D} {vs dvs : List V} (hn : (vs ++ dvs).length = ps.length) (s1 : Sim K (m ++ e1) S1 H1) (he : HE m e1 H H1) (vr : VRs K (m ++ e1) H1 xs vs) (dv : DVs K dds dvs)
    (k1 : KG K W σ (PV K Q H) m H (g (xs ++ dds) S1)) : SpD K ps.length g (vs ++ dvs) H1 Q (WE W σ) :=
  ⟨hn, m ++ e1, xs ++ dds, S1, s1, vr.app (dv _ _), (k1.rest he fun e2 H2 S2 a h2 q v r => q v (r.back he)).cut fun _ _ _ w => w⟩
/-- f(..), f a def of the module; n: how many arguments are written -/
theorem sx_call {n : Nat} {dvs : List V} (F : FnG X.prog X.w X.K X.mg X.base k f fd ps g) (hr : Room k X.A) (hg : X.A.guards = some []) (hgl : Gl X x) (hm : X.mg x = some (.ref f)) (hk : PySem.W.keepIn X.K (.ref f) = true) (hb : Binds X.K fd ps ds) (hd : Vals dvs ds) (dv : DVs X.K dds dvs)
    (tk : Takes X W) (ha : SA X W (e :: es) fa) (hl : LenA fa n) (hn : n + dvs.length = ps.length := by rfl) (hdb : (x == ("__debug__" : Str)) = false := by decide) (he : starEach (e :: es) X.env = (false, eval e X.env) :: starEach es X.env := by rfl) (hpl : (backTo pos (starEach es X.env)).any (·.1) = false := by rfl) :
    SX X W (.Call (.Name x p) (e :: es) [] pos) (runF g dds fa) := by
  refine ⟨fun pins s σ H Q I ⟨m, env, S, sim, er, k⟩ => ?_⟩
  refine wpAny_Call_Name_kw (ld_glob I hgl hm ?_ hdb)
  refine PySem.W.callWith_K (h₀ := X.base) I.ok.mod.kin hk (thn (ha.run pos pins s σ H (fun vs H1 => SpD X.K ps.length g (vs ++ dvs) H1 Q (WE W σ)) I ⟨m, env, S, sim, er, ?_⟩) fun us s1 ⟨vs, H1, I1, r, q⟩ => ⟨I1.kIn, ?_⟩) he hpl
  · unfold runF at k
    cases q : fa env S with
    | ok xs S1 =>
      rw [q] at k
      intro H1 e1 s1 h1 vs vr
      exact sp_call (by rw [List.length_append, vr.length, hl _ _ _ _ q]; exact hn) s1 h1 vr dv k
    | ex => rw [q] at k; exact k
    | bad => rw [q] at k; exact k
  · exact run_g F hr hg hb hd (passAt tk σ) I1 r q
theorem sx_call0 {dvs : List V} (F : FnG X.prog X.w X.K X.mg X.base k f fd ps g) (hr : Room k X.A) (hg : X.A.guards = some []) (hgl : Gl X x) (hm : X.mg x = some (.ref f)) (hk : PySem.W.keepIn X.K (.ref f) = true) (hb : Binds X.K fd ps ds) (hd : Vals dvs ds) (dv : DVs X.K dds dvs)
    (tk : Takes X W) (hn : dvs.length = ps.length := by rfl) (hdb : (x == ("__debug__" : Str)) = false := by decide) : SX X W (.Call (.Name x p) [] [] pos) (runF g dds nilA) := by
  refine ⟨fun pins s σ H Q I ⟨m, env, S, sim, er, k⟩ => ?_⟩
  refine wpAny_Call_Name_kw (ld_glob I hgl hm ?_ hdb)
  refine PySem.W.callWith_K0 I.kIn hk (run_g (us := []) (vs := []) F hr hg hb hd (passAt tk σ) I .nil ?_)
  have := sp_call (ps := ps) (W := W) (σ := σ) (e1 := []) (xs := []) (vs := []) (dvs := dvs) (dds := dds) (g := g) (Q := Q) (by simpa using hn) (by simpa using sim) (HE.refl (m := m)) (by simpa using VRs.nil) dv k
  exact this
end
end Ah

set_option maxHeartbeats 1000000
namespace Ah
open PySem PySem.Spec PyProof.Rows L2

/-! ### statements -/
def R.toS {α : Type} (r : R α) (env : En) (k : α → Sto → RS) : RS := match r with
  | .ok a S => k a S
  | .ex C fs S => .ex C fs env S
  | .bad => .bad
@[simp] theorem toS_ok {α : Type} (a : α) (S : Sto) (env : En) (k : α → Sto → RS) : (R.ok a S).toS env k = k a S := rfl
@[simp] theorem toS_ex {α : Type} (C : Str) (fs : List (Str × D)) (S : Sto) (env : En) (k : α → Sto → RS) : (R.ex C fs S : R α).toS env k = .ex C fs env S := rfl
@[simp] theorem toS_bad {α : Type} (env : En) (k : α → Sto → RS) : (R.bad : R α).toS env k = .bad := rfl
section
variable {K : PySem.W.Frag} {W : WX} {Dn : Ends} {m : List Addr} {H : Hp} {env : En} {σ : L2.St}
/-- an expression in a statement -/
theorem KS.ex0 {α : Type} {P : List Addr → Hp → Sto → α → Prop} {r : R α} {k : α → Sto → RS} (h : KS K W Dn m H (r.toS env k)) (er : ER K m H env σ) (f : ∀ e H1 S1 a, Sim K (m ++ e) S1 H1 → HE m e H H1 → KS K W Dn m H (k a S1) → P (m ++ e) H1 S1 a) : KG K W σ P m H r := by
  cases r with
  | ok a S' => exact fun H' e s he => f e H' S' a s he h
  | ex C fs S' => exact fun dd H' e s he x => h dd σ H' e s he (er.on he) x
  | bad => exact h
theorem KS.exN {α : Type} {P : List Addr → Hp → Sto → α → Prop} {r : R α} {k : α → Sto → RS} {e : List Addr} {H1 : Hp} (h : KS K W Dn m H (r.toS env k)) (er : ER K m H env σ) (he : HE m e H H1) (f : ∀ e2 H2 S2 a, Sim K (m ++ (e ++ e2)) S2 H2 → HE (m ++ e) e2 H1 H2 → HE m (e ++ e2) H H2 → KS K W Dn m H (k a S2) → P (m ++ (e ++ e2)) H2 S2 a) : KG K W σ P (m ++ e) H1 r := by
  cases r with
  | ok a S' =>
    intro H' e' s he'
    rw [List.append_assoc] at s ⊢
    exact f e' H' S' a s he' (he.trans he') h
  | ex C fs S' =>
    intro dd H' e' s he' x
    rw [List.append_assoc] at s x
    exact h dd σ H' (e ++ e') s (he.trans he') (er.on (he.trans he')) (x.back he)
  | bad => exact h
end
def seqS (a b : FS) : FS := fun env S => match a env S with
  | .nx e S1 => b e S1
  | r => r
def nopS : FS := fun env S => .nx env S
def exprS (f : FE) : FS := fun env S => (f env S).toS env fun _ S1 => .nx env S1
def retS (f : FE) : FS := fun env S => (f env S).toS env fun d S1 => .rt d S1
def retN : FS := fun _ S => .rt .non S
def ifS (t : FT) (a b : FS) : FS := fun env S => (t env S).toS env fun c S1 => if c = true then a env S1 else b env S1
def brkS : FS := fun env S => .bk env S
def cntS : FS := fun env S => .ct env S
def setS (i : Nat) (f : FE) : FS := fun env S => (f env S).toS env fun d S1 => .nx (env.set i (some d)) S1
def nevS : FS := fun _ _ => .bad
section
variable {X : Cx} {W : WX} {pos pos' : Pos} {st : Stmt} {rest a b : List Stmt} {fa fb : FS} {e : Expr} {fe : FE}
theorem to_seq {K : PySem.W.Frag} {Dn : Ends} {σ : L2.St} {H : Hp} (h : TSf K W (seqS fa fb) Dn σ H) : tSeq (TSf K W fa) (TSf K W fb) Dn σ H := by
  obtain ⟨m, env, S, s, er, k⟩ := h
  refine ⟨m, env, S, s, er, ?_⟩
  unfold seqS at k
  cases q : fa env S with
  | nx e1 S1 =>
    rw [q] at k
    exact fun σ' H' e s' he er' => ⟨m ++ e, e1, S1, s', er', k.shift he⟩
  | rt => rw [q] at k; exact k
  | bk => rw [q] at k; exact k
  | ct => rw [q] at k; exact k
  | ex => rw [q] at k; exact k
  | bad => rw [q] at k; exact k
theorem now_nx {K : PySem.W.Frag} {Dn : Ends} {σ : L2.St} {m : List Addr} {H : Hp} {env : En} {S : Sto} (k : KS K W Dn m H (.nx env S)) (s : Sim K m S H) (er : ER K m H env σ) : Dn.nx σ H := by
  have := k σ H [] (by simpa using s) HE.refl
  rw [List.append_nil] at this
  exact this er
theorem sss_nil : SSs X W [] nopS := pss_imp pss_nil fun Dn σ H ⟨m, env, S, s, er, k⟩ => now_nx k s er
theorem sss_cons (h1 : SS X W st fa) (h2 : SSs X W rest fb) : SSs X W (st :: rest) (seqS fa fb) := pss_imp (pss_cons h1 h2) fun Dn σ H h => to_seq h
theorem sss_one (h1 : SS X W st fa) : SSs X W [st] fa := pss_one h1
theorem ss_pass : SS X W (.Pass pos) nopS := ps_imp ps_pass fun Dn σ H ⟨m, env, S, s, er, k⟩ => now_nx k s er
theorem ss_never : SS X W st nevS := ps_imp ps_never fun Dn σ H ⟨m, env, S, s, er, k⟩ => k
theorem sss_never {sts : List Stmt} : SSs X W sts nevS := pss_imp pss_never fun Dn σ H ⟨m, env, S, s, er, k⟩ => k
theorem ss_break : SS X W (.Break pos) brkS := ps_imp ps_break fun Dn σ H ⟨m, env, S, s, er, k⟩ => by
  have := k σ H [] (by simpa using s) HE.refl
  rw [List.append_nil] at this
  exact this er
theorem ss_continue : SS X W (.Continue pos) cntS := ps_imp ps_continue fun Dn σ H ⟨m, env, S, s, er, k⟩ => by
  have := k σ H [] (by simpa using s) HE.refl
  rw [List.append_nil] at this
  exact this er
theorem ss_expr (he : SX X W e fe) (hs : swapsWith e none pos.line X.env = pure false := by rfl) : SS X W (.Expr e pos) (exprS fe) :=
  ps_imp (ps_expr he hs) fun Dn σ H ⟨m, env, S, s, er, k⟩ => ⟨m, env, S, s, er, k.ex0 er fun e1 H1 S1 d s1 he k1 v vr => k1 σ H1 e1 s1 he (er.on he)⟩
theorem ss_ret (he : SE X W e fe) : SS X W (.Return (some e) pos) (retS fe) :=
  ps_imp (ps_ret he) fun Dn σ H ⟨m, env, S, s, er, k⟩ => ⟨m, env, S, s, er, k.ex0 er fun e1 H1 S1 d s1 he k1 v vr => k1 v H1 e1 s1 he vr⟩
theorem ss_retN : SS X W (.Return none pos) retN := ps_imp ps_retN fun Dn σ H ⟨m, env, S, s, er, k⟩ => by
  have := k .non H [] (by simpa using s) HE.refl
  exact this vr_non
theorem ss_if {c : Expr} {t : FT} (hc : ST X W c t) (ha : SSs X W a fa) (hb : SSs X W b fb) : SS X W (.If c a b pos) (ifS t fa fb) :=
  ps_imp (ps_if hc ha hb) fun Dn σ H ⟨m, env, S, s, er, k⟩ => ⟨m, env, S, s, er, k.ex0 er fun e1 H1 S1 c s1 he k1 => by
    show if c = true then _ else _
    cases c with
    | true => exact ⟨m ++ e1, env, S1, s1, er.on he, k1.shift he⟩
    | false => exact ⟨m ++ e1, env, S1, s1, er.on he, k1.shift he⟩⟩
theorem ss_set {i : Nat} {x : Str} (hN : X.N.Nodup) (hi : X.N[i]? = some x) (hx : Loc X.env.scope x) (he : SE X W e fe) (hs : swapsWith e (some (.Name x pos')) pos.line X.env = pure false := by rfl) (hf : X.fn x = true ∨ X.env.scope.names.lookup x = some .local := by first | exact .inl rfl | exact .inr rfl | assumption) :
    SS X W (.Assign [.Name x pos'] e pos) (setS i fe) :=
  ps_imp (ps_set hN hi hx he hs hf) fun Dn σ H ⟨m, env, S, s, er, k⟩ => ⟨m, env, S, s, er, k.ex0 er fun e1 H1 S1 d s1 he k1 v vr => k1 _ H1 e1 s1 he ((er.on he).set vr)⟩
end

/-! ### targets -/
abbrev FTg := D → En → Option En
def Kp (ws : List Nat) (σ σ' : L2.St) : Prop := ∀ vs : List Nat, (∀ i ∈ ws, i ∈ vs) → wipe σ' vs = wipe σ vs
theorem wipe_get (σ : L2.St) (j : Nat) : ∀ vs : List Nat, (wipe σ vs)[j]? = if j ∈ vs ∧ j < σ.length then some none else σ[j]?
  | [] => by simp [wipe]
  | v :: vs => by
    unfold wipe
    by_cases e : v = j
    · subst e
      by_cases hl : v < σ.length
      · rw [List.getElem?_set_self (by rw [wipe_length]; exact hl)]
        simp [hl]
      · rw [List.getElem?_eq_none (by simp [wipe_length]; omega)]
        rw [if_neg (fun z => hl z.2), List.getElem?_eq_none (by omega)]
    · rw [List.getElem?_set_ne e, wipe_get σ j vs]
      have : (j ∈ v :: vs) ↔ j ∈ vs := by simp [Ne.symm e]
      simp only [this]
theorem Kp.refl {ws : List Nat} {σ : L2.St} : Kp ws σ σ := fun _ _ => rfl
theorem Kp.set {i : Nat} {σ : L2.St} {x : Option V} : Kp [i] σ (σ.set i x) := fun vs h => by
  have hi : i ∈ vs := h i (by simp)
  apply List.ext_getElem?
  intro j
  rw [wipe_get, wipe_get, List.length_set]
  by_cases c : j ∈ vs ∧ j < σ.length
  · rw [if_pos c, if_pos c]
  · rw [if_neg c, if_neg c]
    by_cases e : i = j
    · subst e
      have hl : ¬ i < σ.length := fun z => c ⟨hi, z⟩
      rw [List.getElem?_eq_none (by simp; omega), List.getElem?_eq_none (by omega)]
    · rw [List.getElem?_set_ne e]
theorem Kp.comp {ws ws' : List Nat} {σ σ1 σ2 : L2.St} (a : Kp ws σ σ1) (b : Kp ws' σ1 σ2) : Kp (ws ++ ws') σ σ2 := fun vs h =>
  (b vs fun i hi => h i (List.mem_append_right _ hi)).trans (a vs fun i hi => h i (List.mem_append_left _ hi))
def TGf (K : PySem.W.Frag) (ws : List Nat) (f : FTg) : TG := fun v σ H Q => ∃ m env d env', ER K m H env σ ∧ VR K m H d v ∧ f d env = some env' ∧ ∀ σ', ER K m H env' σ' → Kp ws σ σ' → Q σ' H
abbrev FTs := List D → En → Option En
def TGsf (K : PySem.W.Frag) (ws : List Nat) (f : FTs) : TGs := fun vs σ H Q => ∃ m env ds env', ER K m H env σ ∧ VRs K m H ds vs ∧ f ds env = some env' ∧ ∀ σ', ER K m H env' σ' → Kp ws σ σ' → Q σ' H
abbrev SG (X : Cx) (t : Expr) (ws : List Nat) (f : FTg) : Prop := PG X t (TGf X.K ws f)
abbrev SGs (X : Cx) (ts : List Expr) (ws : List Nat) (f : FTs) : Prop := PGs X ts (TGsf X.K ws f)
def nmG (i : Nat) : FTg := fun d env => some (env.set i (some d))
def nilG : FTs := fun ds env => match ds with
  | [] => some env
  | _ => none
def consG (f : FTg) (g : FTs) : FTs := fun ds env => match ds with
  | [] => none
  | d :: r => (f d env).bind fun e => g r e
def tupG (n : Nat) (g : FTs) : FTg := fun d env => match d with
  | .tup ds => if ds.length = n then g ds env else none
  | _ => none
section
variable {X : Cx} {pos : Pos}
theorem sg_name {i : Nat} {x : Str} (hN : X.N.Nodup) (hi : X.N[i]? = some x) (hx : Loc X.env.scope x) (hf : X.fn x = true ∨ X.env.scope.names.lookup x = some .local := by first | exact .inl rfl | exact .inr rfl | assumption) : SG X (.Name x pos) [i] (nmG i) :=
  ⟨fun pins s σ H v u Q I r ⟨m, env, d, env', er, vr, e, k⟩ => (pg_name hN hi hx hf).run pins s σ H v u Q I r (k _ (by
    have e' : env.set i (some d) = env' := Option.some.inj e
    rw [← e']
    exact er.set vr) Kp.set)⟩
theorem sgs_nil : SGs X [] [] nilG := ⟨fun pins s σ H vs us Q I r ⟨m, env, ds, env', er, vr, e, k⟩ => pgs_nil.run pins s σ H vs us Q I r (by
  cases ds with
  | nil =>
    refine ⟨VRs.nil_iff.mp vr, k σ ?_ Kp.refl⟩
    have e' : env = env' := Option.some.inj e
    rw [← e']; exact er
  | cons d r => cases e)⟩
theorem sgs_cons {e : Expr} {es : List Expr} {f : FTg} {g : FTs} {ws ws' : List Nat} (h1 : SG X e ws f) (h2 : SGs X es ws' g) (hs : (assignEach (e :: es) X.env).map (·.2) = assign e X.env :: (assignEach es X.env).map (·.2) := by rfl) : SGs X (e :: es) (ws ++ ws') (consG f g) :=
  ⟨fun pins s σ H vs us Q I r ⟨m, env, ds, env', er, vr, e, k⟩ => (pgs_cons h1 h2 hs).run pins s σ H vs us Q I r (by
    cases ds with
    | nil => cases e
    | cons d ds =>
      obtain ⟨v, rr, rfl, a, b⟩ := VRs.cons_iff.mp vr
      replace e : (f d env).bind (fun e => g ds e) = some env' := e
      cases q : f d env with
      | none => rw [q] at e; cases e
      | some e1 =>
        rw [q] at e
        exact ⟨v, rr, rfl, m, env, d, e1, er, a, q, fun σ' er' kp => ⟨m, e1, ds, env', er', b, e, fun σ2 er2 kp2 => k σ2 er2 (kp.comp kp2)⟩⟩)⟩
theorem sg_tup {es : List Expr} {kk : Nat} {g : FTs} {n : Nat} {ws : List Nat} (hc : X.calm = true) (h : SGs X es ws g) (hn : (assignEach es X.env).length = n := by rfl) (hst : (assignEach es X.env).findIdx? (·.1) = none := by rfl) : SG X (.Tuple es kk pos) ws (tupG n g) :=
  ⟨fun pins s σ H v u Q I r ⟨m, env, d, env', er, vr, e, k⟩ => (pg_tup hc h hn hst).run pins s σ H v u Q I r (by
    cases d with
    | tup ds =>
      replace e : (if ds.length = n then g ds env else none) = some env' := e
      split at e
      · rename_i hl
        obtain ⟨p, xs, rfl, sq, rr⟩ := tup_ok (H0 := H) (show VX X.K H m H (.tup ds) v from vr)
        exact ⟨p, xs, rfl, sq, by rw [rr.length]; exact hl, m, env, ds, env', er, rr, e, k⟩
      · cases e
    | _ => cases e)⟩
end
/-- target = e -/
def asgS (f : FE) (g : FTg) : FS := fun env S => (f env S).toS env fun d S1 => match g d env with
  | some env' => .nx env' S1
  | none => .bad
section
variable {X : Cx} {W : WX} {pos : Pos} {tg e : Expr} {fe : FE} {g : FTg} {ws : List Nat}
theorem ss_asg (he : SE X W e fe) (hg : SG X tg ws g) (hs : swapsWithSole [tg] e pos.line X.env = pure false := by rfl) (hw : swappedStores [tg] e X.env = pure none := by rfl)
    (h1 : (assignEach [tg] X.env).map (·.2) = [assign tg X.env] := by rfl) : SS X W (.Assign [tg] e pos) (asgS fe g) :=
  ps_imp (ps_asg he hg hs hw h1) fun Dn σ H ⟨m, env, S, s, er, k⟩ => ⟨m, env, S, s, er, k.ex0 er fun e1 H1 S1 d s1 he k1 v vr => by
    split at k1
    · rename_i env' q
      exact ⟨m ++ e1, env, d, env', er.on he, vr, q, fun σ' er' _ => k1 σ' H1 e1 s1 he er'⟩
    · exact k1.elim⟩
/-- a, b = x, y with plain local names -/
def parS (i j : Nat) (fa : FA) : FS := fun env S => (fa env S).toS env fun ds S1 => match ds with
  | [a, b] => .nx ((env.set i (some a)).set j (some b)) S1
  | _ => .bad
theorem ss_par {i j : Nat} {x y : Str} {a b : Expr} {fa : FA} {px py pt : Pos} {kt k2 pt2} (hc : X.calm = true) (hN : X.N.Nodup) (hi : X.N[i]? = some x) (hj : X.N[j]? = some y) (hij : i ≠ j)
    (hx : X.env.scope.names.lookup x = some .local) (hy : X.env.scope.names.lookup y = some .local) (ha : SA X W [a, b] fa)
    (hw : swappedStores [.Tuple [.Name x px, .Name y py] kt pt] (.Tuple [a, b] k2 pt2) X.env = pure (some [x, y]))
    (hs : swapsWithSole [.Tuple [.Name x px, .Name y py] kt pt] (.Tuple [a, b] k2 pt2) pos.line X.env = pure false := by rfl) :
    SS X W (.Assign [.Tuple [.Name x px, .Name y py] kt pt] (.Tuple [a, b] k2 pt2) pos) (parS i j fa) :=
  ps_imp (ps_par hc hN hi hj hij hx hy ha hw hs) fun Dn σ H ⟨m, env, S, s, er, k⟩ => ⟨m, env, S, s, er, k.ex0 er fun e1 H1 S1 ds s1 he k1 vs vr => by
    split at k1
    · rename_i a b
      obtain ⟨v, r1, rfl, va, r2⟩ := VRs.cons_iff.mp vr
      obtain ⟨w, r3, rfl, vb, r4⟩ := VRs.cons_iff.mp r2
      rw [VRs.nil_iff.mp r4]
      exact ⟨v, w, rfl, k1 _ H1 e1 s1 he (((er.on he).set va).set vb)⟩
    · exact k1.elim⟩
end

/-! ### what a loop walks -/
/-- the items, and what must stay true of the store meanwhile -/
structure Its where
  items : List D
  safe : Sto → Prop
def WalkD (K : PySem.W.Frag) (J : It) (ds : List D) (safe : Sto → Prop) (m : List Addr) (H : Hp) : Prop :=
  ∀ (e : List Addr) (S' : Sto) (H' : Hp), Sim K (m ++ e) S' H' → HE m e H H' → safe S' →
    J.stop ds.length H' ∧ ∀ (i : Nat) (d : D), ds[i]? = some d → J.go i H' ∧ ∀ x H'', J.yld i H' x H'' → Sim K (m ++ e) S' H'' ∧ HE (m ++ e) [] H' H'' ∧ VR K (m ++ e) H'' d x
abbrev FI := En → Sto → R Its
abbrev PI_ (K : PySem.W.Frag) (Rr : It → Hp → Prop) : List Addr → Hp → Sto → Its → Prop := fun m H S w => ∀ J, WalkD K J w.items w.safe m H → Rr J H
def TIf (K : PySem.W.Frag) (W : WX) (f : FI) : TI := fun σ H Rr => ∃ m env S, Sim K m S H ∧ ER K m H env σ ∧ KG K W σ (PI_ K Rr) m H (f env S)
abbrev SI (X : Cx) (W : WX) (tg iter : Expr) (f : FI) : Prop := PI X tg iter (TIf X.K W f)
theorem pi_imp {X : Cx} {tg iter : Expr} {t t' : TI} (h : PI X tg iter t) (w : ∀ σ H R, t' σ H R → t σ H R) : PI X tg iter t' := ⟨fun pins s σ H R I q => h.run pins s σ H R I (w σ H R q)⟩
open Classical in
noncomputable def loopF (g : FTg) (safe : Sto → Prop) (b : FS) : List D → En → Sto → RS
  | [], env, S => .nx env S
  | d :: ds, env, S => match g d env with
    | none => .bad
    | some e1 => match b e1 S with
      | .nx e2 S2 => if safe S2 then loopF g safe b ds e2 S2 else .bad
      | .ct e2 S2 => if safe S2 then loopF g safe b ds e2 S2 else .bad
      | .bk e2 S2 => .nx e2 S2
      | r => r
open Classical in
noncomputable def forS (fi : FI) (g : FTg) (b : FS) : FS := fun env S => (fi env S).toS env fun w S1 => if w.safe S1 then loopF g w.safe b w.items env S1 else .bad
section
variable {X : Cx} {W : WX} {pos : Pos} {tg iter : Expr} {body : List Stmt} {fi : FI} {g : FTg} {fb : FS} {ws : List Nat}
theorem to_for {K : PySem.W.Frag} {Dn : Ends} {σ : L2.St} {H : Hp} (h : TSf K W (forS fi g fb) Dn σ H) : tFor (TIf K W fi) (TGf K ws g) (TSf K W fb) Dn σ H := by
  obtain ⟨m, env, S, s, er, k⟩ := h
  refine ⟨m, env, S, s, er, k.ex0 er fun e0 H1 S1 w s1 he k1 => ?_⟩
  split at k1
  case isFalse => exact k1.elim
  rename_i sf0
  have ks : KS K W Dn (m ++ e0) H1 (loopF g w.safe fb w.items env S1) := k1.shift he
  have er1 := er.on he
  clear k k1 he er s
  generalize m ++ e0 = m at *
  intro J wd
  refine ⟨fun i fuel σ H => ∃ e env' S', i ≤ w.items.length ∧ fuel = w.items.length - i ∧ Sim K (m ++ e) S' H ∧ HE m e H1 H ∧ ER K (m ++ e) H env' σ ∧ w.safe S' ∧ KS K W Dn m H1 (loopF g w.safe fb (w.items.drop i) env' S'),
    ⟨_, [], env, S1, Nat.zero_le _, rfl, by simpa using s1, HE.refl, by simpa using er1, sf0, by simpa using ks⟩, ?_⟩
  rintro i fuel σ2 H2 ⟨e, env', S', hi, hf, s2, he2, er2, sf, kk⟩
  obtain ⟨stop, step⟩ := wd e S' H2 s2 he2 sf
  by_cases hlt : i < w.items.length
  · right
    have hd : w.items[i]? = some w.items[i] := List.getElem?_eq_getElem hlt
    rw [List.drop_eq_getElem_cons hlt] at kk
    generalize w.items[i] = d at hd kk
    obtain ⟨go, yl⟩ := step i d hd
    unfold loopF at kk
    refine ⟨go, fun σ' H' => ∃ e env' S', Sim K (m ++ e) S' H' ∧ HE m e H1 H' ∧ ER K (m ++ e) H' env' σ' ∧ w.safe S' ∧ KS K W Dn m H1 (loopF g w.safe fb (w.items.drop (i + 1)) env' S'),
      fun σ' H' ⟨e, env', S', a, b, c, d, f⟩ => ⟨_, by omega, e, env', S', by omega, rfl, a, b, c, d, f⟩, fun x H3 y => ?_⟩
    obtain ⟨s3, he3, vr⟩ := yl x H3 y
    have he13 : HE m e H1 H3 := by
      have := he2.trans he3
      rwa [List.append_nil] at this
    have er3 : ER K (m ++ e) H3 env' σ2 := by
      have := er2.on he3
      rwa [List.append_nil] at this
    split at kk
    · exact kk.elim
    · rename_i e1 q
      refine ⟨m ++ e, env', d, e1, er3, vr, q, fun σ' er' _ => ⟨m ++ e, e1, S', s3, er', ?_⟩⟩
      split at kk
      · rename_i e2 S2 q2
        rw [q2]
        split at kk
        · rename_i sf2
          intro σ4 H4 e4 s4 he4 er4
          rw [List.append_assoc] at s4 er4
          exact ⟨e ++ e4, e2, S2, s4, he13.trans he4, er4, sf2, kk⟩
        · exact kk.elim
      · rename_i e2 S2 q2
        rw [q2]
        split at kk
        · rename_i sf2
          intro σ4 H4 e4 s4 he4 er4
          rw [List.append_assoc] at s4 er4
          exact ⟨e ++ e4, e2, S2, s4, he13.trans he4, er4, sf2, kk⟩
        · exact kk.elim
      · rename_i e2 S2 q2
        rw [q2]
        intro σ4 H4 e4 s4 he4 er4
        rw [List.append_assoc] at s4 er4
        exact kk σ4 H4 (e ++ e4) s4 (he13.trans he4) er4
      · rename_i n1 n2 n3
        cases q2 : fb e1 S' with
        | nx e2 S2 => exact absurd q2 (n1 _ _)
        | ct e2 S2 => exact absurd q2 (n2 _ _)
        | bk e2 S2 => exact absurd q2 (n3 _ _)
        | rt d2 S2 => rw [q2] at kk; exact kk.shift he13
        | ex C fs e2 S2 => rw [q2] at kk; exact kk.shift he13
        | bad => rw [q2] at kk; exact kk.elim
  · left
    have : i = w.items.length := by omega
    subst this
    rw [List.drop_length] at kk
    exact ⟨stop, kk σ2 H2 e s2 he2 er2⟩
theorem ss_for (hp : PassesOwn (model X.prog X.w) X.A X.env X.xe) (hc : X.calm = true) (hi : SI X W tg iter fi) (hg : SG X tg ws g) (hb : SSs X W body fb)
    (hs : ∀ x, foldedSetIterable iter X.env x = pure x := by intro _; rfl) : SS X W (.For tg iter body [] pos) (forS fi g fb) :=
  ps_imp (ps_for hp hc hi hg hb hs) fun Dn σ H h => to_for h
end
end Ah

set_option maxHeartbeats 1000000
namespace PySem
open Sem (wp)
open AutoSeq1 (wpAny_loadPart')
set_option maxHeartbeats 1000000 in
theorem meets_enumerate_new1 {v : Value} {o : Obj} {H : Heap → Prop} (B : Begins v o H) :
    Meets (Builtin.«enumerate.__new__» ⟨[.type "enumerate", v], []⟩) (fun _ R s => H s.heap ∧
      R (.ok (.ret (.ref (s.heap.push o).objs.size))) { s with heap := (s.heap.push o).push { cls := .type "enumerate", data := .fields #[.none, .bool false, .ref s.heap.objs.size, rawInt 0, .none, .none] } }) :=
  .of_wp fun prog w A R s h => by
    obtain ⟨hp, g, d, tk, os⟩ := s; obtain ⟨h1, h⟩ := h
    have hsub := sub_enumerate
    have q1 : ∀ {A' : Around} {E : Value → Shared → Prop} {Q : Value → Shared → Prop}, Q (.ref hp.objs.size) ⟨hp.push o, g, d, tk, os⟩ → wpAny (model prog w) A' (pyIter v) Q E ⟨hp, g, d, tk, os⟩ :=
      fun q => B.iter prog w _ _ ⟨hp, g, d, tk, os⟩ _ h1 q
    wp_walk using q1
    refine wpAny_stack_any fun st => wpAny_pure ?_
    split
    · rename_i c _ _ _ _ _
      cases (c == Value.type "enumerate")
      · wp_walk using q1
        exact ⟨_, rfl, h⟩
      · wp_walk using q1
        exact ⟨_, rfl, h⟩
    · wp_walk using q1
      exact ⟨_, rfl, h⟩
theorem enum_begins1 {prog : Program} {w : World} {A : Around} {E : Value → Shared → Prop} {s : Shared} {v : Value} {o : Obj} {H : Heap → Prop} {Q : Value → Shared → Prop} (B : Begins v o H) (h1 : H s.heap)
    (h : ∀ h', IsEnum h' (s.heap.objs.size + 1) s.heap.objs.size 0 .none → h'.get? s.heap.objs.size = some o → h'.objs.size = s.heap.objs.size + 2 →
      (∀ b o, s.heap.get? b = some o → h'.get? b = some o) → Q (.ref (s.heap.objs.size + 1)) { s with heap := h' }) :
    wpAny (model prog w) A (call (.type "enumerate") [v]) Q E s := by
  refine callType_new F.called_enumerate (by decide) (F.typeCall_enumerate_1 _) (F.newCall_enumerate_1 _) (fun obj => F.args_object_init_2 obj _) F.entry_enumerate_new
    (meets_enumerate_new1 B) ⟨h1, ?_⟩
  have hz : (s.heap.push o).objs.size = s.heap.objs.size + 1 := Heap.size_push ..
  show _ ∧ _
  rw [hz]
  have he : IsEnum ((s.heap.push o).push { cls := .type "enumerate", data := .fields #[.none, .bool false, .ref s.heap.objs.size, rawInt 0, .none, .none] }) (s.heap.objs.size + 1) s.heap.objs.size 0 .none := by
    have := Heap.get?_push_size (s.heap.push o) (o := { cls := .type "enumerate", data := .fields #[.none, .bool false, .ref s.heap.objs.size, rawInt 0, .none, .none] }) rfl
    rw [hz] at this; exact this
  exact ⟨⟨_, he, rfl⟩, h _ he (Heap.get?_push_of_some _ (Heap.get?_push_size _ B.free)) (by rw [Heap.size_push, hz]) fun b o x => Heap.get?_push_of_some _ (Heap.get?_push_of_some _ x)⟩
end PySem
namespace Ah
open PySem PySem.Spec PyProof.Rows L2

/-! ### enumerate over a tuple -/
def IteT (K : PySem.W.Frag) (a : Addr) : It :=
  ⟨fun i H => ∃ (xs : List V) (x : V), SqT K H a xs ∧ xs[i]? = some x, fun i H v H' => ∃ T x, v = .ref T ∧ H T = none ∧ H' = upd H T (.tup [.int (i : Nat), x]) ∧ ∀ xs, SqT K H a xs → xs[i]? = some x, fun i H => ∃ xs : List V, SqT K H a xs ∧ xs.length = i⟩
theorem turn_enumT {P : Program} {w : World} {K : PySem.W.Frag} {elts : List Expr} {kk : Nat} {tpos : Pos} (a e it : Addr) :
    Turn P w K (.Tuple elts kk tpos) (IteT K a) [e, it] e (fun i h => (∃ old, IsEnum h e it ((i : Nat) : Int) old) ∧ h.IsTupleIter it a i ∧ e ≠ it) where
  mem := by simp
  obj := fun i h st b hb => by
    obtain ⟨⟨old, he⟩, ⟨o, ho, hc, hd⟩, _⟩ := st
    have e' : b = e ∨ b = it := by simpa using hb
    rcases e' with z | z
    · rw [z]; exact ⟨_, he, fun v q => nomatch q⟩
    · rw [z]; exact ⟨o, ho, fun v q => by rw [hd] at q; cases q⟩
  keep := fun i h h' st k => let ⟨⟨old, he⟩, hi, hne⟩ := st; ⟨⟨old, k e (by simp) _ he⟩, hi.at fun o q => k it (by simp) o q, hne⟩
  item := by
    intro X hP hw hK hc i pins s σ H E I hf st hg
    subst hP hw hK
    obtain ⟨⟨old, he⟩, hit, hne⟩ := st
    obtain ⟨xs, x, hq, hx⟩ := hg
    obtain ⟨its, rv, p, hz⟩ := I.tuple hq
    have p : s.heap.IsTuple a its.toArray := p
    obtain ⟨u, hu, ru⟩ := rv.get hx
    have hel : e < s.heap.objs.size := Heap.lt_size he
    have hil : it < s.heap.objs.size := by obtain ⟨_, q, _⟩ := hit; exact Heap.lt_size q
    have hae : e ≠ a := fun z => by
      subst z
      obtain ⟨o, e1, e2, _⟩ := p
      rw [he] at e1
      cases e1
      exact absurd (Value.type.inj e2) (by decide)
    have hai : a ≠ it := fun z => by
      subst z
      obtain ⟨o, e1, e2, _⟩ := p
      obtain ⟨o', e1', e2', _⟩ := hit
      rw [e1] at e1'
      cases e1'
      rw [e2] at e2'
      exact absurd e2' (by decide)
    have hlt : i < its.toArray.size := by
      have := (List.getElem?_eq_some_iff.mp hu).1
      simpa using this
    refine wpAny_pyNext_enum_itemD (Draws.tuple (show X.A.in1.handled = none from I.ok.hd hc) it a hai its.toArray) he ⟨hit, p⟩ hlt hne (by simp [hne, hae]) fun x' h' tk px ho hst' hT hsz hk => ?_
    have exu : x' = u := by
      have px : its.toArray[i]? = some x' := px
      rw [show its.toArray[i]? = some u by simpa using hu] at px
      exact (Option.some.inj px).symm
    subst exu
    refine ⟨_, rfl, wpAny_letOwnedTupleGo_enum (s := { s with heap := h', toks := tk + 1 }) ho fun h'' he' sb => ?_⟩
    have hT2 : h''.get? s.heap.objs.size = some { cls := .type "tuple", data := .seq #[.int i tk, x'] } := (sb.2 _ (Nat.ne_of_gt hel)).trans hT
    have new : ObjOk X.prog X.w (upd H s.heap.objs.size (.tup [.int (i : Nat), x])) h'' s.heap.objs.size (.tup [.int (i : Nat), x]) :=
      ⟨by show 2 ≤ sizeLine; decide, [.int i tk, x'], .cons ⟨_, rfl⟩ (.cons ru .nil), ⟨_, hT2, rfl, _, rfl⟩⟩
    have I1 : Inv X pins σ (upd H s.heap.objs.size (.tup [.int (i : Nat), x])) { s with heap := h'', toks := tk + 1 } :=
      I.turnedNew (ch := [e, it]) (fun b ob hb q => (sb.2 b (fun z => hb (by simp [z]))).trans (hk b ob (fun z => hb (by simp [z])) (fun z => hb (by simp [z])) q)) hf (Nat.le_refl _) new
    refine ⟨.ref s.heap.objs.size, _, I1, rfl, ⟨_, x, rfl, I.hok.fresh (Nat.le_refl _), rfl, fun ys hy => by rw [I.tuple_inj hy hq]; exact hx⟩, ⟨⟨x', ?_⟩, hst'.1.at fun o q => (sb.2 it (Ne.symm hne)).trans q, hne⟩, fun b hb => ?_⟩
    · have e1 : ((i + 1 : Nat) : Int) = (i : Int) + 1 := by omega
      rw [e1]; exact he'
    · have hb' : b < s.heap.objs.size := by
        have e' : b = e ∨ b = it := by simpa using hb
        rcases e' with z | z
        · rw [z]; exact hel
        · rw [z]; exact hil
      rw [upd_ne (Nat.ne_of_lt hb')]
      exact (hf b hb).1
  done := by
    intro X hP hw hK hc i pins s σ H E I hf st hg
    subst hP hw hK
    obtain ⟨⟨old, he⟩, hit, hne⟩ := st
    obtain ⟨xs, hq, hx⟩ := hg
    obtain ⟨its, rv, p, hz⟩ := I.tuple hq
    have p : s.heap.IsTuple a its.toArray := p
    obtain ⟨f0, f1, f2, f3, f4, f5⟩ := hf it (by simp)
    have hl := rv.length
    have hai : a ≠ it := fun z => by
      subst z
      obtain ⟨o, e1, e2, _⟩ := p
      obtain ⟨o', e1', e2', _⟩ := hit
      rw [e1] at e1'
      cases e1'
      rw [e2] at e2'
      exact absurd e2' (by decide)
    have e1 : i = its.toArray.size := by simp; omega
    subst e1
    exact wpAny_pyNext_enum_endD (Draws.tuple (show X.A.in1.handled = none from I.ok.hd hc) it a hai its.toArray) he ⟨hit, p⟩ fun h' eb => ⟨rfl, I.turned (t' := s.toks) (fun b o hb q => eb b o hb q) f0 f1 f3 f4 f5⟩
  self := fun A i s Q E st h => let ⟨⟨_, he⟩, _⟩ := st; wpAny_pyIter_enum he h

/-! ### sequences walked -/
section
variable {K : PySem.W.Frag} {m : List Addr} {H : Hp} {ds : List D} {safe : Sto → Prop}
theorem HE.on0 {m e : List Addr} {H H' : Hp} (h : H' = H) : HE (m ++ e) [] H H' := by rw [h]; exact HE.refl
theorem walk_l {a : Addr} (h : ∀ (e : List Addr) (S' : Sto) (H' : Hp), Sim K (m ++ e) S' H' → HE m e H H' → safe S' → ∃ xs, SqL K H' a xs ∧ VRs K (m ++ e) H' ds xs) : WalkD K (Itl K a) ds safe m H := fun e S' H' s he sf => by
  obtain ⟨xs, q, r⟩ := h e S' H' s he sf
  refine ⟨⟨xs, q, Nat.le_of_eq r.length⟩, fun i d hd => ?_⟩
  obtain ⟨v, hv, rv⟩ := r.get hd
  refine ⟨⟨xs, v, q, hv⟩, fun x H'' ⟨e1, y⟩ => ?_⟩
  subst e1
  have := y xs q
  rw [hv] at this
  cases this
  exact ⟨s, HE.refl, rv⟩
theorem walk_t {a : Addr} (h : ∀ (e : List Addr) (S' : Sto) (H' : Hp), Sim K (m ++ e) S' H' → HE m e H H' → safe S' → ∃ xs, SqT K H' a xs ∧ VRs K (m ++ e) H' ds xs) : WalkD K (Itt K a) ds safe m H := fun e S' H' s he sf => by
  obtain ⟨xs, q, r⟩ := h e S' H' s he sf
  refine ⟨⟨xs, q, Nat.le_of_eq r.length⟩, fun i d hd => ?_⟩
  obtain ⟨v, hv, rv⟩ := r.get hd
  refine ⟨⟨xs, v, q, hv⟩, fun x H'' ⟨e1, y⟩ => ?_⟩
  subst e1
  have := y xs q
  rw [hv] at this
  cases this
  exact ⟨s, HE.refl, rv⟩
def chrD (x : Str) : List D := x.cps.toList.map fun c => .str ⟨#[c]⟩
theorem walk_s {x : Str} : WalkD K (L2.Its x) (chrD x) safe m H := fun e S' H' s he sf => by
  refine ⟨?_, fun i d hd => ?_⟩
  · show x.cps.size ≤ (chrD x).length
    simp [chrD]
  · unfold chrD at hd
    rw [List.getElem?_map] at hd
    cases q : x.cps[i]? with
    | none => simp [q] at hd
    | some c =>
      have hd : D.str ⟨#[c]⟩ = d := by simpa [q] using hd
      subst hd
      refine ⟨(Array.getElem?_eq_some_iff.mp q).1, fun v H'' ⟨e1, c', e2, e3⟩ => ?_⟩
      subst e1
      rw [q] at e2
      cases e2
      exact ⟨s, HE.refl, by rw [e3]; exact vr_str⟩
def rngD (lo : Int) (n : Nat) : List D := (List.range n).map fun i : Nat => .int (lo + (i : Int))
theorem walk_r {lo : Int} {n : Nat} : WalkD K (Itr lo n) (rngD lo n) safe m H := fun e S' H' s he sf => by
  refine ⟨by show n ≤ (rngD lo n).length; simp [rngD], fun i d hd => ?_⟩
  unfold rngD at hd
  rw [List.getElem?_map] at hd
  by_cases hi : i < n
  · rw [List.getElem?_range hi] at hd
    have hd : D.int (lo + (i : Int)) = d := by simpa using hd
    subst hd
    refine ⟨hi, fun v H'' ⟨e1, e2⟩ => ?_⟩
    subst e1 e2
    exact ⟨s, HE.refl, vr_int⟩
  · rw [List.getElem?_eq_none (by simp; omega)] at hd
    cases hd
def enmD (ds : List D) : List D := ds.zipIdx.map fun p => .tup [.int ((p.2 : Nat) : Int), p.1]
theorem enmD_get {i : Nat} {d : D} (h : (enmD ds)[i]? = some d) : ∃ x, ds[i]? = some x ∧ d = .tup [.int (i : Nat), x] := by
  unfold enmD at h
  rw [List.getElem?_map, List.getElem?_zipIdx] at h
  cases q : ds[i]? with
  | none => simp [q] at h
  | some x =>
    simp [q] at h
    exact ⟨x, rfl, h.symm⟩
theorem enm_new {e : List Addr} {S' : Sto} {H' : Hp} {T : Addr} {i : Nat} {x : V} {d : D} (s : Sim K (m ++ e) S' H') (hT : H' T = none) (rv : VR K (m ++ e) H' d x) :
    Sim K (m ++ e) S' (upd H' T (.tup [.int (i : Nat), x])) ∧ HE (m ++ e) [] H' (upd H' T (.tup [.int (i : Nat), x])) ∧ VR K (m ++ e) (upd H' T (.tup [.int (i : Nat), x])) (.tup [.int (i : Nat), d]) (.ref T) := by
  refine ⟨s.other hT, HE.laid hT, ?_⟩
  unfold VR
  exact ⟨T, _, rfl, .inl (.inl upd_same), VRs.cons vr_int (VRs.one (rv.mono (fun _ _ q => q) (TK.new hT)))⟩
theorem walk_el {a : Addr} (h : ∀ (e : List Addr) (S' : Sto) (H' : Hp), Sim K (m ++ e) S' H' → HE m e H H' → safe S' → ∃ xs, SqL K H' a xs ∧ VRs K (m ++ e) H' ds xs) : WalkD K (Ite K a) (enmD ds) safe m H := fun e S' H' s he sf => by
  obtain ⟨xs, q, r⟩ := h e S' H' s he sf
  refine ⟨⟨xs, q, by simp [enmD]; exact Nat.le_of_eq r.length⟩, fun i d hd => ?_⟩
  obtain ⟨y, hy, rfl⟩ := enmD_get hd
  obtain ⟨v, hv, rv⟩ := r.get hy
  refine ⟨⟨xs, v, q, hv⟩, fun w H'' ⟨T, x, e1, hT, e2, z⟩ => ?_⟩
  have := z xs q
  rw [hv] at this
  cases this
  subst e1 e2
  exact enm_new s hT rv
theorem walk_et {a : Addr} (h : ∀ (e : List Addr) (S' : Sto) (H' : Hp), Sim K (m ++ e) S' H' → HE m e H H' → safe S' → ∃ xs, SqT K H' a xs ∧ VRs K (m ++ e) H' ds xs) : WalkD K (IteT K a) (enmD ds) safe m H := fun e S' H' s he sf => by
  obtain ⟨xs, q, r⟩ := h e S' H' s he sf
  refine ⟨⟨xs, q, by simp [enmD]; exact r.length⟩, fun i d hd => ?_⟩
  obtain ⟨y, hy, rfl⟩ := enmD_get hd
  obtain ⟨v, hv, rv⟩ := r.get hy
  refine ⟨⟨xs, v, q, hv⟩, fun w H'' ⟨T, x, e1, hT, e2, z⟩ => ?_⟩
  have := z xs q
  rw [hv] at this
  cases this
  subst e1 e2
  exact enm_new s hT rv
end
def Alw : Sto → Prop := fun _ => True
/-- the items of a value that is walked -/
def itemsOf (d : D) (S : Sto) : Option Its := match d with
  | .tup ds => some ⟨ds, Alw⟩
  | .rls ds => some ⟨ds, Alw⟩
  | .tml ds => some ⟨ds, Alw⟩
  | .str x => some ⟨chrD x, Alw⟩
  | .ref i => match S[i]? with
    | some (.lst ds) => some ⟨ds, fun S' => S'[i]? = some (.lst ds)⟩
    | _ => none
  | _ => none
def seqI (f : FE) : FI := fun env S => (f env S).bind fun d S1 => match itemsOf d S1 with
  | some w => .ok w S1
  | none => .bad
/-- enumerate -/
def enmI (f : FA) : FI := fun env S => (f env S).bind fun ds S1 => match ds with
  | [.str _] => .bad
  | [d] => (match itemsOf d S1 with
    | some w => .ok ⟨enmD w.items, w.safe⟩ S1
    | none => .bad)
  | _ => .bad
def rngI1 (f : FA) : FI := fun env S => (f env S).bind fun ds S1 => match ds with
  | [.int j] => if -(2 ^ 62) ≤ j ∧ j < 2 ^ 62 then .ok ⟨rngD 0 j.toNat, Alw⟩ S1 else .bad
  | _ => .bad
def rngI2 (f : FA) : FI := fun env S => (f env S).bind fun ds S1 => match ds with
  | [.int i, .int j] => if -(2 ^ 62) ≤ i ∧ i < 2 ^ 62 ∧ -(2 ^ 62) ≤ j ∧ j < 2 ^ 62 then .ok ⟨rngD i (j - i).toNat, Alw⟩ S1 else .bad
  | _ => .bad
/-- how a walked value lies -/
theorem items_at {K : PySem.W.Frag} {H0 : Hp} {m : List Addr} {S : Sto} {H : Hp} {d : D} {v : V} {w : Its} (s : Sim K m S H) (r : VX K H0 m H d v) (q : itemsOf d S = some w) :
    (∃ a, v = .ref a ∧ (∃ xs, SqL K H a xs) ∧ ∀ (e : List Addr) (S' : Sto) (H' : Hp), Sim K (m ++ e) S' H' → HE m e H H' → w.safe S' → ∃ xs, SqL K H' a xs ∧ VRs K (m ++ e) H' w.items xs) ∨
    (∃ a, v = .ref a ∧ (∃ xs, SqT K H a xs) ∧ ∀ (e : List Addr) (S' : Sto) (H' : Hp), Sim K (m ++ e) S' H' → HE m e H H' → w.safe S' → ∃ xs, SqT K H' a xs ∧ VRs K (m ++ e) H' w.items xs) ∨
    ∃ x, d = .str x ∧ v = .str x ∧ w.items = chrD x := by
  cases d with
  | tup ds =>
    cases q
    have r1 : VR K m H (.tup ds) v := r
    unfold VR at r1
    obtain ⟨a, xs, rfl, sq, rr⟩ := r1
    exact .inr (.inl ⟨a, rfl, ⟨xs, sq⟩, fun e S' H' s' he _ => ⟨xs, he.tk.sqT sq, rr.on he⟩⟩)
  | rls ds =>
    cases q
    have r1 : VR K m H (.rls ds) v := r
    unfold VR at r1
    obtain ⟨a, xs, rfl, sq, rr⟩ := r1
    exact .inl ⟨a, rfl, ⟨xs, sq.sqL⟩, fun e S' H' s' he _ => ⟨xs, (he.tk.sqR sq).sqL, rr.on he⟩⟩
  | tml ds =>
    cases q
    obtain ⟨p, xs, rfl, h0, hp, hn, rr⟩ := r
    exact .inl ⟨p, rfl, ⟨xs, .inl (.inl hp)⟩, fun e S' H' s' he _ => ⟨xs, .inl (.inl (he.oth p _ hn hp)), rr.on he⟩⟩
  | str x =>
    cases q
    exact .inr (.inr ⟨x, rfl, vx_str r, rfl⟩)
  | ref i =>
    have r1 : VR K m H (.ref i) v := r
    unfold VR at r1
    obtain ⟨a, ha, rfl⟩ := r1
    unfold itemsOf at q
    dsimp only at q
    split at q
    · rename_i ds hS
      cases q
      obtain ⟨xs, rr, hq⟩ := s.ob i a _ ha hS
      refine .inl ⟨a, rfl, ⟨xs, .inl (.inl hq)⟩, fun e S' H' s' he sf => ?_⟩
      obtain ⟨xs', rr', hq'⟩ := s'.ob i a _ (Gr.app m e i a ha) sf
      exact ⟨xs', .inl (.inl hq'), rr'⟩
    · cases q
  | _ => cases q
def iSeqA (K : PySem.W.Frag) (te : TE) : TI := fun σ H R => te σ H fun v H1 => (∃ a, v = .ref a ∧ (∃ xs, SqL K H1 a xs) ∧ R (Itl K a) H1) ∨ (∃ a, v = .ref a ∧ (∃ xs, SqT K H1 a xs) ∧ R (Itt K a) H1) ∨ ∃ x, v = .str x ∧ R (L2.Its x) H1
section
variable {X : Cx} {tg : Expr}
theorem pi_seqA {l : Expr} {te : TE} (hl : PE X l te) : PI X tg l (iSeqA X.K te) := by
  refine ⟨fun pins s σ H R I h => ?_⟩
  refine thn (hl.run pins s σ H _ I h) fun v s1 ⟨x, H1, I1, r1, q1⟩ => ?_
  rcases q1 with ⟨a, e, ⟨xs, hq⟩, q⟩ | ⟨a, e, ⟨xs, hq⟩, q⟩ | ⟨y, e, q⟩
  · subst e
    cases r1
    obtain ⟨its, rv, p, hz⟩ := I1.list hq
    refine wpAny_pyIter_list p.isList ?_
    refine ⟨s1.heap.objs.size, [s1.heap.objs.size], _, _, H1, rfl, I1.kept (t' := s1.toks) fun b o e => Heap.get?_push_of_some _ e, turn_list a _, ⟨_, Heap.get?_push_size _ rfl, rfl, rfl⟩, fun b hb => ?_, q⟩
    have e : b = s1.heap.objs.size := by simpa using hb
    subst e
    exact I1.fpOk (Nat.le_refl _) (I1.hok.fresh (Nat.le_refl _))
  · subst e
    cases r1
    obtain ⟨its, rv, p, hz⟩ := I1.tuple hq
    refine wpAny_pyIter_tuple (show s1.heap.IsTuple a its.toArray from p) ?_
    refine ⟨s1.heap.objs.size, [s1.heap.objs.size], _, _, H1, rfl, I1.kept (t' := s1.toks) fun b o e => Heap.get?_push_of_some _ e, turn_tuple a _, ⟨_, Heap.get?_push_size _ rfl, rfl, rfl⟩, fun b hb => ?_, q⟩
    have e : b = s1.heap.objs.size := by simpa using hb
    subst e
    exact I1.fpOk (Nat.le_refl _) (I1.hok.fresh (Nat.le_refl _))
  · subst e
    obtain ⟨t, rfl⟩ := r1
    cases ha : y.cps.all (· < 128)
    · exact wpAny_pyIter_wide ha (pi_one (tk := s1.toks) I1 _ (turn_str _ y t "str_iterator" (.inr rfl)) ⟨_, Heap.get?_push_size _ rfl, rfl, rfl⟩ q)
    · exact wpAny_pyIter_ascii ha (pi_one (tk := s1.toks) I1 _ (turn_str _ y t "str_ascii_iterator" (.inl rfl)) ⟨_, Heap.get?_push_size _ rfl, rfl, rfl⟩ q)
variable {W : WX} {l : Expr} {f : FE} {p pos : Pos} {g : FA}
theorem si_seq (h : SX X W l f) : SI X W tg l (seqI f) := pi_imp (pi_seqA h) fun σ H R ⟨m, env, S, s, er, k⟩ => ⟨m, env, S, s, er, k.seq0 fun e H1 S1 d s1 he k1 v vr => by
  split at k1
  · rename_i w q
    have k2 := k1.fin s1 he
    rcases items_at s1 vr q with ⟨a, e1, hx, hh⟩ | ⟨a, e1, hx, hh⟩ | ⟨x, _, e1, e2⟩
    · exact .inl ⟨a, e1, hx, k2 _ (walk_l hh)⟩
    · exact .inr (.inl ⟨a, e1, hx, k2 _ (walk_t hh)⟩)
    · exact .inr (.inr ⟨x, e1, k2 _ (by rw [e2]; exact walk_s)⟩)
  · exact k1.elim⟩
theorem si_rng1 {a : Expr} (hg : Gl X "range") (hm : X.mg "range" = none) (ha : SA X W [a] g) (hs : starEach [a] X.env = [(false, eval a X.env)] := by rfl) : SI X W tg (.Call (.Name "range" p) [a] [] pos) (rngI1 g) :=
  pi_imp (pi_range1 hg hm ha hs) fun σ H R ⟨m, env, S, s, er, k⟩ => ⟨m, env, S, s, er, k.seq0 fun e H1 S1 ds s1 he k1 vs vr => by
    split at k1
    · rename_i j
      split at k1
      · rename_i hb
        obtain ⟨v, r1, rfl, va, r2⟩ := VRs.cons_iff.mp vr
        rw [VRs.nil_iff.mp r2, show v = .int j from by unfold VR at va; exact va]
        exact ⟨j, rfl, hb.1, hb.2, k1.fin s1 he _ walk_r⟩
      · exact k1.elim
    · exact k1.elim⟩
theorem si_rng2 {a b : Expr} (hg : Gl X "range") (hm : X.mg "range" = none) (ha : SA X W [a, b] g) (hs : starEach [a, b] X.env = [(false, eval a X.env), (false, eval b X.env)] := by rfl) (hs2 : starEach [b] X.env = [(false, eval b X.env)] := by rfl) : SI X W tg (.Call (.Name "range" p) [a, b] [] pos) (rngI2 g) :=
  pi_imp (pi_range2 hg hm ha hs hs2) fun σ H R ⟨m, env, S, s, er, k⟩ => ⟨m, env, S, s, er, k.seq0 fun e H1 S1 ds s1 he k1 vs vr => by
    split at k1
    · rename_i i j
      split at k1
      · rename_i hb
        obtain ⟨v, r1, rfl, va, r2⟩ := VRs.cons_iff.mp vr
        obtain ⟨u, r3, rfl, vb, r4⟩ := VRs.cons_iff.mp r2
        rw [VRs.nil_iff.mp r4, show v = .int i from by unfold VR at va; exact va, show u = .int j from by unfold VR at vb; exact vb]
        exact ⟨i, j, rfl, hb, k1.fin s1 he _ walk_r⟩
      · exact k1.elim
    · exact k1.elim⟩
def iEnumA (K : PySem.W.Frag) (ta : TA) : TI := fun σ H R => ta σ H fun vs H1 => ∃ a, vs = [.ref a] ∧ ((∃ xs, SqL K H1 a xs ∧ R (Ite K a) H1) ∨ ∃ xs, SqT K H1 a xs ∧ R (IteT K a) H1)
theorem pi_enumA {e : Expr} {ta : TA} {tpos : Pos} {elts : List Expr} {kk : Nat} (hg : Gl X "enumerate") (hm : X.mg "enumerate" = none) (ha : PA X [e] ta) (hs : starEach [e] X.env = [(false, eval e X.env)] := by rfl) :
    PI X (.Tuple elts kk tpos) (.Call (.Name "enumerate" p) [e] [] pos) (iEnumA X.K ta) := by
  refine ⟨fun pins s σ H R I h => ?_⟩
  refine Call_ (ld_blt I hg hm boot_enumerate (PyProof.Rows.callWith_type1 (thn (ha.run pos pins s σ H _ I h) fun us s1 ⟨vs, H1, I1, r1, q1⟩ => ?_) hs rfl))
  obtain ⟨a, ex, q1⟩ := q1
  subst ex
  have fresh : ∀ b ∈ [s1.heap.objs.size + 1, s1.heap.objs.size], FpOk X pins H1 b := fun b hb => by
    have e' : b = s1.heap.objs.size + 1 ∨ b = s1.heap.objs.size := by simpa using hb
    have hle : s1.heap.objs.size ≤ b := by
      rcases e' with z | z
      · rw [z]; exact Nat.le_add_right _ _
      · rw [z]; exact Nat.le_refl _
    exact I1.fpOk hle (I1.hok.fresh hle)
  cases r1 with
  | cons r rr =>
    cases rr
    cases r
    rcases q1 with ⟨xs, hq, q⟩ | ⟨xs, hq, q⟩
    · obtain ⟨its, rv, p', hz⟩ := I1.list hq
      refine call_enumerate_list p'.isList fun h' he hit hsz hk => wpAny_pyIter_enum he ?_
      have I2 : Inv X pins σ H1 { s1 with heap := h' } := I1.kept (t' := s1.toks) hk
      exact ⟨s1.heap.objs.size + 1, [s1.heap.objs.size + 1, s1.heap.objs.size], _, _, H1, rfl, I2, turn_enum a (s1.heap.objs.size + 1) s1.heap.objs.size, ⟨⟨.none, he⟩, hit, Nat.succ_ne_self _⟩, fresh, q⟩
    · obtain ⟨its, rv, p', hz⟩ := I1.tuple hq
      refine enum_begins1 (begins_tuple a its.toArray) (show s1.heap.IsTuple a its.toArray from p') fun h' he hit hsz hk => wpAny_pyIter_enum he ?_
      have I2 : Inv X pins σ H1 { s1 with heap := h' } := I1.kept (t' := s1.toks) hk
      exact ⟨s1.heap.objs.size + 1, [s1.heap.objs.size + 1, s1.heap.objs.size], _, _, H1, rfl, I2, turn_enumT a (s1.heap.objs.size + 1) s1.heap.objs.size, ⟨⟨.none, he⟩, ⟨_, hit, rfl, rfl⟩, Nat.succ_ne_self _⟩, fresh, q⟩
theorem si_enm {e : Expr} {tpos : Pos} {elts : List Expr} {kk : Nat} (hg : Gl X "enumerate") (hm : X.mg "enumerate" = none) (ha : SB X W [e] g) (hs : starEach [e] X.env = [(false, eval e X.env)] := by rfl) :
    SI X W (.Tuple elts kk tpos) (.Call (.Name "enumerate" p) [e] [] pos) (enmI g) :=
  pi_imp (pi_enumA hg hm ha hs) fun σ H R ⟨m, env, S, s, er, k⟩ => ⟨m, env, S, s, er, k.seq0 fun e H1 S1 ds s1 he k1 vs vr => by
    split at k1
    · exact k1.elim
    · rename_i d ns
      split at k1
      · rename_i w q
        obtain ⟨v, r, rfl, va, rr⟩ := vr
        have : r = [] := rr
        subst this
        have k2 := k1.fin s1 he
        rcases items_at s1 va q with ⟨a, e1, ⟨xs, hx⟩, hh⟩ | ⟨a, e1, ⟨xs, hx⟩, hh⟩ | ⟨x, e1, _⟩
        · exact ⟨a, by rw [e1], .inl ⟨xs, hx, k2 _ (walk_el hh)⟩⟩
        · exact ⟨a, by rw [e1], .inr ⟨xs, hx, k2 _ (walk_et hh)⟩⟩
        · exact absurd (by rw [e1]) (ns x)
      · exact k1.elim
    · exact k1.elim⟩
end

/-! ### [.. for .. in .. if ..] -/
def wipeE (env : En) : List Nat → En
  | [] => env
  | v :: vs => (wipeE env vs).set v none
theorem er_wipe {K : PySem.W.Frag} {m : List Addr} {H : Hp} {env : En} {σ : L2.St} (h : ER K m H env σ) : ∀ vs, ER K m H (wipeE env vs) (wipe σ vs)
  | [] => h
  | v :: vs => by
    have ih := er_wipe h vs
    refine ⟨by simp [wipeE, wipe, ih.1], fun j d q => ?_⟩
    unfold wipeE at q
    unfold wipe
    by_cases e : v = j
    · subst e
      by_cases hl : v < (wipeE env vs).length
      · rw [List.getElem?_set_self hl] at q
        cases q
      · rw [List.getElem?_eq_none (by simp; omega)] at q
        cases q
    · rw [List.getElem?_set_ne e] at q ⊢
      exact ih.2 j d q
theorem wipe_idem (σ : L2.St) (vs : List Nat) : wipe (wipe σ vs) vs = wipe σ vs := by
  apply List.ext_getElem?
  intro j
  rw [wipe_get, wipe_get, wipe_length]
  by_cases c : j ∈ vs ∧ j < σ.length
  · rw [if_pos c, if_pos c]
  · rw [if_neg c]
abbrev WF : WX := fun _ _ _ _ => False
abbrev STs (X : Cx) (W : WX) (ifs : List Expr) (f : FT) : Prop := PTs X ifs (TTf X.K W f)
def yesF : FT := fun _ S => .ok true S
theorem sts_nil {X : Cx} {W : WX} : STs X W [] yesF := pts_imp pts_nil fun σ H Q ⟨m, env, S, s, er, k⟩ => k.now s
theorem sts_one {X : Cx} {W : WX} {c : Expr} {t : FT} (h : ST X W c t) : STs X W [c] t := pts_one h
open Classical in
noncomputable def lcGo (g : FTg) (t : FT) (fe : FE) (safe : Sto → Prop) (env : En) : List D → List D → Sto → R D
  | [], acc, S => .ok (.tml acc) S
  | d :: ds, acc, S => match g d env with
    | none => .bad
    | some e1 => match t e1 S with
      | .ok true S1 => (match fe e1 S1 with
        | .ok y S2 => if acc.length < 16777216 ∧ safe S2 then lcGo g t fe safe env ds (acc ++ [y]) S2 else .bad
        | _ => .bad)
      | .ok false S1 => if safe S1 then lcGo g t fe safe env ds acc S1 else .bad
      | _ => .bad
open Classical in
noncomputable def lcF (fi : FI) (g : FTg) (t : FT) (fe : FE) (vs : List Nat) : FE := fun env S => (fi env S).bind fun w S1 => if w.safe S1 then lcGo g t fe w.safe (wipeE env vs) w.items [] S1 else .bad
theorem to_lc {K : PySem.W.Frag} {W : WX} {fi : FI} {g : FTg} {t : FT} {fe : FE} {vs ws : List Nat} {σ : L2.St} {H : Hp} {Q : VK} (hws : ∀ i ∈ ws, i ∈ vs) (h : TXf K W (lcF fi g t fe vs) σ H Q) : tLc (TIf K W fi) (TGf K ws g) (TTf K WF t) (TEf K WF fe) vs σ H Q := by
  obtain ⟨m, env, S, s, er, k⟩ := h
  refine ⟨m, env, S, s, er, k.seq0 fun e0 H1 S1 w s1 he k1 J wd D hD => ?_⟩
  split at k1
  case isFalse => exact k1.elim
  rename_i sf0
  have er1 := er.on he
  have dn := s1.notin hD
  refine ⟨fun i fuel H' => ∃ e S' acc ys, i ≤ w.items.length ∧ fuel = w.items.length - i ∧ Sim K (m ++ e0 ++ e) S' H' ∧ HE (m ++ e0) e H1 H' ∧ H' D = some (.lst ys) ∧ D ∉ m ++ e0 ++ e ∧ VRs K (m ++ e0 ++ e) H' acc ys ∧ w.safe S' ∧ KG K W σ (PV K Q H) m H (lcGo g t fe w.safe (wipeE env vs) (w.items.drop i) acc S'),
    ⟨_, [], S1, [], [], Nat.zero_le _, rfl, by simpa using s1.other hD, by simpa using HE.laid hD, upd_same, by simpa using dn, VRs.nil, sf0, by simpa using k1⟩, ?_⟩
  rintro i fuel H2 ⟨e, S', acc, ys, hi, hf, s2, he2, hD2, dn2, ra, sf, kk⟩
  obtain ⟨stop, step⟩ := wd e S' H2 s2 he2 sf
  by_cases hlt : i < w.items.length
  · right
    have hd : w.items[i]? = some w.items[i] := List.getElem?_eq_getElem hlt
    rw [List.drop_eq_getElem_cons hlt] at kk
    generalize w.items[i] = d at hd kk
    obtain ⟨go, yl⟩ := step i d hd
    unfold lcGo at kk
    refine ⟨go, fun H' => ∃ e S' acc ys, Sim K (m ++ e0 ++ e) S' H' ∧ HE (m ++ e0) e H1 H' ∧ H' D = some (.lst ys) ∧ D ∉ m ++ e0 ++ e ∧ VRs K (m ++ e0 ++ e) H' acc ys ∧ w.safe S' ∧ KG K W σ (PV K Q H) m H (lcGo g t fe w.safe (wipeE env vs) (w.items.drop (i + 1)) acc S'),
      fun H' ⟨e, S', acc, ys, a, b, c, d, f, g1, g2⟩ => ⟨_, by omega, e, S', acc, ys, by omega, rfl, a, b, c, d, f, g1, g2⟩, fun x H3 y => ?_⟩
    obtain ⟨s3, he3, vr⟩ := yl x H3 y
    have he13 : HE (m ++ e0) e H1 H3 := by
      have := he2.trans he3
      rwa [List.append_nil] at this
    have er3 : ER K (m ++ e0 ++ e) H3 (wipeE env vs) (wipe σ vs) := (er_wipe er1 vs).on he13
    have hD3 := he3.oth D _ dn2 hD2
    have ra3 : VRs K (m ++ e0 ++ e) H3 acc ys := by
      have := ra.on he3
      rwa [List.append_nil] at this
    split at kk
    · exact kk.elim
    rename_i e1 q
    refine ⟨m ++ e0 ++ e, wipeE env vs, d, e1, er3, vr, q, fun σ2 er2 kp => ⟨(kp vs hws).trans (wipe_idem σ vs), m ++ e0 ++ e, e1, S', s3, er2, ?_⟩⟩
    split at kk
    · rename_i S4 qt
      rw [qt]
      intro H4 e4 s4 he4
      show if true = true then _ else _
      rw [if_pos rfl]
      have hD4 := he4.oth D _ dn2 hD3
      have dn4 : D ∉ m ++ e0 ++ e ++ e4 := fun z => (List.mem_append.mp z).elim dn2 fun z => by
        have := he4.new D z
        rw [hD3] at this
        cases this
      refine ⟨m ++ e0 ++ e ++ e4, e1, S4, s4, er2.on he4, ?_⟩
      split at kk
      · rename_i yd S5 qe
        rw [qe]
        split at kk
        case isFalse => exact kk.elim
        rename_i hc
        intro H5 e5 s5 he5 v vr5
        have hD5 := he5.oth D _ dn4 hD4
        have dn5 : D ∉ m ++ e0 ++ e ++ e4 ++ e5 := fun z => (List.mem_append.mp z).elim dn4 fun z => by
          have := he5.new D z
          rw [hD4] at this
          cases this
        have hl5 : ys.length = acc.length := ra3.length
        refine ⟨ys, hD5, by rw [sizeLine_eq, hl5]; exact hc.1, e ++ (e4 ++ e5), S5, acc ++ [yd], ys ++ [v], ?_⟩
        have ea : m ++ e0 ++ (e ++ (e4 ++ e5)) = m ++ e0 ++ e ++ e4 ++ e5 := by simp
        rw [ea]
        have heT := (he13.trans (he4.trans he5))
        have tk5 : TK H5 (upd H5 D (.lst (ys ++ [v]))) := TK.mut hD5 trivial
        refine ⟨s5.keep tk5 fun a ha => upd_ne fun z => dn5 (z ▸ ha), ⟨heT.tk.trans tk5, fun a o na ho => ?_, fun a o ho => ?_, heT.new⟩, upd_same, dn5, ?_, hc.2, kk⟩
        · rw [upd_ne fun z => by rw [z, hD] at ho; cases ho]
          exact heT.oth a o na ho
        · rw [upd_ne fun z => by rw [z, hD] at ho; cases ho]
          exact heT.dom a o ho
        · exact (((ra3.on he4).on he5).append (VRs.one vr5)).mono Gr.refl tk5
      · rename_i n1
        cases qe : fe e1 S4 with
        | ok yd S5 => exact absurd qe (n1 _ _)
        | ex => exact kk.elim
        | bad => exact kk
    · rename_i S4 qt
      rw [qt]
      split at kk
      case isFalse => exact kk.elim
      rename_i sf4
      intro H4 e4 s4 he4
      show if false = true then _ else _
      rw [if_neg Bool.false_ne_true]
      have hD4 := he4.oth D _ dn2 hD3
      have dn4 : D ∉ m ++ e0 ++ e ++ e4 := fun z => (List.mem_append.mp z).elim dn2 fun z => by
        have := he4.new D z
        rw [hD3] at this
        cases this
      refine ⟨e ++ e4, S4, acc, ys, ?_⟩
      rw [← List.append_assoc (m ++ e0)]
      exact ⟨s4, he13.trans he4, hD4, dn4, ra3.on he4, sf4, kk⟩
    · rename_i n1 n2
      cases qt : t e1 S' with
      | ok b S4 =>
        cases b with
        | true => exact absurd qt (n1 _)
        | false => exact absurd qt (n2 _)
      | ex => exact kk.elim
      | bad => exact kk
  · left
    have : i = w.items.length := by omega
    subst this
    rw [List.drop_length] at kk
    have kk : KG K W σ (PV K Q H) m H (.ok (.tml acc) S') := kk
    refine ⟨stop, ?_⟩
    have e3 := he.trans he2
    rw [List.append_assoc] at s2 dn2 ra
    exact kk.fin s2 e3 (.ref D) ⟨D, ys, rfl, he.free hD, hD2, dn2, ra⟩
theorem sx_lc {X : Cx} {W : WX} {elt tg iter : Expr} {ifs : List Expr} {scope : Scope} {own : List (Str × Nat)} {pos : Pos} {fi : FI} {g : FTg} {t : FT} {fe : FE} {ws : List Nat} (hc : X.calm = true) (hN : X.N.Nodup) (hi : SI X W tg iter fi) (ok : BlkOk X.N X.env.scope scope own)
    (hg : ∀ (s : Shared) (H : Hp) (C : Addr) (cl : List (Str × Addr)) (fp : List Addr), SG (X.blk s H scope (compEnvC scope cl C X.env) fp) tg ws g) (ht : ∀ (s : Shared) (H : Hp) (C : Addr) (cl : List (Str × Addr)) (fp : List Addr), STs (X.blk s H scope (compEnvC scope cl C X.env) fp) WF ifs t)
    (he : ∀ (s : Shared) (H : Hp) (C : Addr) (cl : List (Str × Addr)) (fp : List Addr), SE (X.blk s H scope (compEnvC scope cl C X.env) fp) WF elt fe) (hws : ∀ i ∈ ws, i ∈ own.map (·.2) := by decide) (hs : ∀ x, foldedSetIterable iter X.env x = pure x := by intro _; rfl) :
    SX X W (.ListComp elt [⟨tg, iter, ifs, 0⟩] scope pos) (lcF fi g t fe (own.map (·.2))) :=
  pe_imp (pe_lc hc hN hi ok hg ht he hs) fun σ H Q h => to_lc hws h
end Ah

set_option maxHeartbeats 1000000
namespace Ah
open PySem PySem.Spec PyProof.Rows L2

/-! ### methods of built-ins -/
def tyD (T : String) (d : D) (S : Sto) : Bool := match d with
  | .str _ => T == "str"
  | .tml _ => T == "list"
  | .rls _ => T == "list"
  | .ref i => match S[i]? with
    | some (.lst _) => T == "list"
    | some (.dct false _) => T == "dict"
    | _ => false
  | _ => false
abbrev FM := D → List D → Sto → R D
def bmF (T : String) (g : FM) (fo : FE) (fa : FA) : FE := fun env S => (fo env S).bind fun x S1 => if tyD T x S1 = true then (fa env S1).bind fun ds S2 => g x ds S2 else .bad
def AdM (K : PySem.W.Frag) (r : V → List V → Hp → VK → Prop) (g : FM) : Prop :=
  ∀ (W : WX) (σ : L2.St) (m e : List Addr) (S : Sto) (H0 H : Hp) (x : D) (ds : List D) (v : V) (vs : List V) (Q : VK), HE m e H0 H → Sim K (m ++ e) S H → VX K H0 (m ++ e) H x v → VXs K H0 (m ++ e) H ds vs → KG K W σ (PV K Q H0) m H0 (g x ds S) → r v vs H Q
theorem ty_ok {K : PySem.W.Frag} {m : List Addr} {S : Sto} {H0 H : Hp} {d : D} {v : V} {T : String} (s : Sim K m S H) (r : VX K H0 m H d v) (h : tyD T d S = true) : tyV K T v H := by
  cases d with
  | str x => rw [vx_str r]; exact eq_of_beq h
  | tml ds =>
    obtain ⟨p, xs, rfl, sq, _⟩ := lst_ok (ds := ds) s r rfl
    exact .inl ⟨eq_of_beq h, xs, sq⟩
  | rls ds =>
    obtain ⟨p, xs, rfl, sq, _⟩ := lst_ok (ds := ds) s r rfl
    exact .inl ⟨eq_of_beq h, xs, sq⟩
  | ref i =>
    have r1 : VR K m H (.ref i) v := r
    unfold VR at r1
    obtain ⟨a, ha, rfl⟩ := r1
    unfold tyD at h
    dsimp only at h
    split at h
    · rename_i ds q
      obtain ⟨xs, _, hp⟩ := s.ob i a _ ha q
      exact .inl ⟨eq_of_beq h, xs, SqL.of hp⟩
    · rename_i ks q
      obtain ⟨kvs, _, hp⟩ := s.ob i a _ ha q
      exact .inr (.inr (.inl ⟨eq_of_beq h, .inl ⟨kvs, hp⟩⟩))
    · cases h
  | _ => cases h
theorem VXs.on2 {K : PySem.W.Frag} {H0 : Hp} {m e e2 : List Addr} {H H' : Hp} (he : HE (m ++ e) e2 H H') : ∀ {ds : List D} {vs : List V}, VXs K H0 (m ++ e) H ds vs → VXs K H0 (m ++ (e ++ e2)) H' ds vs
  | [], _, h => h
  | d :: ds, _, h => by
    obtain ⟨v, r, rfl, a, b⟩ := h
    exact ⟨v, r, rfl, a.on2 he, VXs.on2 he b⟩
theorem to_bm {K : PySem.W.Frag} {W : WX} {T : String} {r : V → List V → Hp → VK → Prop} {g : FM} (ad : AdM K r g) {fo : FE} {fa : FA} {σ : L2.St} {H : Hp} {Q : VK} (h : TXf K W (bmF T g fo fa) σ H Q) : tBM K T r (TXf K W fo) (TBf K W fa) σ H Q := by
  obtain ⟨m, env, S, s, er, k⟩ := h
  refine ⟨m, env, S, s, er, k.seq0 fun e H1 S1 x s1 he k1 v vr => ?_⟩
  split at k1
  case isFalse => exact k1.elim
  rename_i ht
  refine ⟨ty_ok s1 vr ht, m ++ e, env, S1, s1, er.on he, k1.seq he fun e2 H2 S2 ds s2 he2 he3 k2 vs vrs => ?_⟩
  exact ad W σ m (e ++ e2) S2 H H2 x ds v vs Q he3 s2 (vr.on2 he2) (vrs.back he) k2
theorem to_bm0 {K : PySem.W.Frag} {W : WX} {T : String} {r : V → List V → Hp → VK → Prop} {g : FM} (ad : AdM K r g) {fo : FE} {σ : L2.St} {H : Hp} {Q : VK} (h : TXf K W (bmF T g fo nilA) σ H Q) : tBM0 K T r (TXf K W fo) σ H Q := by
  obtain ⟨m, env, S, s, er, k⟩ := h
  refine ⟨m, env, S, s, er, k.seq0 fun e H1 S1 x s1 he k1 v vr => ?_⟩
  split at k1
  case isFalse => exact k1.elim
  rename_i ht
  exact ⟨ty_ok s1 vr ht, ad W σ m e S1 H H1 x [] v [] Q he s1 vr VXs.nil k1⟩
section
variable {X : Cx} {W : WX} {o e : Expr} {es : List Expr} {fo : FE} {fa : FA} {name : Str} {apos cpos : Pos} {T id : String} {r : V → List V → Hp → VK → Prop} {g : FM}
theorem sx_bm (pa : PlainAttrs T) (slot : Slot T name id) (hty : typeOf (.builtin id) = pure (.type "method_descriptor")) (hm : MtR X id r) (ad : AdM X.K r g) (ho : SX X W o fo) (ha : SB X W (e :: es) fa)
    (hbase : attributeBase o name X.env (eval o X.env) = eval o X.env := by rfl)
    (hfew : ((backTo cpos (starEach (e :: es) X.env)).all (fun x => !x.1) && (backToKw cpos (keywordEach [] X.env)).all (fun x => x.1.isSome)
      && decide ((e :: es).length + ([] : List Keyword).length + (if ([] : List Keyword).isEmpty then 0 else 1) < 30)) = true := by rfl)
    (hline : (apos.endLine == cpos.line) = true := by rfl) (hs : starEach (e :: es) X.env = (false, eval e X.env) :: starEach es X.env := by rfl) (hplain : (backTo cpos (starEach es X.env)).any (·.1) = false := by rfl) :
    SX X W (.Call (.Attribute o name apos) (e :: es) [] cpos) (bmF T g fo fa) :=
  pe_imp (pe_bm pa slot hty hm ho ha hbase hfew hline hs hplain) fun σ H Q h => to_bm ad h
theorem sx_bm0 (pa : PlainAttrs T) (slot : Slot T name id) (hty : typeOf (.builtin id) = pure (.type "method_descriptor")) (hm : MtR X id r) (ad : AdM X.K r g) (ho : SX X W o fo)
    (hbase : attributeBase o name X.env (eval o X.env) = eval o X.env := by rfl) (hline : (apos.endLine == cpos.line) = true := by rfl) : SX X W (.Call (.Attribute o name apos) [] [] cpos) (bmF T g fo nilA) :=
  pe_imp (pe_bm0 pa slot hty hm ho hbase hline) fun σ H Q h => to_bm0 ad h
theorem VRs.vxs {K : PySem.W.Frag} {H0 : Hp} {m : List Addr} {H : Hp} : ∀ {ds : List D} {vs : List V}, VRs K m H ds vs → VXs K H0 m H ds vs
  | [], _, h => VRs.nil_iff.mp h
  | d :: ds, _, h => by
    obtain ⟨v, r, rfl, a, b⟩ := VRs.cons_iff.mp h
    exact ⟨v, r, rfl, VX.of a, VRs.vxs b⟩
theorem VXs.vrs {K : PySem.W.Frag} {H0 : Hp} {m : List Addr} {H : Hp} : ∀ {ds : List D} {vs : List V}, VXs K H0 m H ds vs → (∀ d ∈ ds, ∀ xs, d ≠ .tml xs) → VRs K m H ds vs
  | [], _, h, _ => VRs.nil_iff.mpr h
  | d :: ds, _, h, n => by
    obtain ⟨v, r, rfl, a, b⟩ := h
    exact VRs.cons (a.vr (n d (by simp))) (VXs.vrs b fun x hx => n x (by simp [hx]))
theorem sb_of (h : SA X W es fa) : SB X W es fa := pa_imp h fun σ H Q ⟨m, env, S, s, er, k⟩ => ⟨m, env, S, s, er, k.mono fun _ _ _ _ _ _ q vs r => q vs r.vxs⟩
end
theorem HE.mutE {m e : List Addr} {H0 H : Hp} {p : Addr} {o u : HO} (he : HE m e H0 H) (hp : p ∈ m ++ e) (h : H p = some u) (c : Chg u) : HE m e H0 (upd H p o) := by
  have := he.trans (HE.mut (o := o) hp h c)
  rwa [List.append_nil] at this
def isTml : D → Bool
  | .tml _ => true
  | _ => false
theorem isTml_ne {d : D} (h : isTml d = false) : ∀ xs, d ≠ .tml xs := fun xs z => by rw [z] at h; cases h
def gApp : FM := fun x ds S => match x, ds with
  | .ref i, [d] => (match S[i]? with
    | some (.lst xs) => if xs.length < 16777216 ∧ isTml d = false then .ok .non (S.set i (.lst (xs ++ [d]))) else .bad
    | _ => .bad)
  | _, _ => .bad
def gPop : FM := fun x ds S => match x, ds with
  | .ref i, [] => (match S[i]? with
    | some (.lst xs) => (match xs[xs.length - 1]? with
      | some d => .ok d (S.set i (.lst xs.dropLast))
      | none => .bad)
    | _ => .bad)
  | .ref i, [.int j] => (match S[i]? with
    | some (.lst xs) => if -(2 ^ 63) ≤ j ∧ j < 2 ^ 63 then (match seqIndex? j xs.length with
      | some k => (match xs[k]? with
        | some d => .ok d (S.set i (.lst (xs.eraseIdx k)))
        | none => .bad)
      | none => .bad) else .bad
    | _ => .bad)
  | _, _ => .bad
def gSplit : FM := fun x ds S => match x, ds with
  | .str a, [.str b] => if (b.length == 0) = false ∧ a.length + 2 ≤ 16777216 then .ok (.tml ((Txt.split a b).map D.str)) S else .bad
  | _, _ => .bad
def gJoin : FM := fun x ds S => match x, ds with
  | .str a, [d] => (match (seqD S d).bind strsD with
    | some ys => if (ys.map (·.length)).sum + ys.length * a.length ≤ 16777216 then .ok (.str (Txt.join a ys)) S else .bad
    | none => .bad)
  | _, _ => .bad
section
variable {K : PySem.W.Frag}
theorem ref_lst {m : List Addr} {S : Sto} {H0 H : Hp} {i : Nat} {v : V} {ds : List D} (s : Sim K m S H) (r : VX K H0 m H (.ref i) v) (h : S[i]? = some (.lst ds)) : ∃ a xs, v = .ref a ∧ m[i]? = some a ∧ H a = some (.lst xs) ∧ VRs K m H ds xs := by
  have r1 : VR K m H (.ref i) v := r
  unfold VR at r1
  obtain ⟨a, ha, rfl⟩ := r1
  obtain ⟨xs, rr, hp⟩ := s.ob i a _ ha h
  exact ⟨a, xs, rfl, ha, hp, rr⟩
/-- a list of the store is changed -/
theorem lst_put {m e : List Addr} {S : Sto} {H0 H : Hp} {i : Nat} {a : Addr} {xs ys : List V} {es : List D} (s : Sim K (m ++ e) S H) (he : HE m e H0 H) (ha : (m ++ e)[i]? = some a) (hp : H a = some (.lst xs)) (r : VRs K (m ++ e) H es ys) :
    Sim K (m ++ e) (S.set i (.lst es)) (upd H a (.lst ys)) ∧ HE m e H0 (upd H a (.lst ys)) ∧ TK H (upd H a (.lst ys)) := by
  have tk : TK H (upd H a (.lst ys)) := TK.mut hp trivial
  exact ⟨s.put ha hp trivial ⟨ys, r.mono Gr.refl tk, upd_same⟩, he.mutE (List.mem_of_getElem? ha) hp trivial, tk⟩
theorem am_app : AdM K rAppend gApp := by
  intro W σ m e S H0 H x ds v vs Q he s rx rs k
  unfold gApp at k
  split at k
  · rename_i i d
    split at k
    · rename_i xs q
      split at k
      · rename_i hc
        obtain ⟨u, rfl, ru⟩ := vxs1 rs
        obtain ⟨a, ys, rfl, ha, hp, rr⟩ := ref_lst s rx q
        obtain ⟨s', he', tk⟩ := lst_put (es := xs ++ [d]) (ys := ys ++ [u]) s he ha hp (rr.append (VRs.one (ru.vr (isTml_ne hc.2))))
        exact ⟨a, ys, u, rfl, rfl, hp, by rw [rr.length, sizeLine_eq]; exact hc.1, k.fin s' he' _ (VX.of vr_non)⟩
      · exact k.elim
    · exact k.elim
  · exact k.elim
abbrev rPopA : V → List V → Hp → VK → Prop := fun x vs H Q => rPop x vs H Q ∨ rPopAt x vs H Q
theorem mt_popA {X : Cx} : MtR X "list.pop" rPopA := MtR.or mt_pop mt_popAt
theorem am_pop : AdM K rPopA gPop := by
  intro W σ m e S H0 H x ds v vs Q he s rx rs k
  unfold gPop at k
  split at k
  · rename_i i
    split at k
    · rename_i xs q
      split at k
      · rename_i d hd
        obtain rfl : vs = [] := rs
        obtain ⟨a, ys, rfl, ha, hp, rr⟩ := ref_lst s rx q
        obtain ⟨u, hu, ru⟩ := rr.get hd
        obtain ⟨s', he', tk⟩ := lst_put s he ha hp rr.dropLast
        exact .inl ⟨a, ys, u, rfl, rfl, hp, by rw [rr.length]; exact hu, k.fin s' he' _ (VX.of (ru.mono Gr.refl tk))⟩
      · exact k.elim
    · exact k.elim
  · rename_i i j
    split at k
    · rename_i xs q
      split at k
      · rename_i hb
        split at k
        · rename_i kk hk
          split at k
          · rename_i d hd
            obtain ⟨w, rfl, rw'⟩ := vxs1 rs
            obtain ⟨a, ys, rfl, ha, hp, rr⟩ := ref_lst s rx q
            obtain ⟨u, hu, ru⟩ := rr.get hd
            obtain ⟨s', he', tk⟩ := lst_put s he ha hp (rr.erase kk)
            exact .inr ⟨a, ys, j, kk, u, rfl, by rw [vx_int rw'], hp, hb.1, hb.2, by rw [rr.length]; exact hk, hu, k.fin s' he' _ (VX.of (ru.mono Gr.refl tk))⟩
          · exact k.elim
        · exact k.elim
      · exact k.elim
    · exact k.elim
  · exact k.elim
theorem am_split : AdM K (fun x xs H Q => ∃ a b, x = .str a ∧ xs = [.str b] ∧ (b.length == 0) = false ∧ a.length + 2 ≤ sizeLine ∧ rNewStrs (Txt.split a b) H Q) gSplit := by
  intro W σ m e S H0 H x ds v vs Q he s rx rs k
  unfold gSplit at k
  split at k
  · rename_i a b
    split at k
    · rename_i hc
      obtain ⟨u, rfl, ru⟩ := vxs1 rs
      exact ⟨a, b, vx_str rx, by rw [vx_str ru], hc.1, by rw [sizeLine_eq]; exact hc.2, fun p hp => k.fin (s.other hp) (he.beside hp) _ (vx_tml he s hp vrs_strs)⟩
    · exact k.elim
  · exact k.elim
theorem am_join : AdM K (fun x xs H Q => ∃ a p, ∃ ys : List Str, x = .str a ∧ xs = [.ref p] ∧ (SqL K H p (ys.map V.str) ∨ SqT K H p (ys.map V.str)) ∧
    (ys.map (·.length)).sum + ys.length * a.length ≤ 16777216 ∧ Q (.str (Txt.join a ys)) H) gJoin := by
  intro W σ m e S H0 H x ds v vs Q he s rx rs k
  unfold gJoin at k
  split at k
  · rename_i a d
    split at k
    · rename_i ys q
      split at k
      · rename_i hc
        obtain ⟨u, rfl, ru⟩ := vxs1 rs
        cases z : seqD S d with
        | none => rw [z] at q; cases q
        | some xs =>
          rw [z] at q
          obtain ⟨p, us, rfl, sq, rr⟩ := seq_ok s ru z
          have e2 := strs_ok (show strsD xs = some ys from q) rr
          subst e2
          exact ⟨a, p, ys, vx_str rx, rfl, sq, hc, k.fin s he _ (VX.of vr_str)⟩
      · exact k.elim
    · exact k.elim
  · exact k.elim
end

/-! ### + and * of all kinds -/
def oAddA : Op2 := fun x y S => match x, y with
  | .int i, .int j => .ok (.int (i + j)) S
  | .str i, .str j => if i.length + j.length ≤ 16777216 then .ok (.str (i ++ j)) S else .bad
  | .tup xs, .tup ys => if xs.length + ys.length ≤ 16777216 then .ok (.tup (xs ++ ys)) S else .bad
  | x, y => match mlsD S x, mlsD S y with
    | some xs, some ys => if xs.length + ys.length ≤ 16777216 then .ok (.tml (xs ++ ys)) S else .bad
    | _, _ => .bad
abbrev rAddA (K : PySem.W.Frag) : R2 := fun x y H Q => ((rI0 (fun i j => .int (i + j)) x y H Q ∨ ∃ i j, x = .str i ∧ y = .str j ∧ i.length + j.length ≤ sizeLine ∧ Q (.str (i ++ j)) H) ∨ rCatA K x y H Q) ∨ rCat x y H Q
theorem op_addA {X : Cx} : OpR X (binaryOp .Add) (rAddA X.K) := ((op_add.or op_add_str).or op_catA).or op_cat
theorem ad_addA {K : PySem.W.Frag} : Ad2L K (rAddA K) oAddA := by
  intro W σ m e S H0 H x y v u Q he s rx ry k
  unfold oAddA at k
  split at k
  · rename_i i j
    exact .inl (.inl (.inl ⟨i, j, vx_int rx, vx_int ry, k.fin s he _ (VX.of vr_int)⟩))
  · rename_i i j
    split at k
    · rename_i hc
      exact .inl (.inl (.inr ⟨i, j, vx_str rx, vx_str ry, by rw [sizeLine_eq]; exact hc, k.fin s he _ (VX.of vr_str)⟩))
    · exact k.elim
  · rename_i xs ys
    split at k
    · rename_i hc
      obtain ⟨p, us, rfl, sq, rr⟩ := tup_ok rx
      obtain ⟨p2, us2, rfl, sq2, rr2⟩ := tup_ok ry
      refine .inl (.inr ⟨p, p2, us, us2, rfl, rfl, sq, sq2, by rw [rr.length, rr2.length, sizeLine_eq]; exact hc, fun e1 => ?_, fun e1 e2 => ?_, fun e1 e2 q hq => ?_⟩)
      · subst e1
        have : xs = [] := List.eq_nil_of_length_eq_zero (by rw [← rr.length]; rfl)
        subst this
        exact k.fin s he _ ry
      · subst e2
        have : ys = [] := List.eq_nil_of_length_eq_zero (by rw [← rr2.length]; rfl)
        subst this
        rw [List.append_nil] at k
        exact k.fin s he _ rx
      · exact k.fin (s.other hq) (he.beside hq) _ (VX.of (vr_tup hq (rr.append rr2)))
    · exact k.elim
  · split at k
    · rename_i xs ys q1 q2
      split at k
      · rename_i hc
        obtain ⟨p, us, rfl, hp, rr⟩ := mls_ok s rx q1
        obtain ⟨p2, us2, rfl, hp2, rr2⟩ := mls_ok s ry q2
        exact .inr ⟨p, p2, us, us2, rfl, rfl, hp, hp2, by rw [rr.length, rr2.length, sizeLine_eq]; exact hc, fun q hq => k.fin (s.other hq) (he.beside hq) _ (vx_tml he s hq (rr.append rr2))⟩
      · exact k.elim
    · exact k.elim
/-- text * int -/
def strRep (x : Str) (n : Int) : Str := ⟨(List.replicate n.toNat x.cps).foldl (· ++ ·) #[]⟩
def rRepS : R2 := fun x y H Q => ∃ z n, x = .str z ∧ y = .int n ∧ 1 ≤ n ∧ n < 16777216 ∧ z.length * n.toNat ≤ 16777216 ∧ z.length ≤ 16777216 ∧ Q (.str (strRep z n)) H
theorem rep1 (x : Str) : strRep x 1 = x := by
  unfold strRep
  simp
theorem rep_nil {n : Nat} : ∀ a : Array Nat, (List.replicate n (#[] : Array Nat)).foldl (· ++ ·) a = a := by
  induction n with
  | zero => intro a; rfl
  | succ n ih => intro a; simp [List.replicate_succ, ih]
theorem rep_size (x : Array Nat) : ∀ (n : Nat) (a : Array Nat), ((List.replicate n x).foldl (· ++ ·) a).size = a.size + n * x.size
  | 0, a => by simp
  | n + 1, a => by
    rw [List.replicate_succ, List.foldl_cons, rep_size x n, Array.size_append, Nat.succ_mul]
    omega
theorem op_repS {X : Cx} : OpR X (binaryOp .Mult) rRepS := by
  intro pins s σ H x y v u Q I rx ry h
  obtain ⟨z, n, rfl, rfl, h1, h2, h3, h4, q⟩ := h
  obtain ⟨t, rfl⟩ := rx
  obtain ⟨t', rfl⟩ := ry
  refine PySem.P.mul_str (by rw [decide_eq_false (by omega), decide_eq_false (by omega)]; rfl) (fun _ _ => ?_) (fun _ _ => ?_) ?_
  · have : (16777216 : Int) ≤ (2 ^ 63 - 1) / n := by
      rw [Int.le_ediv_iff_mul_le (by omega)]
      have : (16777216 : Int) * n ≤ 16777216 * 16777216 := Int.mul_le_mul_of_nonneg_left (by omega) (by omega)
      omega
    omega
  · unfold Builtin.Str.tooLong
    rw [decide_eq_false (by rw [sizeLine_eq]; omega)]
  · rw [if_neg (by omega)]
    split
    · rename_i hz
      have e : strRep z n = z := by
        rcases Bool.or_eq_true_iff.mp hz with a | a
        · rw [eq_of_beq a]; exact rep1 z
        · have : z.cps = #[] := Array.eq_empty_of_size_eq_zero (eq_of_beq a)
          unfold strRep
          rw [this, rep_nil]
          cases z
          simp_all
      rw [e] at q
      exact ⟨.str z, H, I, ⟨t, rfl⟩, q⟩
    · refine ⟨?_, .str (strRep z n), H, I.tok _, ⟨_, rfl⟩, q⟩
      show ((List.replicate n.toNat z.cps).foldl (· ++ ·) #[]).size ≤ sizeLine
      rw [rep_size, sizeLine_eq]
      have : n.toNat * z.cps.size = z.length * n.toNat := Nat.mul_comm _ _
      simp only [Array.size_empty]
      omega
def oMulA : Op2 := fun x y S => match x, y with
  | .int i, .int j => if (-(2 ^ 64) < i ∧ i < 2 ^ 64) ∨ (-(2 ^ 64) < j ∧ j < 2 ^ 64) then .ok (.int (i * j)) S else .bad
  | .str z, .int n => if 1 ≤ n ∧ n < 16777216 ∧ z.length * n.toNat ≤ 16777216 ∧ z.length ≤ 16777216 then .ok (.str (strRep z n)) S else .bad
  | .tup xs, .int k => if xs ≠ [] ∧ 2 ≤ k ∧ k ≤ 1000 ∧ xs.length ≤ 1000 then .ok (.tup (List.replicate k.toNat xs).flatten) S else .bad
  | x, .int k => (match mlsD S x with
    | some xs => if -(2 ^ 63) ≤ k ∧ k < 2 ^ 63 ∧ xs.length * k.toNat ≤ 16777216 then .ok (.tml (List.replicate k.toNat xs).flatten) S else .bad
    | none => .bad)
  | _, _ => .bad
abbrev rMulA (K : PySem.W.Frag) : R2 := fun x y H Q => ((rI CMul (fun i j => .int (i * j)) x y H Q ∨ rRepS x y H Q) ∨ rRepT K x y H Q) ∨ rRep x y H Q
theorem op_mulA {X : Cx} : OpR X (binaryOp .Mult) (rMulA X.K) := ((op_mul.or op_repS).or op_repT).or op_rep
theorem VRs.rep {K : PySem.W.Frag} {m : List Addr} {H : Hp} {ds : List D} {vs : List V} (h : VRs K m H ds vs) : ∀ n : Nat, VRs K m H (List.replicate n ds).flatten (List.replicate n vs).flatten
  | 0 => VRs.nil
  | n + 1 => by
    rw [List.replicate_succ, List.replicate_succ, List.flatten_cons, List.flatten_cons]
    exact h.append (VRs.rep h n)
theorem ad_mulA {K : PySem.W.Frag} : Ad2L K (rMulA K) oMulA := by
  intro W σ m e S H0 H x y v u Q he s rx ry k
  unfold oMulA at k
  split at k
  · rename_i i j
    split at k
    · rename_i hc
      exact .inl (.inl (.inl ⟨i, j, vx_int rx, vx_int ry, hc, k.fin s he _ (VX.of vr_int)⟩))
    · exact k.elim
  · rename_i z n
    split at k
    · rename_i hc
      exact .inl (.inl (.inr ⟨z, n, vx_str rx, vx_int ry, hc.1, hc.2.1, hc.2.2.1, hc.2.2.2, k.fin s he _ (VX.of vr_str)⟩))
    · exact k.elim
  · rename_i xs kk
    split at k
    · rename_i hc
      obtain ⟨p, us, rfl, sq, rr⟩ := tup_ok rx
      refine .inl (.inr ⟨p, kk, us, rfl, vx_int ry, sq, fun z => hc.1 ?_, hc.2.1, hc.2.2.1, by rw [rr.length]; exact hc.2.2.2, fun q hq => k.fin (s.other hq) (he.beside hq) _ (VX.of (vr_tup hq (rr.rep _)))⟩)
      subst z
      exact List.eq_nil_of_length_eq_zero (by rw [← rr.length]; rfl)
    · exact k.elim
  · rename_i kk _ _ _
    split at k
    · rename_i xs q
      split at k
      · rename_i hc
        obtain ⟨p, us, rfl, hp, rr⟩ := mls_ok s rx q
        exact .inr ⟨p, kk, us, rfl, vx_int ry, hp, hc.1, hc.2.1, by rw [rr.length, sizeLine_eq]; exact hc.2.2, fun q hq => k.fin (s.other hq) (he.beside hq) _ (vx_tml he s hq (rr.rep _))⟩
      · exact k.elim
    · exact k.elim
  · exact k.elim

/-! ### list(range(..)), tuple(range(..)) -/
section
variable {X : Cx} {W : WX} {a b : Expr} {fa fb : FE} {p p2 pos pos2 : Pos}
def rgOk (a b : Int) : Bool := decide (-(2 ^ 62) ≤ a ∧ a < 2 ^ 62 ∧ -(2 ^ 62) ≤ b ∧ b < 2 ^ 62 ∧ (b - a).toNat ≤ 2 ^ 24)
theorem vrs_rg {K : PySem.W.Frag} {m : List Addr} {H : Hp} {i j : Int} : VRs K m H (rngD i (j - i).toNat) (rgV i j) := by
  unfold rngD rgV
  generalize (j - i).toNat = n
  generalize hl : List.range n = l
  clear hl
  induction l with
  | nil => exact VRs.nil
  | cons a l ih => exact VRs.cons vr_int ih
def lrgF (fa fb : FE) : FE := fun env S => (fa env S).bind fun x S1 => (fb env S1).bind fun y S2 => match x, y with
  | .int i, .int j => if rgOk i j = true then .ok (.tml (rngD i (j - i).toNat)) S2 else .bad
  | _, _ => .bad
def lrgF1 (fa : FE) : FE := fun env S => (fa env S).bind fun y S2 => match y with
  | .int j => if rgOk 0 j = true then .ok (.tml (rngD 0 (j - 0).toNat)) S2 else .bad
  | _ => .bad
theorem sx_lrg2 (hc : X.calm = true) (hg : Gl X "list") (hm : X.mg "list" = none) (hg2 : Gl X "range") (hm2 : X.mg "range" = none) (ha : SE X W a fa) (hb : SE X W b fb)
    (na : starEach [.Call (.Name "range" p2) [a, b] [] pos2] X.env = (false, eval (.Call (.Name "range" p2) [a, b] [] pos2) X.env) :: starEach [] X.env := by rfl)
    (n2 : starEach [a, b] X.env = (false, eval a X.env) :: starEach [b] X.env := by rfl) (nb : starEach [b] X.env = (false, eval b X.env) :: starEach [] X.env := by rfl) (hp : (backTo pos2 (starEach [b] X.env)).any (·.1) = false := by rfl) :
    SX X W (.Call (.Name "list" p) [.Call (.Name "range" p2) [a, b] [] pos2] [] pos) (lrgF fa fb) :=
  pe_imp (pe_listRg hc hg hm (prg_2 hg2 hm2 ha hb n2 nb hp) na) fun σ H Q ⟨m, env, S, s, er, k⟩ => ⟨m, env, S, s, er, k.seq0 fun e H1 S1 x s1 he k1 v vr => ⟨m ++ e, env, S1, s1, er.on he, k1.seq he fun e2 H2 S2 y s2 h12 he2 k2 u ur => by
    split at k2
    · rename_i i j
      split at k2
      · rename_i hr
        have hr' := of_decide_eq_true hr
        exact ⟨i, j, vx_int (H0 := H) (VX.of vr), vx_int (H0 := H) (VX.of ur), hr', fun q hq => k2.fin (s2.other hq) (he2.beside hq) _ (vx_tml he2 s2 hq vrs_rg)⟩
      · exact k2.elim
    · exact k2.elim⟩⟩
theorem sx_lrg1 (hc : X.calm = true) (hg : Gl X "list") (hm : X.mg "list" = none) (hg2 : Gl X "range") (hm2 : X.mg "range" = none) (ha : SE X W a fa)
    (na : starEach [.Call (.Name "range" p2) [a] [] pos2] X.env = (false, eval (.Call (.Name "range" p2) [a] [] pos2) X.env) :: starEach [] X.env := by rfl)
    (n2 : starEach [a] X.env = (false, eval a X.env) :: starEach [] X.env := by rfl) :
    SX X W (.Call (.Name "list" p) [.Call (.Name "range" p2) [a] [] pos2] [] pos) (lrgF1 fa) :=
  pe_imp (pe_listRg hc hg hm (prg_1 hg2 hm2 ha n2) na) fun σ H Q ⟨m, env, S, s, er, k⟩ => ⟨m, env, S, s, er, k.seq0 fun e H1 S1 x s1 he k1 v vr => by
    split at k1
    · rename_i j
      split at k1
      · rename_i hr
        have hr' := of_decide_eq_true hr
        exact ⟨j, vx_int (H0 := H) (VX.of vr), hr', fun q hq => k1.fin (s1.other hq) (he.beside hq) _ (vx_tml he s1 hq vrs_rg)⟩
      · exact k1.elim
    · exact k1.elim⟩
end

/-! ### sorted -/
def encD (d : D) : PyData := (toP d).getD .none
open Classical in
noncomputable def gSorted : FC := fun ds S => match ds with
  | [d] => (match seqD S d with
    | some xs => if (∀ x ∈ xs, (toP x).isSome = true ∧ (encD x).depth ≤ 60) ∧ PySem.W.AllAlike (xs.map encD) ∧ PySem.W.Sortable (xs.map encD) ∧ (lstD S d).isSome = true then .ok (.tml (xs.mergeSort (PySem.W.dataLe false encD))) S else .bad
    | none => .bad)
  | _ => .bad
/-- sorted(xs), xs a list of alike data -/
def rSortD (K : PySem.W.Frag) : List V → Hp → VK → Prop := fun vs H Q => ∃ (p : Addr) (us : List V) (ps : List D) (m : List Addr), vs = [.ref p] ∧ SqL K H p us ∧ VRs K m H ps us ∧ (∀ x ∈ ps, (toP x).isSome = true ∧ (encD x).depth ≤ 60) ∧
  PySem.W.AllAlike (ps.map encD) ∧ PySem.W.Sortable (ps.map encD) ∧ ∀ q ws, H q = none → VRs K m H (ps.mergeSort (PySem.W.dataLe false encD)) ws → Q (.ref q) (upd H q (.lst ws))
theorem each_vals {K : PySem.W.Frag} {m : List Addr} {H : Hp} : ∀ {ds : List D} {vs : List V} {us : List Value}, VRs K m H ds vs → Vals vs us → PySem.W.EachIs (fun u d => ∃ v, RelV v u ∧ VR K m H d v) us ds
  | [], _, _, h, r => by
    rw [VRs.nil_iff.mp h] at r
    cases r
    exact .nil
  | d :: ds, _, _, h, r => by
    obtain ⟨v, w, rfl, a, b⟩ := VRs.cons_iff.mp h
    cases r with
    | cons r rr => exact .cons ⟨v, r, a⟩ (each_vals b rr)
theorem vals_each {K : PySem.W.Frag} {m : List Addr} {H : Hp} : ∀ {ds : List D} {us : List Value}, PySem.W.EachIs (fun u d => ∃ v, RelV v u ∧ VR K m H d v) us ds → ∃ vs, VRs K m H ds vs ∧ Vals vs us
  | [], _, h => by
    cases h
    exact ⟨[], VRs.nil, .nil⟩
  | d :: ds, _, h => by
    cases h with
    | cons h t =>
      obtain ⟨v, r, a⟩ := h
      obtain ⟨vs, b, c⟩ := vals_each t
      exact ⟨v :: vs, VRs.cons a b, .cons r c⟩
theorem each_imp {α β : Type} {R R' : α → β → Prop} : ∀ {xs : List α} {ys : List β}, PySem.W.EachIs R xs ys → (∀ x y, y ∈ ys → R x y → R' x y) → PySem.W.EachIs R' xs ys
  | _, [], h, _ => by cases h; exact .nil
  | _, y :: ys, h, f => by
    cases h with
    | cons h t => exact .cons (f _ y (by simp) h) (each_imp t fun x z hz => f x z (by simp [hz]))
theorem cr_sortD {X : Cx} (hu : X.A.units + 100 < cLine) : CallR X (.builtin "sorted") (rSortD X.K) := by
  intro pins s σ H vs us Q I r h
  obtain ⟨p, xs, ps, m, rfl, sq, rv, hp, hal, hso, q⟩ := h
  obtain ⟨u, rfl, ru⟩ := vals1 r
  obtain rfl : u = Value.ref p := ru
  obtain ⟨its, rr, hl, hz⟩ := I.list sq
  have e := each_vals rv rr
  refine PySem.W.sorted_data (bs := ps) (enc := encD) hl.isList e (each_imp e fun x d hd ⟨v, r1, r2⟩ => ?_) hal hso (by rw [← rv.length]; exact hz) (fun b hb => by have := (hp b hb).2; omega) fun out ho eo => ?_
  · obtain ⟨hs, _⟩ := hp d hd
    cases z : toP d with
    | none => rw [z] at hs; cases hs
    | some pd =>
      have : encD d = pd := by unfold encD; rw [z]; rfl
      rw [this]
      exact Dp.reads I pd v x (toP_ok z r2) r1
  · obtain ⟨ws, r1, r2⟩ := vals_each eo
    obtain ⟨n, hn⟩ := PyProof.Rows.sortedAll_at s.heap its out.toArray
    refine ⟨.ref (s.heap.objs.size + 1), upd H (s.heap.objs.size + 1) (.lst ws), I.laid (t' := s.toks) (fun _ _ => PyProof.Rows.sortedAll_old) (Nat.le_succ _) ⟨?_, out, n, r2, hn⟩, rfl, q _ ws (I.hok.fresh (Nat.le_succ _)) r1⟩
    rw [r1.length, List.length_mergeSort, ← rv.length]
    exact hz
theorem ac_sortD {K : PySem.W.Frag} : AdCL K (rSortD K) gSorted := by
  intro W σ m e S H0 H ds vs Q he s r k
  unfold gSorted at k
  split at k
  · rename_i d
    obtain ⟨v, rfl, rv⟩ := vxs1 r
    split at k
    · rename_i xs q
      split at k
      · rename_i hc
        have q' : lstD S d = some xs := by
          have h4 := hc.2.2.2
          cases d with
          | tup _ => cases h4
          | rls _ => exact q
          | tml _ => exact q
          | ref i => exact q
          | _ => cases q
        obtain ⟨p, us, rfl, sq, rr⟩ := lst_ok s rv q'
        exact ⟨p, us, xs, m ++ e, rfl, sq, rr, hc.1, hc.2.1, hc.2.2.1, fun q ws hq hw => k.fin (s.other hq) (he.beside hq) _ (vx_tml he s hq hw)⟩
      · exact k.elim
    · exact k.elim
  · exact k.elim

/-! ### repr -/
def okP (p : PyData) : Bool := p.showable && !p.hasDict && decide (p.depth ≤ 60) && decide (p.shown.length + 64 ≤ 16777216)
def gRepr : FC := fun ds S => match ds with
  | [d] => (match pdS S d with
    | some p => if okP p = true then .ok (.str p.shown) S else .bad
    | none => .bad)
  | _ => .bad
def rReprD (K : PySem.W.Frag) : List V → Hp → VK → Prop := fun vs H Q => ∃ (v : V) (p : PyData), vs = [v] ∧ Dp K H v p ∧ okP p = true ∧ Q (.str p.shown) H
theorem okP_iff {p : PyData} (h : okP p = true) : p.showable = true ∧ p.hasDict = false ∧ p.depth ≤ 60 ∧ p.shown.length + 64 ≤ 16777216 := by
  unfold okP at h
  simp only [Bool.and_eq_true, Bool.not_eq_true', decide_eq_true_eq] at h
  exact ⟨h.1.1.1, h.1.1.2, h.1.2, h.2⟩
theorem cr_reprD {X : Cx} (hg : X.A.guards = some []) (hu : X.A.units + 100 < cLine) : CallR X (.builtin "repr") (rReprD X.K) := by
  intro pins s σ H vs us Q I r h
  obtain ⟨v, p, rfl, dp, ok, q⟩ := h
  obtain ⟨u, rfl, ru⟩ := vals1 r
  obtain ⟨h1, h2, h3, h4⟩ := okP_iff ok
  obtain ⟨as, rd⟩ := Dp.reads I p v u dp ru
  have hz : p.shown.length ≤ sizeLine := by rw [sizeLine_eq]; omega
  have big : ∀ a, u = Value.ref a → wpAny (model X.prog X.w) X.A (call (.builtin "repr") [u]) (EP X pins σ Q) X.xe s := fun a e => by
    subst e
    exact repr_of_reads' rd h1 (fun z => by rw [h2] at z; cases z) hg (by omega) (fun _ _ e => e) (fun h' u tk hk => ⟨.str p.shown, H, I.kept hk, ⟨_, rfl⟩, q⟩) hz
  cases dp with
  | non => cases (show u = Value.none from ru); exact PySem.P.repr_of_none ⟨.str (PyData.shown .none), H, I.tok _, ⟨s.toks, by simp [PyData.shown]⟩, q⟩
  | bl b => cases (show u = Value.bool b from ru); exact PySem.P.repr_of_bool ⟨.str (PyData.shown (.bool b)), H, I.tok _, ⟨s.toks, by simp [PyData.shown]⟩, q⟩
  | int i =>
    obtain ⟨t, z⟩ := (show ∃ t, u = Value.int i t from ru)
    subst z
    exact PySem.P.repr_of_int (by simpa [PyData.showable] using h1) ⟨.str (PyData.shown (.int i)), H, I.tok _, ⟨s.toks, by simp [PyData.shown]⟩, q⟩
  | str i =>
    obtain ⟨t, z⟩ := (show ∃ t, u = Value.str i t from ru)
    subst z
    exact PySem.P.repr_of_str ⟨.str (PyData.shown (.str i)), H, I.tok _, ⟨s.toks, by simp [PyData.shown]⟩, q⟩ (by simpa [PyData.shown] using hz)
  | lst _ _ => exact big _ ru
  | tup _ _ => exact big _ ru
theorem ac_reprD {K : PySem.W.Frag} : AdC K (rReprD K) gRepr := by
  intro W σ m e S H0 H ds vs Q he s r k
  unfold gRepr at k
  split at k
  · rename_i d
    obtain ⟨v, rfl, rv⟩ := vxs1 r
    split at k
    · rename_i p q
      split at k
      · rename_i ok
        exact ⟨v, p, rfl, pdS_ok s q rv, ok, k.fin s he _ vr_str⟩
      · exact k.elim
    · exact k.elim
  · exact k.elim
end Ah

set_option maxHeartbeats 1000000
namespace Ah
open PySem PySem.Spec PyProof.Rows L2

/-! ### o[i] = e -/
def rSetD : V → V → V → Hp → (Hp → Prop) → Prop := fun o i v H Q => ∃ a H', o = .ref a ∧ DPut H a i v H' ∧ Q H'
theorem set_dict {X : Cx} (hu : X.A.units + 1 < cLine) : PSet X rSetD := by
  intro pins s σ H o i v ov iv u Q I ro ri rv ⟨a, H', e, g, q⟩
  subst e
  cases ro
  exact d_setItem hu I g ri rv fun s' I' => ⟨H', I', q⟩
def rSetA : V → V → V → Hp → (Hp → Prop) → Prop := fun o i v H Q => rSetL o i v H Q ∨ rSetD o i v H Q
theorem set_any {X : Cx} (hu : X.A.units + 1 < cLine) : PSet X rSetA := by
  intro pins s σ H o i v ov iv u Q I ro ri rv h
  rcases h with h | h
  · exact set_list pins s σ H o i v ov iv u Q I ro ri rv h
  · exact set_dict hu pins s σ H o i v ov iv u Q I ro ri rv h
def setD (S : Sto) (o i v : D) : Option Sto := match o with
  | .ref k => (match S[k]? with
    | some (.lst xs) => (match i with
      | .int j => (ixN xs.length j).map fun n => S.set k (.lst (xs.set n v))
      | _ => none)
    | some (.dct false ks) => (match keyD i with
      | some kk => if ks.length < 16777216 then some (S.set k (.dct false (putKD ks kk v))) else none
      | none => none)
    | _ => none)
  | _ => none
def stS (fe fo fi : FE) : FS := fun env S => (fe env S).toS env fun v S1 => (fo env S1).toS env fun o S2 => (fi env S2).toS env fun i S3 => match setD S3 o i v with
  | some S4 => .nx env S4
  | none => .bad
theorem dct_put {K : PySem.W.Frag} {m e : List Addr} {S : Sto} {H0 H : Hp} {i : Nat} {a : Addr} {ks ks' : List (Key × V)} {es : List (Key × D)} (s : Sim K (m ++ e) S H) (he : HE m e H0 H) (ha : (m ++ e)[i]? = some a) (hp : H a = some (.dK ks)) (r : KR K (m ++ e) H es ks') :
    Sim K (m ++ e) (S.set i (.dct false es)) (upd H a (.dK ks')) ∧ HE m e H0 (upd H a (.dK ks')) ∧ TK H (upd H a (.dK ks')) := by
  have tk : TK H (upd H a (.dK ks')) := TK.mut hp trivial
  exact ⟨s.put ha hp trivial ⟨ks', r.mono Gr.refl tk, upd_same⟩, he.mutE (List.mem_of_getElem? ha) hp trivial, tk⟩
section
variable {X : Cx} {W : WX} {pos pos' : Pos} {o i e : Expr} {fe fo fi : FE}
theorem ss_st (hu : X.A.units + 1 < cLine) (he : SE X W e fe) (ho : SE X W o fo) (hi : SE X W i fi) (hs : swapsWithSole [.Subscript o i pos'] e pos.line X.env = pure false := by rfl) (hw : swappedStores [.Subscript o i pos'] e X.env = pure none := by rfl)
    (h1 : (assignEach [.Subscript o i pos'] X.env).map (·.2) = [assign (.Subscript o i pos') X.env] := by rfl)
    (ha : ∀ v, assign (.Subscript o i pos') X.env v = (do
      let ov ← holding [v] (eval o X.env)
      let iv ← holding [v, ov] (eval i X.env)
      standAt pos'
      holding [v, ov, iv] (setItem ov iv v)
      release [v, ov, iv] []) := by intro _; rfl) : SS X W (.Assign [.Subscript o i pos'] e pos) (stS fe fo fi) :=
  ps_imp (ps_asg he (pg_sub ho hi (set_any hu) ha) hs hw h1) fun Dn σ H ⟨m, env, S, s, er, k⟩ => ⟨m, env, S, s, er, k.ex0 er fun e1 H1 S1 d s1 he k1 v vr => by
    refine ⟨m ++ e1, env, S1, s1, er.on he, k1.exN er he fun e2 H2 S2 od s2 h12 he2 k2 ov or_ => ?_⟩
    refine ⟨m ++ (e1 ++ e2), env, S2, s2, (er.on he).on2 h12, k2.exN er he2 fun e3 H3 S3 id_ s3 h23 he3 k3 iv ir => ?_⟩
    have vr2 := vr.on2 h12
    have vr3 := vr2.on2 h23
    have or3 := or_.on2 h23
    split at k3
    case h_2 => exact k3.elim
    rename_i S4 q
    have fin : ∀ H4, Sim X.K (m ++ (e1 ++ e2 ++ e3)) S4 H4 → HE m (e1 ++ e2 ++ e3) H H4 → Dn.nx σ H4 := fun H4 s4 he4 => k3 σ H4 _ s4 he4 (er.on he4)
    unfold setD at q
    split at q
    case h_2 => cases q
    rename_i kk
    have orr := or3
    unfold VR at orr
    obtain ⟨a, ha, rfl⟩ := orr
    split at q
    · rename_i xs qS
      split at q
      · rename_i j
        cases qj : ixN xs.length j with
        | none => rw [qj] at q; cases q
        | some n =>
          rw [qj] at q
          cases (Option.some.inj q)
          obtain ⟨ys, rr, hp⟩ := s3.ob kk a _ ha qS
          obtain ⟨s4, he4, _⟩ := lst_put (es := xs.set n d) (ys := ys.set n v) s3 he3 ha hp (rr.set vr3 n)
          exact .inl ⟨a, ys, j, n, rfl, vx_int (H0 := H) (VX.of ir), hp, by rw [rr.length]; exact qj, fin _ s4 he4⟩
      · cases q
    · rename_i ks qS
      split at q
      · rename_i k0 qk
        split at q
        · rename_i hl
          cases (Option.some.inj q)
          obtain ⟨ys, rr, hp⟩ := s3.ob kk a _ ha qS
          have hp : H3 a = some (.dK ys) := hp
          obtain ⟨s4, he4, _⟩ := dct_put (es := putKD ks k0 d) (ks' := putK ys k0 v) s3 he3 ha hp (rr.put vr3)
          have ek : iv = kV k0 := key_ok (H0 := H) (VX.of ir) qk
          exact .inr ⟨a, _, rfl, by rw [ek]; exact DPut.k hp (by rw [rr.length, sizeLine_eq]; exact hl), fin _ s4 he4⟩
        · cases q
      · cases q
    · cases q⟩
end

/-! ### isinstance -/
def knownTy : List String := ["NoneType", "bool", "int", "str", "tuple", "list", "dict"]
def tyOfD (d : D) (S : Sto) : Option String := match d with
  | .non => some "NoneType"
  | .bl _ => some "bool"
  | .int _ => some "int"
  | .str _ => some "str"
  | .tup _ => some "tuple"
  | .rls _ => some "list"
  | .tml _ => some "list"
  | .ref i => (match S[i]? with
    | some (.lst _) => some "list"
    | some (.dct _ _) => some "dict"
    | _ => none)
  | _ => none
def isiB (T n : String) : Option Bool := if knownTy.contains T = true ∧ ["bool", "int", "str", "tuple", "list", "dict"].contains n = true then some (T == n || (T == "bool" && n == "int")) else none
theorem isiB_ok {T n : String} {b : Bool} (h : isiB T n = some b) : kitB T n = some b := by
  unfold isiB at h
  split at h
  case isFalse => cases h
  rename_i hc
  have hT : T ∈ knownTy := by simpa using hc.1
  have hn : n ∈ ["bool", "int", "str", "tuple", "list", "dict"] := by simpa using hc.2
  have := Option.some.inj h
  subst this
  have key : ∀ T ∈ knownTy, ∀ n ∈ ["bool", "int", "str", "tuple", "list", "dict"], kitB T n = some (T == n || (T == "bool" && n == "int")) := by decide +kernel
  exact key T hT n hn
def gIsi : FC := fun ds S => match ds with
  | [x, .ty n] => (match tyOfD x S with
    | some T => (match isiB T n with
      | some b => .ok (.bl b) S
      | none => .bad)
    | none => .bad)
  | _ => .bad
theorem ty_of {K : PySem.W.Frag} {m : List Addr} {S : Sto} {H0 H : Hp} {d : D} {v : V} {T : String} (s : Sim K m S H) (r : VX K H0 m H d v) (h : tyOfD d S = some T) : TyX K H v (.type T) := by
  have sqt : ∀ {a xs}, SqT K H a xs → TyX K H (.ref a) (.type "tuple") := fun {a xs} q => by
    rcases q with (q | ⟨o, q⟩) | ⟨o, its, n, q, c, _⟩
    · exact .base (.tup q)
    · exact .fTuple q
    · exact .kTuple q c
  cases d with
  | non => cases h; rw [vx_non r]; exact .base .non
  | bl b => cases h; rw [vx_bl r]; exact .base (.bl b)
  | int b => cases h; rw [vx_int r]; exact .base (.int b)
  | str b => cases h; rw [vx_str r]; exact .base (.str b)
  | tup ds =>
    cases h
    obtain ⟨p, xs, rfl, sq, _⟩ := tup_ok r
    exact sqt sq
  | rls ds =>
    cases h
    have r1 : VR K m H (.rls ds) v := r
    unfold VR at r1
    obtain ⟨p, xs, rfl, sq, _⟩ := r1
    rcases sq with ⟨o, sq⟩ | ⟨o, its, n, q, c, _⟩
    · exact .base (.frz sq)
    · exact .kList q c
  | tml ds =>
    cases h
    obtain ⟨p, xs, rfl, _, hp, _⟩ := r
    exact .base (.lst hp)
  | ref i =>
    have r1 : VR K m H (.ref i) v := r
    unfold VR at r1
    obtain ⟨a, ha, rfl⟩ := r1
    unfold tyOfD at h
    dsimp only at h
    split at h
    · rename_i ds q
      cases h
      obtain ⟨xs, _, hp⟩ := s.ob i a _ ha q
      exact .base (.lst hp)
    · rename_i lk ds q
      cases h
      obtain ⟨xs, _, hp⟩ := s.ob i a _ ha q
      split at hp
      · obtain ⟨od, hp⟩ := hp
        exact .fDict hp
      · exact .base (.dK hp)
    · cases h
  | _ => cases h
theorem ac_isi {K : PySem.W.Frag} : AdC K (rIsi K) gIsi := by
  intro W σ m e S H0 H ds vs Q he s r k
  unfold gIsi at k
  split at k
  · rename_i x n
    obtain ⟨v, c, rfl, rv, rc⟩ := vxs2 r
    split at k
    · rename_i T qT
      split at k
      · rename_i b qb
        have ec : c = .ty n := by
          have rc1 : VR K (m ++ e) H (.ty n) c := rc
          unfold VR at rc1
          exact rc1
        subst ec
        exact ⟨v, .ty n, .type T, .type n, b, rfl, .ty n, ty_of s rv qT, kit_ty (isiB_ok qb), k.fin s he _ vr_bl⟩
      · exact k.elim
    · exact k.elim
  · exact k.elim

/-! ### f-strings -/
def fmtF (f : FE) : FE := fun env S => (f env S).bind fun d S1 => match d with
  | .str y => if y.length ≤ 16777216 then .ok (.str y) S1 else .bad
  | .int i => if i.natAbs.log2 < 1920 then .ok (.str (toString i)) S1 else .bad
  | _ => .bad
theorem se_fmt {X : Cx} {W : WX} {e : Expr} {f : FE} {pos : Pos} (h : SE X W e f) : SE X W (.FormattedValue e (-1) none pos) (fmtF f) := pe_imp (pe_fmt h) fun σ H Q ⟨m, env, S, s, er, k⟩ => ⟨m, env, S, s, er, k.seq0 fun e1 H1 S1 d s1 he k1 v vr => by
  split at k1
  · rename_i y
    split at k1
    · rename_i hz
      exact .inl ⟨y, vx_str (H0 := H) (VX.of vr), by rw [sizeLine_eq]; exact hz, k1.fin s1 he _ vr_str⟩
    · exact k1.elim
  · rename_i i
    split at k1
    · rename_i hz
      exact .inr ⟨i, vx_int (H0 := H) (VX.of vr), hz, k1.fin s1 he _ vr_str⟩
    · exact k1.elim
  · exact k1.elim⟩
def jnF : List FE → Str → FE
  | [], acc => fun _ S => .ok (.str acc) S
  | f :: fs, acc => fun env S => (f env S).bind fun d S1 => match d with
    | .str y => if (acc ++ y).length ≤ 16777216 then jnF fs (acc ++ y) env S1 else .bad
    | _ => .bad
theorem to_jn {K : PySem.W.Frag} {W : WX} {σ : L2.St} {Q : VK} {m : List Addr} {H : Hp} {env : En} : ∀ (fs : List FE) (acc : Str) (e : List Addr) (H1 : Hp) (S1 : Sto), Sim K (m ++ e) S1 H1 → HE m e H H1 → ER K (m ++ e) H1 env σ → KG K W σ (PQ K Q) m H (jnF fs acc env S1) →
    tJs (fs.map fun f => TEf K W f) acc σ H1 fun out H2 => Q (.str out) H2
  | [], acc, e, H1, S1, s1, he, er, k => k.fin s1 he _ vr_str
  | f :: fs, acc, e, H1, S1, s1, he, er, k => by
    refine ⟨m ++ e, env, S1, s1, er, k.seq he fun e2 H2 S2 d s2 h12 he2 k2 v vr => ?_⟩
    split at k2
    · rename_i y
      split at k2
      · rename_i hz
        exact ⟨y, vx_str (H0 := H) (VX.of vr), by rw [sizeLine_eq]; exact hz, to_jn fs (acc ++ y) (e ++ e2) H2 S2 s2 he2 (er.on2 h12) k2⟩
      · exact k2.elim
    · exact k2.elim
inductive SJ (X : Cx) (W : WX) : List Expr → List FE → Prop where
  | nil : SJ X W [] []
  | cons {e : Expr} {f : FE} {es : List Expr} {fs : List FE} (h : SE X W e f) (r : SJ X W es fs) : SJ X W (e :: es) (f :: fs)
theorem SJ.pj {X : Cx} {W : WX} {es : List Expr} {fs : List FE} (h : SJ X W es fs) : PJ X es (fs.map fun f => TEf X.K W f) := by
  induction h with
  | nil => exact .nil
  | cons h _ ih => exact .cons h ih
theorem se_jn {X : Cx} {W : WX} {v1 v2 : Expr} {rest : List Expr} {fs : List FE} {pos : Pos} (h : SJ X W (v1 :: v2 :: rest) fs) : SE X W (.JoinedStr (v1 :: v2 :: rest) pos) (jnF fs Str.empty) :=
  pe_imp (pe_joined h.pj) fun σ H Q ⟨m, env, S, s, er, k⟩ => to_jn fs Str.empty [] H S (by simpa using s) HE.refl (by simpa using er) k

/-! ### a, b, c = x, y, z -/
def par3S (i j l : Nat) (fa : FA) : FS := fun env S => (fa env S).toS env fun ds S1 => match ds with
  | [a, b, c] => .nx (((env.set i (some a)).set j (some b)).set l (some c)) S1
  | _ => .bad
theorem ss_par3 {X : Cx} {W : WX} {i j l : Nat} {x y z : Str} {a b c : Expr} {fa : FA} {px py pz pt pos : Pos} {kt k2 pt2} (hc : X.calm = true) (hN : X.N.Nodup) (hi : X.N[i]? = some x) (hj : X.N[j]? = some y) (hl : X.N[l]? = some z) (hij : i ≠ j) (hil : i ≠ l) (hjl : j ≠ l)
    (hx : X.env.scope.names.lookup x = some .local) (hy : X.env.scope.names.lookup y = some .local) (hz : X.env.scope.names.lookup z = some .local) (ha : SA X W [a, b, c] fa)
    (hw : swappedStores [.Tuple [.Name x px, .Name y py, .Name z pz] kt pt] (.Tuple [a, b, c] k2 pt2) X.env = pure (some [x, y, z]))
    (hs : swapsWithSole [.Tuple [.Name x px, .Name y py, .Name z pz] kt pt] (.Tuple [a, b, c] k2 pt2) pos.line X.env = pure false := by rfl) :
    SS X W (.Assign [.Tuple [.Name x px, .Name y py, .Name z pz] kt pt] (.Tuple [a, b, c] k2 pt2) pos) (par3S i j l fa) :=
  ps_imp (ps_par3 hc hN hi hj hl hij hil hjl hx hy hz ha hw hs) fun Dn σ H ⟨m, env, S, s, er, k⟩ => ⟨m, env, S, s, er, k.ex0 er fun e1 H1 S1 ds s1 he k1 vs vr => by
    split at k1
    · rename_i a b c
      obtain ⟨v, r1, rfl, va, r2⟩ := VRs.cons_iff.mp vr
      obtain ⟨w, r3, rfl, vb, r4⟩ := VRs.cons_iff.mp r2
      obtain ⟨u, r5, rfl, vc, r6⟩ := VRs.cons_iff.mp r4
      rw [VRs.nil_iff.mp r6]
      exact ⟨v, w, u, rfl, k1 _ H1 e1 s1 he ((((er.on he).set va).set vb).set vc)⟩
    · exact k1.elim⟩

/-! ### xs[::-1] of a list -/
def revF (fa : FE) : FE := fun env S => (fa env S).bind fun x S1 => match lstD S1 x with
  | some xs => .ok (.tml xs.reverse) S1
  | none => .bad
theorem sx_rev {X : Cx} {W : WX} {e : Expr} {fa : FE} {k : Nat} {p1 p2 p3 pos : Pos} (he : SX X W e fa) : SX X W (.Subscript e (.Slice none none (some (.UnaryOp .USub (.Constant (.int 1) k p1) p2)) p3) pos) (revF fa) :=
  pe_imp (pe_revL he) fun σ H Q ⟨m, env, S, s, er, k⟩ => ⟨m, env, S, s, er, k.seq0 fun e1 H1 S1 d s1 he k1 v vr => by
    split at k1
    · rename_i xs q
      obtain ⟨p, us, rfl, sq, rr⟩ := lst_ok s1 vr q
      exact ⟨p, us, rfl, sq, fun q hq => k1.fin (s1.other hq) (he.beside hq) _ (vx_tml he s1 hq rr.reverse)⟩
    · exact k1.elim⟩
theorem seIx {X : Cx} {b : Expr} : PlainIx b ↔ ∀ o i, subscripted b false o i = operate [o, i] (getItem o i) := Iff.rfl
end Ah

set_option maxHeartbeats 1000000
namespace Ah
open PySem PySem.Spec PyProof.Rows L2

/-! ### a, *b, c = a list -/
section
variable {prog : Program} {w : World} {A : Around} {E : Value → Shared → Prop} {s : Shared}
theorem draw_list {it t : Addr} {items : Array Value} (hne : t ≠ it) : ∀ (n i : Nat) (s : Shared) (Q : List Value → Shared → Prop), s.heap.IsListIter it t i → s.heap.IsList t items → i + n ≤ items.size →
    (∀ h', h'.IsListIter it t (i + n) → Heap.SameBut it s.heap h' → Q ((items.toList.drop i).take n) { s with heap := h' }) → wpAny (model prog w) A (draw (.ref it) n) Q E s
  | 0, i, s, Q, hit, _, _, hQ => by
    show wpAny _ _ (pure []) Q E s
    exact wpAny_pure (by simpa using hQ s.heap hit (Heap.SameBut.refl ..))
  | n + 1, i, s, Q, hit, ht, hle, hQ => by
    have hlt : i < items.size := by omega
    show wpAny _ _ (pyNext (.ref it) >>= _) Q E s
    refine wpAny_bind (wpAny_pyNext_list_item hit ht (x := items[i]) (by simp [hlt]) fun h₁ hit₁ hs₁ => ?_)
    refine wpAny_bind (wpAny_holding (draw_list hne n (i + 1) _ _ hit₁ (ht.extBut hs₁.extBut hne) (by omega) fun h₂ hit₂ hs₂ => wpAny_pure ?_))
    have hd : items.toList.drop i = items[i] :: items.toList.drop (i + 1) := by simp [List.drop_eq_getElem_cons, hlt]
    have := hQ h₂ (by rw [show i + (n + 1) = i + 1 + n by omega]; exact hit₂) (hs₁.trans hs₂)
    rw [hd, List.take_succ_cons] at this
    exact this
theorem Walks.shift {I : Addr} {fp wr : List Addr} {n : Nat} {P : Nat → Value → Prop} {St : Nat → Heap → Prop} (W : Walks prog w A I fp wr n P St) (i : Nat) (hi : i ≤ n) : Walks prog w A I fp wr (n - i) (fun j => P (i + j)) (fun j => St (i + j)) where
  sub := W.sub
  frame := fun j => W.frame (i + j)
  item := fun j s Q E hj st hQ => W.item (i + j) s Q E (by omega) st hQ
  done := fun s Q E st hQ => W.done s Q E (by rwa [show i + (n - i) = n by omega] at st) hQ
  self := fun j => W.self (i + j)
theorem unpack_star {t : Addr} {items : Array Value} {n i : Nat} {Q : List Value → Shared → Prop} (hh : A.handled = none) (ht : s.heap.IsList t items) (hz : items.size ≤ sizeLine) (hi : i < n) (hn : n ≤ items.size + 1)
    (hQ : ∀ (h2 : Heap) (tk : Nat), (∀ b o, s.heap.get? b = some o → h2.get? b = some o) →
      Q (items.toList.take i ++ [.ref h2.objs.size] ++ (items.toList.drop i).drop (items.size - i - (n - 1 - i))) { s with heap := h2.push { cls := .type "list", data := .seq ((items.toList.drop i).take (items.size - i - (n - 1 - i))).toArray }, toks := tk }) : wpAny (model prog w) A (unpackItems (.ref t) n (some i)) Q E s := by
  have hlt : t ≠ s.heap.objs.size := by obtain ⟨o, ho, _⟩ := ht; exact Nat.ne_of_lt (Heap.lt_size ho)
  unfold unpackItems
  refine wpAny_bind ?_
  unfold notIterableAtAll
  refine wpAny_bind (wpAny_specialOf ht.typeIs PySem.F.slot_list_iter.lookup ?_)
  refine wpAny_pure ?_
  simp only [Bool.false_eq_true, if_false]
  refine wpAny_bind (wpAny_holding (wpAny_pyIter_list ht ?_))
  refine wpAny_bind (wpAny_holding (draw_list hlt i 0 _ _ ⟨_, Heap.get?_push_size _ rfl, rfl, rfl⟩ (ht.at fun o e => Heap.get?_push_of_some _ e) (by omega) fun h₁ hit₁ hs₁ => ?_))
  rw [Nat.zero_add] at hit₁
  rw [List.drop_zero]
  have hlen : ((items.toList.take i).length < i) = False := by simp; omega
  rw [if_neg (by rw [hlen]; exact id)]
  have k1 : ∀ b o, s.heap.get? b = some o → h₁.get? b = some o := fun b o e => hs₁.extBut b o (Nat.ne_of_lt (Heap.lt_size e)) (Heap.get?_push_of_some _ e)
  have ht₁ : h₁.IsList t items := ht.at fun o e => k1 t o e
  have sz1 : h₁.objs.size = s.heap.objs.size + 1 := by rw [hs₁.1, Heap.size_push]
  have W := (Walks.shift (Walks.list (prog := prog) (w := w) (A := A.in1) hh s.heap.objs.size t hlt items) i (by omega)).toS
  have hfp : ∀ b ∈ [s.heap.objs.size, t], b < h₁.objs.size := fun b hb => by
    have : b = s.heap.objs.size ∨ b = t := by simpa using hb
    rcases this with z | z
    · rw [z, sz1]; omega
    · rw [z]; obtain ⟨o, ho, _⟩ := ht₁; exact Heap.lt_size ho
  refine wpAny_bind (wpAny_holding (wpAny_collect_iter (s := { s with heap := h₁ }) (.inr (.inr (.inl rfl))) W (fun j s' st => st.1.typeIs) ⟨hit₁, ht₁⟩ hfp (by simp) (fun s' acc mv ia => ?_) (by omega)))
  have hacc : acc.toList = items.toList.drop i := by
    apply List.ext_getElem?
    intro j
    rw [List.getElem?_drop]
    by_cases hj : j < acc.size
    · have h3 := ia.2 j acc[j] (by simp [hj])
      rw [Array.getElem?_toList, Array.getElem?_toList, h3]
      simp [hj]
    · rw [List.getElem?_eq_none (by simp; omega), List.getElem?_eq_none (by simp; have := ia.1; omega)]
  have hsz : acc.toList.length = items.size - i := by rw [Array.length_toList]; exact ia.1
  rw [if_neg (by rw [hsz]; omega)]
  have k2 : ∀ b o, s.heap.get? b = some o → s'.heap.get? b = some o := fun b o e => mv.heap b o (by simp; exact Nat.ne_of_lt (Heap.lt_size e)) (k1 b o e)
  refine wpAny_bind (wpAny_newList ?_ (by rw [List.length_take]; omega))
  refine wpAny_pure ?_
  have fin := hQ s'.heap s'.toks k2
  rw [hacc]
  have e1 : (items.toList.drop i).length = items.size - i := by rw [← hacc]; exact hsz
  rw [e1]
  obtain ⟨a1, a2, a3, a4, a5⟩ := s'
  have g := mv.gens
  have d := mv.drawn
  have o := mv.os
  simp only at g d o
  subst g d o
  exact fin
end
def midN (l n i : Nat) : Nat := l - i - (n - 1 - i)
def gStar (K : PySem.W.Frag) (n i : Nat) (t : TGs) : TG := fun v σ H Q => ∃ a xs, v = .ref a ∧ SqL K H a xs ∧ i < n ∧ n ≤ xs.length + 1 ∧
  ∀ p, H p = none → t (xs.take i ++ [.ref p] ++ (xs.drop i).drop (midN xs.length n i)) σ (upd H p (.lst ((xs.drop i).take (midN xs.length n i)))) Q
theorem Vals.take' : ∀ {xs : List V} {us : List Value} (i : Nat), Vals xs us → Vals (xs.take i) (us.take i)
  | _, _, 0, _ => .nil
  | _, _, _ + 1, .nil => .nil
  | _, _, i + 1, .cons r t => .cons r (Vals.take' i t)
theorem Vals.drop' : ∀ {xs : List V} {us : List Value} (i : Nat), Vals xs us → Vals (xs.drop i) (us.drop i)
  | _, _, 0, h => h
  | _, _, _ + 1, .nil => .nil
  | _, _, i + 1, .cons _ t => Vals.drop' i t
theorem pg_star {X : Cx} {es : List Expr} {k : Nat} {pos : Pos} {t : TGs} {n i : Nat} (hc : X.calm = true) (h : PGs X es t) (hn : (assignEach es X.env).length = n := by rfl) (hst : (assignEach es X.env).findIdx? (·.1) = some i := by rfl) : PG X (.Tuple es k pos) (gStar X.K n i t) := by
  refine ⟨fun pins s σ H v u Q I r ⟨a, xs, e, sq, hi, hl, q⟩ => ?_⟩
  subst e
  cases r
  obtain ⟨its, rv, pl, hz⟩ := I.list sq
  have hlen := rv.length
  rw [PyProof.Rows.assign_Tuple]
  refine wpAny_bind (wpAny_standAt ?_)
  unfold unpack
  rw [hn, hst]
  refine wpAny_bind (wpAny_holding (unpack_star (I.ok.hd hc) pl.isList (by rw [List.size_toArray, ← hlen]; exact hz) hi (by rw [List.size_toArray]; omega) fun h2 tk kp => ?_))
  have I1 : Inv X pins σ H { s with heap := h2, toks := tk } := I.kept kp
  have hes : its.toArray.size = xs.length := by rw [List.size_toArray]; exact hlen.symm
  rw [hes]
  have I2 := I1.lnew (t' := tk) (ys := (xs.drop i).take (midN xs.length n i)) (its := ((its.toArray.toList.drop i).take (xs.length - i - (n - 1 - i)))) (Vals.take' _ (Vals.drop' _ (by simpa using rv))) (by rw [List.length_take, List.length_drop]; omega)
  exact h.run pins _ σ _ _ _ Q I2 (((Vals.take' i (by simpa using rv)).append (.cons (show RelV (V.ref _) (Value.ref _) from rfl) .nil)).append (Vals.drop' _ (Vals.drop' _ (by simpa using rv)))) (q _ I1.fresh)
theorem sgs_star {X : Cx} {e : Expr} {es : List Expr} {p : Pos} {f : FTg} {g : FTs} {ws ws' : List Nat} (h1 : SG X e ws f) (h2 : SGs X es ws' g) : SGs X (.Starred e p :: es) (ws ++ ws') (consG f g) := by
  refine ⟨fun pins s σ H vs us Q I r ⟨m, env, ds, env', er, vr, e', k⟩ => ?_⟩
  cases ds with
  | nil => cases e'
  | cons d ds =>
    obtain ⟨v, rr, rfl, a, b⟩ := VRs.cons_iff.mp vr
    replace e' : (f d env).bind (fun e => g ds e) = some env' := e'
    cases q : f d env with
    | none => rw [q] at e'; cases e'
    | some e1 =>
      rw [q] at e'
      cases r with
      | cons r rt =>
        show wpAny _ _ (assignInOrder (assign e X.env :: (assignEach es X.env).map (·.2)) _) _ _ _
        refine assignInOrder_cons (thn (h1.run pins s σ H v _ (fun σ1 H1 => H1 = H ∧ Kp ws σ σ1 ∧ ER X.K m H e1 σ1) I r ⟨m, env, d, e1, er, a, q, fun σ1 er1 kp => ⟨rfl, kp, er1⟩⟩) fun _ s1 ⟨σ1, H1, I1, eH, kp, er1⟩ => ?_)
        subst eH
        exact h2.run pins s1 σ1 H1 rr _ Q I1 rt ⟨m, e1, ds, env', er1, b, e', fun σ2 er2 kp2 => k σ2 er2 (kp.comp kp2)⟩
/-- the star's list is laid in the store -/
def asgStS (n i : Nat) (f : FE) (g : FTs) : FS := fun env S => (f env S).toS env fun d S1 => match lstD S1 d with
  | some xs => if i < n ∧ n ≤ xs.length + 1 then (match g (xs.take i ++ [.ref S1.length] ++ (xs.drop i).drop (midN xs.length n i)) env with
    | some env' => .nx env' (S1 ++ [.lst ((xs.drop i).take (midN xs.length n i))])
    | none => .bad) else .bad
  | none => .bad
theorem ss_asgSt {X : Cx} {W : WX} {es : List Expr} {kk : Nat} {pt pos : Pos} {e : Expr} {fe : FE} {g : FTs} {ws : List Nat} {n i : Nat} (hc : X.calm = true) (he : SX X W e fe) (hg : SGs X es ws g) (hn : (assignEach es X.env).length = n := by rfl) (hst : (assignEach es X.env).findIdx? (·.1) = some i := by rfl)
    (hs : swapsWithSole [.Tuple es kk pt] e pos.line X.env = pure false := by rfl) (hw : swappedStores [.Tuple es kk pt] e X.env = pure none := by rfl) (h1 : (assignEach [.Tuple es kk pt] X.env).map (·.2) = [assign (.Tuple es kk pt) X.env] := by rfl) :
    SS X W (.Assign [.Tuple es kk pt] e pos) (asgStS n i fe g) :=
  ps_imp (ps_asg he (pg_star hc hg hn hst) hs hw h1) fun Dn σ H ⟨m, env, S, s, er, k⟩ => ⟨m, env, S, s, er, k.ex0 er fun e1 H1 S1 d s1 he k1 v vr => by
    split at k1
    case h_2 => exact k1.elim
    rename_i xs q
    split at k1
    case isFalse => exact k1.elim
    rename_i hin
    split at k1
    case h_2 => exact k1.elim
    rename_i env' qg
    obtain ⟨a, us, rfl, sq, rr⟩ := lst_ok s1 vr q
    have hl : us.length = xs.length := rr.length
    refine ⟨a, us, rfl, sq, hin.1, by rw [hl]; exact hin.2, ?_⟩
    rw [hl]
    intro p hp
    have hnm : p ∉ m ++ e1 := s1.notin hp
    have tk := TK.new (o := .lst ((us.drop i).take (midN xs.length n i))) hp
    have rr2 : VRs X.K (m ++ e1) (upd H1 p (.lst ((us.drop i).take (midN xs.length n i)))) xs us := rr.mono Gr.refl tk
    have s2 := (s1.other (o := .lst ((us.drop i).take (midN xs.length n i))) hp).add hnm (o := .lst ((xs.drop i).take (midN xs.length n i))) ⟨_, (rr2.drop i).take _, upd_same⟩
    have he2 : HE m (e1 ++ [p]) H (upd H1 p (.lst ((us.drop i).take (midN xs.length n i)))) := by
      have h0 := he.beside (o := .lst ((us.drop i).take (midN xs.length n i))) hp
      exact ⟨h0.tk, h0.oth, h0.dom, fun x hx => (List.mem_append.mp hx).elim (he.new x) fun z => by
        have : x = p := by simpa using z
        rw [this]; exact he.free hp⟩
    have ea : m ++ e1 ++ [p] = m ++ (e1 ++ [p]) := List.append_assoc _ _ _
    rw [ea] at s2
    have rr3 : VRs X.K (m ++ (e1 ++ [p])) (upd H1 p (.lst ((us.drop i).take (midN xs.length n i)))) xs us := by
      rw [← ea]
      exact rr2.mono (Gr.app _ _) TK.refl
    have vp : VR X.K (m ++ (e1 ++ [p])) (upd H1 p (.lst ((us.drop i).take (midN xs.length n i)))) (.ref S1.length) (.ref p) := by
      unfold VR
      refine ⟨p, ?_, rfl⟩
      rw [← ea, ← s1.len]
      simp
    refine ⟨m ++ (e1 ++ [p]), env, _, env', er.on he2, ?_, qg, fun σ' er' _ => k1 σ' _ _ s2 he2 er'⟩
    exact ((rr3.take i).append (VRs.one vp)).append ((rr3.drop i).drop _)⟩
end Ah

set_option maxHeartbeats 2000000
namespace Ah
open PySem PySem.Spec PyProof.Rows L2

/-! ### own error classes -/
def oexB (K : PySem.W.Frag) (C : Addr) : Bool := (match K.lookup C with
  | some ⟨.type "type", _, .cls cd, sl⟩ => (match cd.mro, sl.toList with
    | .ref C' :: bm, [_, _, _, _, some (.builtin n), _] => decide (C' = C) && decide (n = "ValueError.__new__") && !cd.hasDel && cd.hasDict && PySem.HandSPX.refsVE bm
    | _, _ => false)
  | _ => false)
theorem oexB_ok {K : PySem.W.Frag} {C : Addr} (q : oexB K C = true) : ∃ nm q N bs bm sn sub ab col dd k0 k1 k2 k3 k5, K.lookup C = some (excClassObj nm q C N bs bm true sn sub ab col dd k0 k1 k2 k3 k5 "ValueError.__new__") ∧ PySem.HandSPX.refsVE bm = true := by
  unfold oexB at q
  split at q
  · rename_i dd cd sl ho
    split at q
    · rename_i C' bm k0 k1 k2 k3 n k5 hm hs
      simp only [Bool.and_eq_true, decide_eq_true_eq, Bool.not_eq_true'] at q
      obtain ⟨⟨⟨⟨rfl, rfl⟩, hdel⟩, hdict⟩, ht⟩ := q
      obtain ⟨nm, bs, mro, ns, qn, hd, sn, sub, ab, col, del⟩ := cd
      dsimp only at hm hdel hdict
      subst hm hdel hdict
      have hsl : sl = #[k0, k1, k2, k3, some (.builtin "ValueError.__new__"), k5] := by
        obtain ⟨l⟩ := sl
        simp only at hs
        rw [hs]
      subst hsl
      exact ⟨nm, qn, ns, bs, bm, sn, sub, ab, col, dd, k0, k1, k2, k3, k5, ho, ht⟩
    · cases q
  · cases q

/-- what the written part says of the own error class C with an __init__ of its own and the fields flds -/
structure ErrC (K : PySem.W.Frag) (C : Str) (flds : List Str) : Prop where
  T : OexC K (He.ga K C)
  ini : PySem.W.findIn K (.ref (He.ga K C)) "__init__" = some (some (.ref (He.ma K (He.ga K C) "__init__")))
  tI : PySem.W.typeIn K (.ref (He.ma K (He.ga K C) "__init__")) = some (.type "function")
  no : ∀ f ∈ flds, PySem.W.findIn K (.ref (He.ga K C)) f = some none
  isE : ExcC K (He.ga K C)
def excB (K : PySem.W.Frag) (D : Addr) : Bool :=
  decide (PySem.W.findIn K (.ref D) "__getattribute__" = some (some (.builtin "BaseException.__getattribute__"))) && decide (PySem.W.findIn K (.ref D) "__getattr__" = some none) && decide (PySem.W.subIn K (.ref D) (.type "BaseException") = some true) &&
  PySem.W.hasDictIn K D && decide (PySem.W.findIn K (.ref D) "__class__" = some (some (.builtin "object.__class__"))) && decide (PySem.W.specialIn K (.builtin "object.__class__") "__get__" = some (some (.builtin "getset_descriptor.__get__"))) &&
  decide (PySem.W.takesIn K (.builtin "object.__class__") = some true) && decide (PySem.W.mroIn K D (.type "object") = some true)
theorem excB_ok {K : PySem.W.Frag} {D : Addr} (h : excB K D = true) : ExcC K D := by
  unfold excB at h
  simp only [Bool.and_eq_true, decide_eq_true_eq] at h
  obtain ⟨⟨⟨⟨⟨⟨⟨h1, h2⟩, h3⟩, h4⟩, h5⟩, h6⟩, h7⟩, h8⟩ := h
  exact ⟨h1, h2, h3, h4, h5, h6, h7, h8⟩
def errB (K : PySem.W.Frag) (C : Str) (flds : List Str) : Bool :=
  oexB K (He.ga K C) && decide (PySem.W.findIn K (.ref (He.ga K C)) "__setattr__" = some (some (.builtin "object.__setattr__"))) && decide (PySem.W.subIn K (.ref (He.ga K C)) (.type "BaseException") = some true) &&
  decide (PySem.W.typeIn K (.ref (He.ga K C)) = some (.type "type")) && PySem.W.keepIn K (.ref (He.ga K C)) && decide (PySem.W.findIn K (.ref (He.ga K C)) "__init__" = some (some (.ref (He.ma K (He.ga K C) "__init__")))) &&
  decide (PySem.W.typeIn K (.ref (He.ma K (He.ga K C) "__init__")) = some (.type "function")) && (flds.all fun f => decide (PySem.W.findIn K (.ref (He.ga K C)) f = some none)) && excB K (He.ga K C)
theorem errB_ok {K : PySem.W.Frag} {C : Str} {flds : List Str} (h : errB K C flds = true) : ErrC K C flds := by
  unfold errB at h
  simp only [Bool.and_eq_true, decide_eq_true_eq, List.all_eq_true] at h
  obtain ⟨⟨⟨⟨⟨⟨⟨⟨h1, h2⟩, h3⟩, h4⟩, h5⟩, h6⟩, h7⟩, h8⟩, h9⟩ := h
  exact ⟨⟨oexB_ok h1, h2, h3, h4, h5⟩, h6, h7, h8, excB_ok h9⟩
/-- the base class A whose __init__ is ValueError's -/
def baseB (K : PySem.W.Frag) (A : Str) : Bool := decide (PySem.W.specialIn K (.ref (He.ga K A)) "__getattribute__" = some (some (.builtin "type.__getattribute__"))) && PySem.W.readsIn K (He.ga K A) (.type "type") &&
  (match PySem.W.findCls K (.ref (He.ga K A)) (.type "type") "__init__" with
    | some (.val v) => decide (v = .builtin "ValueError.__init__")
    | _ => false)
section
variable {X : Cx} {es : List Expr} {e : Expr} {ta : TA} {p1 p2 pos : Pos} {A : Str}
theorem pe_abinit {pl : Sem Bool} (hg : Gl X A) (hm : X.mg A = some (.ref (He.ga X.K A))) (hb : baseB X.K A = true) (ha : PA X (e :: es) ta) (hdb : (A == ("__debug__" : Str)) = false := by decide)
    (hc : eval (.Call (.Attribute (.Name A p1) "__init__" p2) (e :: es) [] pos) X.env = (do
      let ov ← eval (.Name A p1) X.env
      standAt p2.atName
      let (f, first) ← holding [ov] (getMethod ov "__init__" pl)
      callWith pos f first (backTo pos (starEach (e :: es) X.env)) (backToKw pos (keywordEach [] X.env))) := by rfl)
    (he : starEach (e :: es) X.env = (false, eval e X.env) :: starEach es X.env := by rfl) (hpl : (backTo pos (starEach es X.env)).any (·.1) = false := by rfl) :
    PE X (.Call (.Attribute (.Name A p1) "__init__" p2) (e :: es) [] pos) (tVeI X.K ta) := by
  refine ⟨fun pins s σ H Q I h => ?_⟩
  unfold baseB at hb
  simp only [Bool.and_eq_true, decide_eq_true_eq] at hb
  obtain ⟨⟨b1, b2⟩, b3⟩ := hb
  have b4 : PySem.W.findCls X.K (.ref (He.ga X.K A)) (.type "type") "__init__" = some (.val (.builtin "ValueError.__init__")) := by
    split at b3
    · rename_i v q
      rw [q, of_decide_eq_true b3]
    · cases b3
  refine PySem.W.methodCall_KW (ld_glob I hg hm ?_ hdb) hc
  refine PySem.W.method_cls I.kIn b1 (PySem.W.cls_value I.kIn b2 b4 (by decide +kernel) ?_)
  show wpAny _ _ (callWith pos (Value.builtin "ValueError.__init__") [] (backTo pos (starEach (e :: es) X.env)) []) _ _ _
  refine PyProof.Rows.callWith_method1 (thn (ha.run pos pins _ σ H _ (I.tok _) h) fun us s1 ⟨vs, H1, I1, r1, a, C, ws, ev, hl, T, ea, q⟩ => ?_) he hpl
  subst ev
  cases r1 with
  | @cons _ u0 _ ur ra rw' =>
    obtain rfl : u0 = Value.ref a := ra
    have hlen : ur.length ≤ sizeLine := by
      rw [← Paired.length rw', sizeLine_eq]
      omega
    exact oinit_ok T I1 ea hlen fun s' J => ⟨.non, H1, J, rfl, q⟩
end
/-- the heap behind the further fields -/
def initH (d : Addr) : List (Str × V) → List (Str × V) → Hp → Hp
  | [], _, H => H
  | p :: r, acc, H => initH d r (p :: acc) (upd H d (exd d (p :: acc)))
/-- what an own __init__ promises: f0, then the others -/
def spI (K : PySem.W.Frag) (C : Str) (f0 : Str) (flds : List Str) : Sp := fun vs H Q _ => ∃ a y0 ws, vs = V.ref a :: y0 :: ws ∧ ws.length = flds.length ∧ H a = some (exo a (He.ga K C) none) ∧
  ∀ d, H d = none → d ≠ a → Q .non (initH d (flds.zip ws) [(f0, y0)] (upd (upd H d (exd d [(f0, y0)])) a (exo a (He.ga K C) (some d))))
theorem initH_at {d : Addr} : ∀ (l acc : List (Str × V)) (H : Hp), H d = some (exd d acc) → initH d l acc H d = some (exd d (l.reverse ++ acc)) ∧ ∀ b, b ≠ d → initH d l acc H b = H b
  | [], acc, H, h => ⟨h, fun _ _ => rfl⟩
  | p :: r, acc, H, h => by
    obtain ⟨h1, h2⟩ := initH_at r (p :: acc) (upd H d (exd d (p :: acc))) upd_same
    refine ⟨?_, fun b hb => (h2 b hb).trans (upd_ne hb)⟩
    show initH d r (p :: acc) (upd H d (exd d (p :: acc))) d = _
    rw [h1, List.reverse_cons, List.append_assoc]
    rfl
def tMkX (K : PySem.W.Frag) (C : Str) (f0 : Str) (flds : List Str) (ta : TA) : L2.St → Hp → XK → Prop := fun σ H Q => ta σ H fun vs H1 => vs.length = flds.length + 1 ∧ vs.length ≤ 1000 ∧ ∀ d, H1 d = none → Q (.ref (He.ga K C)) (some d) (upd H1 d (.xd ((f0 :: flds).zip vs).reverse))
theorem ta_mono {X : Cx} {es : List Expr} {ta : TA} (h : PA X es ta) : True := trivial
theorem mkx_ok {K : PySem.W.Frag} {C : Str} {f0 : Str} {flds : List Str} {vs : List V} {H1 : Hp} {Q : XK} (hl : vs.length = flds.length + 1) (hz : vs.length ≤ 1000) (h : ∀ d, H1 d = none → Q (.ref (He.ga K C)) (some d) (upd H1 d (.xd ((f0 :: flds).zip vs).reverse))) :
    vs.length ≤ 1000 ∧ ∀ a, H1 a = none → spI K C f0 flds (.ref a :: (vs ++ [])) (upd H1 a (exo a (He.ga K C) none))
      (fun v H2 => v = .non ∧ ∃ (d : Addr) (fs : List (Str × V)), H2 a = some (exo a (He.ga K C) (some d)) ∧ H2 d = some (exd d fs) ∧ H1 d = none ∧ Q (.ref (He.ga K C)) (some d) (upd (del H2 a) d (.xd fs))) (fun _ _ _ => False) := by
  refine ⟨hz, fun a ha => ?_⟩
  cases vs with
  | nil => cases hl
  | cons y0 ws =>
    rw [List.append_nil]
    refine ⟨a, y0, ws, rfl, by simpa using hl, upd_same, fun d hd hda => ⟨rfl, d, ((flds.zip ws).reverse ++ [(f0, y0)]), ?_⟩⟩
    have hd1 : H1 d = none := by rw [upd_ne hda] at hd; exact hd
    obtain ⟨h1, h2⟩ := initH_at (d := d) (flds.zip ws) [(f0, y0)] (upd (upd (upd H1 a (exo a (He.ga K C) none)) d (exd d [(f0, y0)])) a (exo a (He.ga K C) (some d))) (by rw [upd_ne hda, upd_same])
    refine ⟨by rw [h2 a (Ne.symm hda), upd_same], h1, hd1, ?_⟩
    have e : upd (del (initH d (flds.zip ws) [(f0, y0)] (upd (upd (upd H1 a (exo a (He.ga K C) none)) d (exd d [(f0, y0)])) a (exo a (He.ga K C) (some d)))) a) d (.xd ((flds.zip ws).reverse ++ [(f0, y0)])) = upd H1 d (.xd ((f0 :: flds).zip (y0 :: ws)).reverse) := by
      funext b
      by_cases hb : b = d
      · subst hb
        rw [upd_same, upd_same]
        simp
      · rw [upd_ne hb, upd_ne hb]
        by_cases hba : b = a
        · rw [hba, del_same, ha]
        · rw [del_ne hba, h2 b hb, upd_ne hba, upd_ne hb, upd_ne hba]
    rw [e]
    exact h d hd1
theorem passF {X : Cx} {P : Program} {w : World} : Passes (L2.CX P w) X (fun _ _ _ => False) := fun _ _ _ _ _ _ _ ⟨_, _, _, _, _, _, _, _, _, _, _, _, z⟩ => z.elim
section
variable {X : Cx} {W : WX} {e : Expr} {es : List Expr} {ta : TA} {p pos pos2 : Pos} {C f0 : Str} {flds : List Str} {k : Nat} {fd : FuncData} {ps : List Str} {fa : FA}
theorem pmk_err (T : ErrC X.K C (f0 :: flds)) (F : FnOk X.prog X.w X.K X.mg X.base (L2.CX X.prog X.w) k (He.ma X.K (He.ga X.K C) "__init__") fd ps (spI X.K C f0 flds)) (hr : Room (k + 1) X.A) (hb : Binds X.K fd ps []) (hg : Gl X C) (hm : X.mg C = some (.ref (He.ga X.K C))) (ha : PA X (e :: es) ta)
    (hmono : ∀ σ H (Q R : List V → Hp → Prop), (∀ vs H1, Q vs H1 → R vs H1) → ta σ H Q → ta σ H R) (hdb : (C == ("__debug__" : Str)) = false := by decide) (he : starEach (e :: es) X.env = (false, eval e X.env) :: starEach es X.env := by rfl) (hpl : (backTo pos (starEach es X.env)).any (·.1) = false := by rfl) :
    PMk X (.Call (.Name C p) (e :: es) [] pos) (tMkX X.K C f0 flds ta) := fun pins s σ H Q I h =>
  pmk_oex T.T T.ini T.tI F hr hb .nil passF hg hm ha hdb he hpl pins s σ H Q I (hmono σ H _ _ (fun vs H1 ⟨h1, h2, h3⟩ => mkx_ok h1 h2 h3) h)
/-- raise C(..) -/
def raiseS (C f0 : Str) (flds : List Str) (fa : FA) : FS := fun env S => (fa env S).toS env fun ds S1 => if ds.length = flds.length + 1 ∧ ds.length ≤ 1000 then .ex C ((f0 :: flds).zip ds).reverse env S1 else .bad
theorem fr_zip {K : PySem.W.Frag} {m : List Addr} {H : Hp} : ∀ (fs : List Str) {ds : List D} {vs : List V}, VRs K m H ds vs → FR K m H (fs.zip ds) (fs.zip vs)
  | [], _, _, _ => rfl
  | _ :: _, [], _, r => by rw [VRs.nil_iff.mp r]; rfl
  | f :: fs, d :: ds, _, r => by
    obtain ⟨v, w, rfl, a, b⟩ := VRs.cons_iff.mp r
    exact ⟨v, _, rfl, a, fr_zip fs b⟩
theorem FR.app {K : PySem.W.Frag} {m : List Addr} {H : Hp} : ∀ {fs es : List (Str × D)} {gs us : List (Str × V)}, FR K m H fs gs → FR K m H es us → FR K m H (fs ++ es) (gs ++ us)
  | [], _, _, _, h, t => by rw [show _ = [] from h]; exact t
  | (j, x) :: fs, _, _, _, h, t => by
    obtain ⟨v, r, rfl, a, b⟩ := h
    exact ⟨v, _, rfl, a, FR.app b t⟩
theorem FR.rev {K : PySem.W.Frag} {m : List Addr} {H : Hp} : ∀ {fs : List (Str × D)} {gs : List (Str × V)}, FR K m H fs gs → FR K m H fs.reverse gs.reverse
  | [], _, h => by rw [show _ = [] from h]; rfl
  | (j, x) :: fs, _, h => by
    obtain ⟨v, r, rfl, a, b⟩ := h
    rw [List.reverse_cons, List.reverse_cons]
    exact FR.app (FR.rev b) ⟨v, [], rfl, a, rfl⟩
theorem ss_raise (hc : X.calm = true) (tk : Takes X W) (T : ErrC X.K C (f0 :: flds)) (F : FnOk X.prog X.w X.K X.mg X.base (L2.CX X.prog X.w) k (He.ma X.K (He.ga X.K C) "__init__") fd ps (spI X.K C f0 flds)) (hr : Room (k + 1) X.A) (hb : Binds X.K fd ps [])
    (hg : Gl X C) (hm : X.mg C = some (.ref (He.ga X.K C))) (ha : SA X W (e :: es) fa) (hdb : (C == ("__debug__" : Str)) = false := by decide) (he : starEach (e :: es) X.env = (false, eval e X.env) :: starEach es X.env := by rfl) (hpl : (backTo pos (starEach es X.env)).any (·.1) = false := by rfl) :
    SS X W (.Raise (some (.Call (.Name C p) (e :: es) [] pos)) none pos2) (raiseS C f0 flds fa) :=
  ps_imp (ps_raise hc tk (pmk_err T F hr hb hg hm ha (fun σ H Q R qr ⟨m, env, S, s, er, k⟩ => ⟨m, env, S, s, er, k.mono fun _ _ _ _ _ _ q vs r => qr _ _ (q vs r)⟩) hdb he hpl)) fun Dn σ H ⟨m, env, S, s, er, k⟩ => ⟨m, env, S, s, er, k.ex0 er fun e1 H1 S1 ds s1 he1 k1 vs vr => by
    split at k1
    case isFalse => exact k1.elim
    rename_i hl
    have hle := vr.length
    refine ⟨by rw [hle]; exact hl.1, by rw [hle]; exact hl.2, fun d hd => ?_⟩
    have tk1 := TK.new (o := HO.xd ((f0 :: flds).zip vs).reverse) hd
    exact k1 (some d) σ _ e1 (s1.other hd) (he1.beside hd) ((er.on he1).mono Gr.refl tk1) (.inr ⟨d, _, by
      cases ds with
      | nil => cases hl.1
      | cons x r => simp, rfl, he1.free hd, s1.notin hd, upd_same, ((fr_zip _ vr).rev).mono Gr.refl tk1⟩)⟩
/-- a class without __init__ of its own, raised with a text: raise C('..') -/
def raise0S (C : Str) : FS := fun env S => .ex C [] env S
end
/-! ### the __init__s -/
section
variable {K : PySem.W.Frag} {C f1 f2 f3 : Str} {N : List Str} {vs : List V} {H : Hp} {Dn : Ends} {tx : Str}
abbrev tIni (K : PySem.W.Frag) (tx : Str) : TS := tDrop (tVeI K (tCons (tVar 0) (tCons (tC (.str tx)) tNil)))
theorem ini1 (T : ErrC K C [f1]) {Q : VK} {E : XK} (hN : N.length = 2) (h : spI K C f1 [] vs H Q E) : tSeq (tIni K tx) (tOst K f1 (tVar 0) (tVar 1)) { nx := fun _ H' => Q .non H', rt := Q } (L2.start N vs) H := by
  obtain ⟨a, y0, ws, rfl, hw, ea, q⟩ := h
  obtain rfl : ws = [] := List.eq_nil_of_length_eq_zero hw
  refine ⟨.ref a, rfl, a, He.ga K C, [V.str tx], rfl, by simp, T.T, ea, ?_⟩
  refine ⟨y0, rfl, .ref a, rfl, a, He.ga K C, rfl, T.T, T.no f1 (by simp), .inl ⟨ea, fun dx hd hda => q dx hd hda⟩⟩
theorem ini2 (T : ErrC K C [f1, f2]) {Q : VK} {E : XK} (hN : N.length = 3) (h : spI K C f1 [f2] vs H Q E) : tSeq (tIni K tx) (tSeq (tOst K f1 (tVar 0) (tVar 1)) (tOst K f2 (tVar 0) (tVar 2))) { nx := fun _ H' => Q .non H', rt := Q } (L2.start N vs) H := by
  obtain ⟨a, y0, ws, rfl, hw, ea, q⟩ := h
  obtain ⟨y1, rfl⟩ : ∃ y, ws = [y] := by
    cases ws with
    | nil => cases hw
    | cons y r => cases r with
      | nil => exact ⟨y, rfl⟩
      | cons _ _ => simp at hw
  refine ⟨.ref a, rfl, a, He.ga K C, [V.str tx], rfl, by simp, T.T, ea, ?_⟩
  refine ⟨y0, rfl, .ref a, rfl, a, He.ga K C, rfl, T.T, T.no f1 (by simp), .inl ⟨ea, fun dx hd hda => ?_⟩⟩
  exact ⟨y1, rfl, .ref a, rfl, a, He.ga K C, rfl, T.T, T.no f2 (by simp), .inr ⟨dx, _, upd_same, by rw [upd_ne hda, upd_same], by simp, q dx hd hda⟩⟩
theorem ini3 (T : ErrC K C [f1, f2, f3]) {Q : VK} {E : XK} (hN : N.length = 4) (h : spI K C f1 [f2, f3] vs H Q E) :
    tSeq (tIni K tx) (tSeq (tOst K f1 (tVar 0) (tVar 1)) (tSeq (tOst K f2 (tVar 0) (tVar 2)) (tOst K f3 (tVar 0) (tVar 3)))) { nx := fun _ H' => Q .non H', rt := Q } (L2.start N vs) H := by
  obtain ⟨a, y0, ws, rfl, hw, ea, q⟩ := h
  obtain ⟨y1, y2, rfl⟩ : ∃ y z, ws = [y, z] := by
    cases ws with
    | nil => cases hw
    | cons y r => cases r with
      | nil => cases hw
      | cons z r => cases r with
        | nil => exact ⟨y, z, rfl⟩
        | cons _ _ => simp at hw
  refine ⟨.ref a, rfl, a, He.ga K C, [V.str tx], rfl, by simp, T.T, ea, ?_⟩
  refine ⟨y0, rfl, .ref a, rfl, a, He.ga K C, rfl, T.T, T.no f1 (by simp), .inl ⟨ea, fun dx hd hda => ?_⟩⟩
  refine ⟨y1, rfl, .ref a, rfl, a, He.ga K C, rfl, T.T, T.no f2 (by simp), .inr ⟨dx, _, upd_same, by rw [upd_ne hda, upd_same], by simp, ?_⟩⟩
  exact ⟨y2, rfl, .ref a, rfl, a, He.ga K C, rfl, T.T, T.no f3 (by simp), .inr ⟨dx, _, by rw [upd_ne (Ne.symm hda), upd_same], upd_same, by simp, q dx hd hda⟩⟩
end
end Ah

set_option maxHeartbeats 2000000
namespace Ah
open PySem PySem.Spec PyProof.Rows L2

/-! ### try: several clauses, each with or without a name -/
/-- a clause: its class, its name's slot, its suite's reading -/
structure Cla where
  c : Value
  nm : Option Nat
  ts : Addr → Value → Option Addr → TS
def offO (o : Option Nat) (σ : L2.St) : L2.St := match o with
  | some i => σ.set i none
  | none => σ
def onO (o : Option Nat) (a : Addr) (σ : L2.St) : L2.St := match o with
  | some i => σ.set i (some (.ref a))
  | none => σ
def endsO (o : Option Nat) (D : Ends) : Ends := { nx := fun σ' H' => D.nx (offO o σ') H', rt := D.rt, bk := fun σ' H' => D.bk (offO o σ') H', ct := fun σ' H' => D.ct (offO o σ') H' }
def wCla (K : PySem.W.Frag) (Wout : WX) (D : Ends) : List Cla → WX
  | [] => Wout
  | l :: r => fun cls d σ H => ∃ b, PySem.W.exmOne K cls l.c = some b ∧ (b = true → ∀ a, H a = none → l.ts a cls d (endsO l.nm D) (onO l.nm a σ) H) ∧ (b = false → wCla K Wout D r cls d σ H)
/-- the clauses of the text -/
inductive ClaOk (X : Cx) : List ExceptHandler → List Cla → Prop
  | nil : ClaOk X [] []
  | plain {x : Str} {c : Value} {ts : Addr → Value → Option Addr → TS} {b₀ : Stmt} {suite : List Stmt} {np pos' : Pos} {hds : List ExceptHandler} {l : List Cla} (hc : Names X x c)
      (hsu : ∀ (a : Addr) (oe : Obj) (cls : Value) (d : Option Addr) (pn : List (Addr × Obj)), Zc cls d oe → (∃ vs, oe.data = .fields vs) → PSs (X.suite a ((a, oe) :: pn)) (b₀ :: suite) (ts a cls d)) (r : ClaOk X hds l) :
      ClaOk X (.ExceptHandler (some (.Name x np)) none (b₀ :: suite) pos' :: hds) (⟨c, none, ts⟩ :: l)
  | named {x n : Str} {i : Nat} {c : Value} {ts : Addr → Value → Option Addr → TS} {b₀ : Stmt} {suite : List Stmt} {np pos' : Pos} {hds : List ExceptHandler} {l : List Cla} (hc : Names X x c) (hi : X.N[i]? = some n) (hln : X.env.kindOf n = some .local)
      (hsu : ∀ (a : Addr) (oe : Obj) (cls : Value) (d : Option Addr) (pn : List (Addr × Obj)), Zc cls d oe → (∃ vs, oe.data = .fields vs) → PSs (X.suite a ((a, oe) :: pn)) (b₀ :: suite) (ts a cls d)) (r : ClaOk X hds l) :
      ClaOk X (.ExceptHandler (some (.Name x np)) (some n) (b₀ :: suite) pos' :: hds) (⟨c, some i, ts⟩ :: l)
section
variable {X : Cx} {body : List Stmt} {h₀ : ExceptHandler} {hds : List ExceptHandler} {l : List Cla} {pos : Pos} {tb : WX → TS} {Wout : WX}
theorem ps_tryA (hs : X.stack = X.env :: X.outer) (hf : X.env.frame = some X.env.locals) (hN : X.N.Nodup) (tk : Takes X Wout)
    (hb : ∀ (W : WX) (pn : List (Addr × Obj)) (xe : Value → Shared → Prop), Takes (X.tr pn xe) W → PassesOwn (model X.prog X.w) X.A X.env xe → PSs (X.tr pn xe) body (tb W))
    (hh : ClaOk X (h₀ :: hds) l) : PS X (.Try body (h₀ :: hds) [] [] pos) (fun D σ H => tb (wCla X.K Wout D l) D σ H) := by
  refine ⟨fun pins s σ H D I h => ?_⟩
  have ok := I.ok
  have hfr : X.A.frames = some (X.env :: X.outer) := by rw [ok.frames, hs]
  refine wpAny_Try_except ?_
  refine wpAny_mono ((hb (wCla X.K Wout D l) (X.pn ++ pins) (fun e s₁ => wpAny (model X.prog X.w) X.A (noteFrame e X.env) (fun _ s₂ => wpAny (model X.prog X.w) X.A (setFlight e none) (fun _ s₃ =>
    wpAny (model X.prog X.w) X.A (handleBy e X.env (h₀ :: hds)) (SP X pins D) X.xe s₃) X.xe s₂) X.xe s₁) (fun u s' xx => ?_) PassesOwn.looking).run [] s σ H D (I.toTry _) h) (fun f s1 hsp => ?_) (fun e s1 he => he)
  · obtain ⟨a, B, sI, pins', σ', H', cls, d, rfl, J', nb, up, sky, na, os, ag, w⟩ := xx
    have J : Inv X pins σ' H' sI := J'.ofTry ok
    have sky' : Sky B (X.env :: X.outer) a (Zc cls d) X.env.locals s'.heap := by rw [← hs]; exact sky
    show wpAny (model X.prog X.w) X.A (noteFrame (.ref a) X.env) _ _ _
    refine Sky.land Zc.steady hfr hf sky' fun h3 fl3 up3 => ?_
    have J3 : Inv X pins σ' H' { s' with heap := h3 } := J.landed nb fl3.1 (up.trans up3) os ag
    obtain ⟨oe3, vs3, he3, hz3, hd3⟩ := fl3.there
    have notFr : ∀ {h : Heap} {o : Obj} {vs : Array Value}, h.FunFrames B (X.env :: X.outer) → h.get? a = some o → o.data = .fields vs → a ∉ frs (X.env :: X.outer) := fun {h o vs} ff e dd hm => by
      obtain ⟨_, o', e', hnf⟩ := ff.mem hm
      rw [e] at e'; cases e'
      exact hnf _ dd
    have nfr := notFr fl3.2.2.1 he3 hd3
    have nL : a ≠ X.env.locals := fun z => nfr (List.mem_filterMap.mpr ⟨X.env, List.mem_cons_self, by rw [hf, z]⟩)
    have nF : a ∉ X.fs := fun hm => by
      obtain ⟨e, he, q⟩ := List.mem_filterMap.mp hm
      exact nfr (List.mem_filterMap.mpr ⟨e, List.mem_cons_of_mem _ he, q⟩)
    have S3 := J3.suite he3 hd3 na nL nF
    have LT : PySem.W.Looks (model X.prog X.w) h3 (typeOf (.ref a)) cls := fun A Q E s k q => wpAny_typeOf_ref (k _ _ he3) (by rw [hz3.1]; exact q)
    -- the class's name
    have test : ∀ {x : Str} {c : Value} {np : Pos} {Q : Value → Shared → Prop} {E : Value → Shared → Prop}, Names X x c → Q c { s' with heap := h3 } → wpAny (model X.prog X.w) (X.A.mark (some (.ref a))) (eval (.Name x np) X.env) Q E { s' with heap := h3 } := fun {x c np Q E} hc q => by
      obtain ⟨hg, hdbg, hm | ⟨hm, hv, hnn⟩⟩ := hc
      · exact ld_glob (X := X.suite a ((a, oe3) :: (X.pn ++ pins))) S3 hg hm q hdbg
      · exact ld_blt (X := X.suite a ((a, oe3) :: (X.pn ++ pins))) S3 hg hm hv q hnn hdbg
    have go : ∀ {hds' : List ExceptHandler} {l' : List Cla}, ClaOk X hds' l' → wCla X.K Wout D l' cls d σ' H' → wpAny (model X.prog X.w) X.A (handleBy (.ref a) X.env hds') (SP X pins D) X.xe { s' with heap := h3 } := by
      intro hds' l' hk
      induction hk with
      | nil =>
        intro w
        refine wpAny_handleBy_nil ?_
        obtain ⟨k1, k2, k3, oe, vs, T, oT, ts', he, hz, hd, h1, hr⟩ := id fl3
        unfold PySem.passOn
        refine wpAny_bind (wpAny_field he hd h1 ?_)
        rw [if_neg (show ¬ ((Value.ref T == Value.none) = true) from by simp)]
        have fin : wpAny (model X.prog X.w) X.A (setFlight (.ref a) X.env.frame) (fun _ s4 => wpAny (model X.prog X.w) X.A (throw (.ref a) : Sem Flow) (SP X pins D) X.xe s4) X.xe { s' with heap := h3 } := by
          rw [hf]
          refine HandSPX.setFlight_upZ fl3 fun h4 hh4 up4 => wpAny_throw (tk _ _ ?_)
          exact ⟨a, B, sI, pins, σ', H', cls, d, rfl, J, nb, (up.trans up3).trans up4, .inr (.inr (by rw [hs]; exact hh4)), na, os, ag, w⟩
        first
          | exact wpAny_bind (wpAny_pure (wpAny_bind fin))
          | exact wpAny_bind fin
      | @plain x c ts b₀ suite np pos' hds2 l2 hc hsu r ih =>
        intro w
        obtain ⟨b, hb1, hyes, hno⟩ := w
        refine wpAny_handleBy_cons (codeAny_handlers_test ?_) (by intro q; cases q)
        have LM := PySem.W.exm_one (M := model X.prog X.w) (J3.kIn) LT hb1
        refine test hc (LM.here ?_)
        cases b with
        | true =>
          refine codeAny_handlers_suite ?_
          refine HandSPX.lands_againZ fl3 fun h4 fl4 up4 => ?_
          have J4 : Inv X pins σ' H' { s' with heap := h4 } := J.landed nb fl4.1 ((up.trans up3).trans up4) os ag
          obtain ⟨oe4, vs4, he4, hz4, hd4⟩ := fl4.there
          have S4 := J4.suite he4 hd4 na nL nF
          refine wpAny_mono ((hsu a oe4 cls d (X.pn ++ pins) hz4 ⟨_, hd4⟩).run [] _ _ H' _ S4 (hyes rfl a na)) (fun f s6 hsp => ?_) (fun _ _ z => False.elim z)
          cases f with
          | next =>
            obtain ⟨σ6, H6, S6, q6⟩ := hsp
            exact ⟨_, _, S6.unsuite ok, q6⟩
          | brk =>
            obtain ⟨σ6, H6, S6, q6⟩ := hsp
            exact ⟨_, _, S6.unsuite ok, q6⟩
          | cont =>
            obtain ⟨σ6, H6, S6, q6⟩ := hsp
            exact ⟨_, _, S6.unsuite ok, q6⟩
          | ret u =>
            obtain ⟨v6, σ6, H6, S6, r6, q6⟩ := hsp
            exact ⟨_, _, _, S6.unsuite ok, r6, q6⟩
        | false =>
          show wpAny _ X.A (handleBy (.ref a) X.env hds2) _ _ _
          exact ih (hno rfl)
      | @named x n i c ts b₀ suite np pos' hds2 l2 hc hi hln hsu r ih =>
        intro w
        obtain ⟨b, hb1, hyes, hno⟩ := w
        refine wpAny_handleBy_cons (codeAny_handlers_test ?_) (by intro q; cases q)
        have LM := PySem.W.exm_one (M := model X.prog X.w) (J3.kIn) LT hb1
        refine test hc (LM.here ?_)
        cases b with
        | true =>
          refine codeAny_handlers_suite_as ?_
          refine HandSPX.lands_againZ fl3 fun h4 fl4 up4 => ?_
          have J4 : Inv X pins σ' H' { s' with heap := h4 } := J.landed nb fl4.1 ((up.trans up3).trans up4) os ag
          obtain ⟨oe4, vs4, he4, hz4, hd4⟩ := fl4.there
          have S4 := J4.suite he4 hd4 na nL nF
          refine store_ok (X := X.suite a ((a, oe4) :: (X.pn ++ pins))) (v := .ref a) S4 hN hi (.inl hln) rfl (fun s5 S5 => ?_) (.inr hln)
          refine wpAny_mono ((hsu a oe4 cls d (X.pn ++ pins) hz4 ⟨_, hd4⟩).run [] s5 _ H' _ S5 (hyes rfl a na)) (fun f s6 hsp => ?_) (fun _ _ z => False.elim z)
          have end_ : ∀ {σ6 : L2.St} {H6 : Hp} {Q : Shared → Prop}, Inv (X.suite a ((a, oe4) :: (X.pn ++ pins))) [] σ6 H6 s6 → (∀ s7, Inv X pins (σ6.set i none) H6 s7 → Q s7) →
              wpAny (model X.prog X.w) X.A (do bindName X.env n .none; unbindBehindTheSuite X.env n pos') (fun _ s7 => Q s7) X.xe s6 := fun {σ6 H6 Q} S6 hq => gone_ok (S6.unsuite ok) hN hi hln hq
          cases f with
          | next =>
            obtain ⟨σ6, H6, S6, q6⟩ := hsp
            exact end_ S6 fun s7 J7 => ⟨_, _, J7, q6⟩
          | brk =>
            obtain ⟨σ6, H6, S6, q6⟩ := hsp
            exact end_ S6 fun s7 J7 => ⟨_, _, J7, q6⟩
          | cont =>
            obtain ⟨σ6, H6, S6, q6⟩ := hsp
            exact end_ S6 fun s7 J7 => ⟨_, _, J7, q6⟩
          | ret u =>
            obtain ⟨v6, σ6, H6, S6, r6, q6⟩ := hsp
            exact end_ S6 fun s7 J7 => ⟨_, _, _, J7, r6, q6⟩
        | false =>
          show wpAny _ X.A (handleBy (.ref a) X.env hds2) _ _ _
          exact ih (hno rfl)
    exact go hh w
  · cases f with
    | next =>
      obtain ⟨σ', H', J', q⟩ := hsp
      exact wpAny_execs_nil ⟨σ', H', J'.ofTry ok, q⟩
    | brk =>
      obtain ⟨σ', H', J', q⟩ := hsp
      exact ⟨σ', H', J'.ofTry ok, q⟩
    | cont =>
      obtain ⟨σ', H', J', q⟩ := hsp
      exact ⟨σ', H', J'.ofTry ok, q⟩
    | ret u =>
      obtain ⟨v, σ', H', J', r, q⟩ := hsp
      exact ⟨v, σ', H', J'.ofTry ok, r, q⟩
end

/-! ### .. as plain functions -/
/-- a suite's function: the error's address, its dict's, its class, its fields' number in the store -/
abbrev FH := Addr → Option Addr → Str → Nat → FS
structure Hdl where
  c : Str
  nm : Option Nat
  h : FH
def pushX (d : Option Addr) (fs : List (Str × D)) (S : Sto) : Sto := match d with
  | some dd => S ++ [.xd dd fs]
  | none => S
def clX (d : Option Addr) (k : Nat) (S : Sto) : Sto := match d with
  | some _ => S.set k .gone
  | none => S
def onE (o : Option Nat) (a : Addr) (env : En) : En := match o with
  | some i => env.set i (some (.adr a))
  | none => env
def offE (o : Option Nat) (env : En) : En := match o with
  | some i => env.set i none
  | none => env
def finX (o : Option Nat) (d : Option Addr) (k : Nat) : RS → RS
  | .nx e S => .nx (offE o e) (clX d k S)
  | .bk e S => .bk (offE o e) (clX d k S)
  | .ct e S => .ct (offE o e) (clX d k S)
  | .rt v S => .rt v (clX d k S)
  | .ex _ _ _ _ => .bad
  | .bad => .bad
def suite1 (hd : Hdl) (a : Addr) (d : Option Addr) (C : Str) (fs : List (Str × D)) (env : En) (S : Sto) : RS := finX hd.nm d S.length (hd.h a d C S.length (onE hd.nm a env) (pushX d fs S))
open Classical in
noncomputable def suiteS (hd : Hdl) (C : Str) (fs : List (Str × D)) (env : En) (S : Sto) : RS :=
  if h : ∃ r, ∀ a d, (d = none ↔ fs = []) → suite1 hd a d C fs env S = r then choose h else .bad
theorem suiteS_eq {hd : Hdl} {C : Str} {fs : List (Str × D)} {env : En} {S : Sto} {r : RS} (h : ∀ a d, (d = none ↔ fs = []) → suite1 hd a d C fs env S = r) : suiteS hd C fs env S = r := by
  unfold suiteS
  rw [dif_pos ⟨r, h⟩]
  have hc := Classical.choose_spec (⟨r, h⟩ : ∃ r, ∀ a d, (d = none ↔ fs = []) → suite1 hd a d C fs env S = r)
  by_cases hf : fs = []
  · rw [← hc 0 none (by simp [hf]), h 0 none (by simp [hf])]
  · rw [← hc 0 (some 0) (by simp [hf]), h 0 (some 0) (by simp [hf])]
/-- which class stands under which -/
abbrev Tab := List ((Str × Str) × Bool)
def exmT (t : Tab) (C c : Str) : Option Bool := t.lookup (C, c)
noncomputable def handS (t : Tab) : List Hdl → Str → List (Str × D) → En → Sto → RS
  | [], C, fs, env, S => .ex C fs env S
  | hd :: r, C, fs, env, S => match exmT t C hd.c with
    | some true => suiteS hd C fs env S
    | some false => handS t r C fs env S
    | none => .bad
noncomputable def tryS (t : Tab) (b : FS) (l : List Hdl) : FS := fun env S => match b env S with
  | .ex C fs env' S' => handS t l C fs env' S'
  | r => r
structure TabOk (K : PySem.W.Frag) (t : Tab) : Prop where
  ok : ∀ C c b, exmT t C c = some b → PySem.W.exmOne K (.ref (He.ga K C)) (.ref (He.ga K c)) = some b ∧ PySem.W.kitOne K (.ref (He.ga K C)) (.ref (He.ga K c)) = some b
def tabB (K : PySem.W.Frag) (t : Tab) : Bool := t.all fun p => decide (PySem.W.exmOne K (.ref (He.ga K p.1.1)) (.ref (He.ga K p.1.2)) = some p.2) && decide (PySem.W.kitOne K (.ref (He.ga K p.1.1)) (.ref (He.ga K p.1.2)) = some p.2)
theorem lookup_mem {α β : Type} [BEq α] [LawfulBEq α] {x : α} {y : β} : ∀ {l : List (α × β)}, l.lookup x = some y → (x, y) ∈ l
  | [], h => by cases h
  | (a, b) :: l, h => by
    unfold List.lookup at h
    cases e : (x == a) with
    | true =>
      rw [e] at h
      have h1 := Option.some.inj h
      rw [eq_of_beq e, ← h1]
      simp
    | false =>
      rw [e] at h
      exact List.mem_cons_of_mem _ (lookup_mem h)
theorem tabB_ok {K : PySem.W.Frag} {t : Tab} (h : tabB K t = true) : TabOk K t := ⟨fun C c b q => by
  have := List.all_eq_true.mp h _ (lookup_mem q)
  simp only [Bool.and_eq_true, decide_eq_true_eq] at this
  exact this⟩
/-- a suite, proved for each error that comes to it -/
def SuOk (X : Cx) (t : Tab) (c : Str) (sts : List Stmt) (h : FH) : Prop := ∀ (a : Addr) (oe : Obj) (C : Str) (d : Option Addr) (k : Nat) (pn : List (Addr × Obj)), exmT t C c = some true → Zc (.ref (He.ga X.K C)) d oe → (∃ vs, oe.data = .fields vs) →
  SSs (X.suite a ((a, oe) :: pn)) WF sts (h a d C k)
/-- the reading of a suite -/
def tsOf (K : PySem.W.Frag) (t : Tab) (c : Str) (h : FH) (a : Addr) (cls : Value) (d : Option Addr) : TS := fun Dn σ H => ∃ C k, cls = .ref (He.ga K C) ∧ exmT t C c = some true ∧ TSf K WF (h a d C k) Dn σ H
inductive HdsOkD (X : Cx) (t : Tab) : List ExceptHandler → List Hdl → Prop
  | nil : HdsOkD X t [] []
  | plain {x : Str} {h : FH} {b₀ : Stmt} {suite : List Stmt} {np pos' : Pos} {hds : List ExceptHandler} {l : List Hdl} (hg : Gl X x) (hm : X.mg x = some (.ref (He.ga X.K x))) (hsu : SuOk X t x (b₀ :: suite) h) (r : HdsOkD X t hds l) (hdb : (x == ("__debug__" : Str)) = false := by decide) :
      HdsOkD X t (.ExceptHandler (some (.Name x np)) none (b₀ :: suite) pos' :: hds) (⟨x, none, h⟩ :: l)
  | named {x n : Str} {i : Nat} {h : FH} {b₀ : Stmt} {suite : List Stmt} {np pos' : Pos} {hds : List ExceptHandler} {l : List Hdl} (hg : Gl X x) (hm : X.mg x = some (.ref (He.ga X.K x))) (hi : X.N[i]? = some n) (hln : X.env.kindOf n = some .local) (hsu : SuOk X t x (b₀ :: suite) h) (r : HdsOkD X t hds l)
      (hdb : (x == ("__debug__" : Str)) = false := by decide) : HdsOkD X t (.ExceptHandler (some (.Name x np)) (some n) (b₀ :: suite) pos' :: hds) (⟨x, some i, h⟩ :: l)
def claOf (K : PySem.W.Frag) (t : Tab) (h : Hdl) : Cla := ⟨.ref (He.ga K h.c), h.nm, tsOf K t h.c h.h⟩
theorem suite_ps {X : Cx} {t : Tab} {c : Str} {sts : List Stmt} {h : FH} (hsu : SuOk X t c sts h) (a : Addr) (oe : Obj) (cls : Value) (d : Option Addr) (pn : List (Addr × Obj)) (hz : Zc cls d oe) (hf : ∃ vs, oe.data = .fields vs) : PSs (X.suite a ((a, oe) :: pn)) sts (tsOf X.K t c h a cls d) := by
  refine ⟨fun pins s σ H Dn I ⟨C, k, e, ht, q⟩ => ?_⟩
  subst e
  exact (hsu a oe C d k pn ht hz hf).run pins s σ H Dn I q
theorem HdsOkD.cla {X : Cx} {t : Tab} {hds : List ExceptHandler} {l : List Hdl} (h : HdsOkD X t hds l) : ClaOk X hds (l.map (claOf X.K t)) := by
  induction h with
  | nil => exact .nil
  | plain hg hm hsu _ hdb ih => exact .plain ⟨hg, hdb, .inl hm⟩ (suite_ps hsu) ih
  | named hg hm hi hln hsu _ hdb ih => exact .named ⟨hg, hdb, .inl hm⟩ hi hln (suite_ps hsu) ih
section
variable {K : PySem.W.Frag} {m : List Addr} {S : Sto} {H : Hp} {env : En} {σ : L2.St}
theorem Sim.gone (s : Sim K m S H) (k : Nat) : Sim K m (S.set k .gone) H := by
  refine ⟨by simp [s.len], s.nd, fun i a o h1 h2 => ?_⟩
  by_cases e : i = k
  · subst e
    have hl : i < S.length := by rw [← s.len]; exact (List.getElem?_eq_some_iff.mp h1).1
    rw [List.getElem?_set_self hl] at h2
    cases h2
    exact s.there (List.mem_of_getElem? h1)
  · rw [List.getElem?_set_ne (Ne.symm e)] at h2
    exact s.ob i a o h1 h2
theorem Sim.clX (s : Sim K m S H) (d : Option Addr) (k : Nat) : Sim K m (clX d k S) H := by
  cases d with
  | none => exact s
  | some d => exact s.gone k
theorem ER.off (h : ER K m H env σ) (i : Nat) : ER K m H (env.set i none) (σ.set i none) := by
  refine ⟨by simp [h.1], fun j x q => ?_⟩
  by_cases e : j = i
  · subst e
    by_cases hl : j < env.length
    · rw [List.getElem?_set_self hl] at q
      cases q
    · rw [List.getElem?_eq_none (by simp; omega)] at q
      cases q
  · rw [List.getElem?_set_ne (Ne.symm e)] at q ⊢
    exact h.2 j x q
theorem ER.offO (h : ER K m H env σ) (o : Option Nat) : ER K m H (offE o env) (offO o σ) := by
  cases o with
  | none => exact h
  | some i => exact h.off i
theorem ER.onO (h : ER K m H env σ) (o : Option Nat) (a : Addr) : ER K m H (onE o a env) (onO o a σ) := by
  cases o with
  | none => exact h
  | some i => exact h.set (by unfold VR; rfl)
theorem ks_finX {W : WX} {Dn : Ends} {o : Option Nat} {d : Option Addr} {k : Nat} {r : RS} (h : KS K W Dn m H (finX o d k r)) : KS K WF (endsO o Dn) m H r := by
  cases r with
  | nx e S' => exact fun σ' H' e' s he er => h (Ah.offO o σ') H' e' (s.clX d k) he (er.offO o)
  | bk e S' => exact fun σ' H' e' s he er => h (Ah.offO o σ') H' e' (s.clX d k) he (er.offO o)
  | ct e S' => exact fun σ' H' e' s he er => h (Ah.offO o σ') H' e' (s.clX d k) he (er.offO o)
  | rt v S' => exact fun v' H' e' s he vr => h v' H' e' (s.clX d k) he vr
  | ex C fs e S' => exact h.elim
  | bad => exact h
theorem hand_ok {W : WX} {Dn : Ends} {t : Tab} (T : TabOk K t) {C : Str} {fs : List (Str × D)} {env' : En} {S' : Sto} {e : List Addr} {H' : Hp} {σ' : L2.St} {dd : Option Addr} (s' : Sim K (m ++ e) S' H') (he : HE m e H H') (er : ER K (m ++ e) H' env' σ') (xr : XR K H (m ++ e) H' fs dd) :
    ∀ l : List Hdl, KS K W Dn m H (handS t l C fs env' S') → wCla K W Dn (l.map (claOf K t)) (.ref (He.ga K C)) dd σ' H'
  | [], k => k dd σ' H' e s' he er xr
  | hd :: r, k => by
    unfold handS at k
    have k2 : (match exmT t C hd.c with
      | some true => KS K W Dn m H (suiteS hd C fs env' S')
      | some false => KS K W Dn m H (handS t r C fs env' S')
      | none => False) := by
      cases q : exmT t C hd.c with
      | none => rw [q] at k; exact k
      | some b => cases b <;> (rw [q] at k; exact k)
    cases q : exmT t C hd.c with
    | none => rw [q] at k2; exact k2.elim
    | some b =>
      rw [q] at k2
      refine ⟨b, (T.ok C hd.c b q).1, fun hb a na => ?_, fun hb => ?_⟩
      · subst hb
        refine ⟨C, S'.length, rfl, q, ?_⟩
        have hd_ : (dd = none ↔ fs = []) := by
          rcases xr with ⟨h1, h2⟩ | ⟨d, gs, h1, h2, _⟩
          · simp [h1, h2]
          · simp [h1, h2]
        have k3 : KS K W Dn m H (suite1 hd a dd C fs env' S') := by
          have k2 : KS K W Dn m H (suiteS hd C fs env' S') := k2
          unfold suiteS at k2
          split at k2
          · rename_i hx
            rw [Classical.choose_spec hx a dd hd_]
            exact k2
          · exact k2.elim
        have k4 := ks_finX k3
        rcases xr with ⟨h1, h2⟩ | ⟨d, gs, h0, h2, h3, h4, h5, h6⟩
        · subst h2
          exact ⟨m ++ e, _, S', s', er.onO hd.nm a, k4.shift he⟩
        · subst h2
          have he2 : HE m (e ++ [d]) H H' := ⟨he.tk, he.oth, he.dom, fun x hx => (List.mem_append.mp hx).elim (he.new x) fun z => by
            have : x = d := by simpa using z
            rw [this]; exact h3⟩
          have s2 := s'.add h4 (o := .xd d fs) ⟨rfl, gs, h6, h5⟩
          refine ⟨m ++ (e ++ [d]), _, _, by rw [← List.append_assoc]; exact s2, ?_, k4.shift he2⟩
          rw [← List.append_assoc]
          exact (er.mono (Gr.app _ _) TK.refl).onO hd.nm a
      · subst hb
        exact hand_ok T s' he er xr r k2
end
section
variable {X : Cx} {W : WX} {body : List Stmt} {h₀ : ExceptHandler} {hds : List ExceptHandler} {l : List Hdl} {pos : Pos} {fb : FS} {t : Tab}
theorem ss_try (hs : X.stack = X.env :: X.outer) (hf : X.env.frame = some X.env.locals) (hN : X.N.Nodup) (tk : Takes X W) (T : TabOk X.K t)
    (hb : ∀ (W' : WX) (pn : List (Addr × Obj)) (xe : Value → Shared → Prop), Takes (X.tr pn xe) W' → PassesOwn (model X.prog X.w) X.A X.env xe → SSs (X.tr pn xe) W' body fb) (hh : HdsOkD X t (h₀ :: hds) l) : SS X W (.Try body (h₀ :: hds) [] [] pos) (tryS t fb l) :=
  ps_imp (ps_tryA hs hf hN tk (tb := fun W' => TSf X.K W' fb) hb hh.cla) fun Dn σ H ⟨m, env, S, s, er, k⟩ => by
    refine ⟨m, env, S, s, er, ?_⟩
    unfold tryS at k
    cases q : fb env S with
    | ex C fs env' S' =>
      rw [q] at k
      exact fun dd σ' H' e s' he er' xr => hand_ok T s' he er' xr l k
    | nx => rw [q] at k; exact k
    | bk => rw [q] at k; exact k
    | ct => rw [q] at k; exact k
    | rt => rw [q] at k; exact k
    | bad => rw [q] at k; exact k
end
/-! ### in a suite: the error's fields, its class -/
def xfF (i : Nat) (a : Addr) (d : Option Addr) (k : Nat) (f : Str) : FE := fun env S => match env[i]?, d with
  | some (some (.adr b)), some dd => if b = a then (match S[k]? with
    | some (.xd d' fs) => if d' = dd then (match fs.lookup f with
      | some v => .ok v S
      | none => .bad) else .bad
    | _ => .bad) else .bad
  | _, _ => .bad
section
variable {X : Cx} {a : Addr} {oe : Obj} {pn : List (Addr × Obj)} {C : Str} {d : Option Addr} {i k : Nat} {n f : Str} {p pos : Pos}
theorem se_xf (T : XfC X.K (He.ga X.K C)) (hno : PySem.W.findIn X.K (.ref (He.ga X.K C)) f = some none) (hz : Zc (.ref (He.ga X.K C)) d oe) (hf : ∃ vs, oe.data = .fields vs) (hN : X.N[i]? = some n) (hv : Vis X.env.scope n)
    (hd : (n == ("__debug__" : Str)) = false := by decide) (hcd : (n == ("__classdict__" : Str)) = false := by decide) (hb : attributeBase (.Name n p) f X.env (eval (.Name n p) X.env) = eval (.Name n p) X.env := by rfl) :
    SE (X.suite a ((a, oe) :: pn)) WF (.Attribute (.Name n p) f pos) (xfF i a d k f) :=
  pe_imp (pe_xf (X := X) (a := a) (pn := pn) T hno hz hf (pe_var (X := X.suite a ((a, oe) :: pn)) hN hv hd hcd) hb) fun σ H Q ⟨m, env, S, s, er, kk⟩ => by
    unfold xfF at kk
    split at kk
    · rename_i d0 b dd q
      split at kk
      · rename_i hba
        subst hba
        split at kk
        · rename_i d' fs qS
          split at kk
          · rename_i hdd
            subst hdd
            split at kk
            · rename_i v ql
              obtain ⟨u, e1, r⟩ := er.2 i _ dd
              unfold VR at r
              subst r
              obtain ⟨a', _, e2, gs, fr, hx⟩ := s.at_ qS
              subst e2
              obtain ⟨w, e3, r3⟩ := (FR.look (f := f) fr).1 v ql
              exact ⟨_, e1, rfl, rfl, _, gs, w, rfl, hx, e3, kk.now s w r3⟩
            · exact kk.elim
          · exact kk.elim
        · exact kk.elim
      · exact kk.elim
    · exact kk.elim
theorem kitAny_of {K : PySem.W.Frag} {t : Tab} (T : TabOk K t) {C : Str} : ∀ (cs : List Str) {bs : List Bool}, cs.mapM (exmT t C) = some bs → PySem.W.kitAny K (.ref (He.ga K C)) (cs.map fun c => Value.ref (He.ga K c)) = some (bs.any id)
  | [], bs, h => by
    have : bs = [] := by simpa using h.symm
    subst this
    rfl
  | c :: cs, bs, h => by
    rw [List.mapM_cons] at h
    cases q : exmT t C c with
    | none => rw [q] at h; cases h
    | some b =>
      rw [q] at h
      cases q2 : cs.mapM (exmT t C) with
      | none => rw [q2] at h; cases h
      | some bs' =>
        rw [q2] at h
        have e : b :: bs' = bs := Option.some.inj h
        subst e
        have ih := kitAny_of T cs q2
        show PySem.W.kitAny K _ (Value.ref (He.ga K c) :: cs.map fun c => Value.ref (He.ga K c)) = _
        unfold PySem.W.kitAny
        rw [(T.ok C c b q).2]
        cases b with
        | true => simp
        | false => simpa using ih
theorem inst_any {X : Cx} {pins : List (Addr × Obj)} {σ : L2.St} {H : Hp} {s : Shared} {a : Addr} {oe : Obj} {pn : List (Addr × Obj)} {C : Addr} {d : Option Addr} (I : Inv (X.suite a ((a, oe) :: pn)) pins σ H s) (hz : Zc (.ref C) d oe) (hf : ∃ vs, oe.data = .fields vs) (hd : ∀ dd, d = some dd → ∃ od, s.heap.get? dd = some od) :
    ∃ od, PySem.W.InstAt s.heap a oe C od := by
  obtain ⟨ha, _⟩ := I.pin (a, oe) (List.mem_append_left _ List.mem_cons_self)
  obtain ⟨vs, hd'⟩ := hf
  cases d with
  | none => exact ⟨none, ha, hz.1, by unfold PySem.W.notCls; rw [hd'] <;> rfl, by rw [hz.2]; exact True.intro⟩
  | some dd =>
    obtain ⟨od, ho⟩ := hd dd rfl
    exact ⟨some od, ha, hz.1, by unfold PySem.W.notCls; rw [hd'] <;> rfl, by rw [hz.2]; exact ho⟩

/-- isinstance(e, c), c one class or a tuple of them -/
def glbsD : List D → Option (List Str)
  | [] => some []
  | .glb c :: r => (glbsD r).map (c :: ·)
  | _ => none
def okX (d : Option Addr) (k : Nat) (S : Sto) : Bool := match d with
  | none => true
  | some dd => (match S[k]? with
    | some (.xd d' _) => decide (d' = dd)
    | _ => false)
def gIsE (t : Tab) (a : Addr) (d : Option Addr) (k : Nat) (C : Str) : FC := fun ds S => match ds with
  | [.adr b, .glb c] => if b = a ∧ okX d k S = true then (match exmT t C c with
    | some r => .ok (.bl r) S
    | none => .bad) else .bad
  | [.adr b, .tup gs] => if b = a ∧ okX d k S = true then (match (glbsD gs).bind fun cs => cs.mapM (exmT t C) with
    | some bs => .ok (.bl (bs.any id)) S
    | none => .bad) else .bad
  | _ => .bad
def rIsX (K : PySem.W.Frag) (t : Tab) (a : Addr) (d : Option Addr) (C : Str) : List V → Hp → VK → Prop := fun xs H Q => (∀ dd, d = some dd → ∃ gs, H dd = some (.xd gs)) ∧
  ((∃ (c : Str) (b : Bool), xs = [.ref a, .ref (He.ga K c)] ∧ exmT t C c = some b ∧ Q (.bl b) H) ∨ ∃ (tp : Addr) (cs : List Str) (bs : List Bool), xs = [.ref a, .ref tp] ∧ SqT K H tp (cs.map fun c => V.ref (He.ga K c)) ∧ cs.mapM (exmT t C) = some bs ∧ Q (.bl (bs.any id)) H)
theorem vals_refs {K : PySem.W.Frag} : ∀ {cs : List Str} {us : List Value}, Vals (cs.map fun c => V.ref (He.ga K c)) us → us = cs.map fun c => Value.ref (He.ga K c)
  | [], _, h => by cases h; rfl
  | c :: cs, _, h => by
    cases h with
    | cons r t =>
      cases r
      rw [vals_refs t]
      rfl
theorem cr_isX {X : Cx} {t : Tab} (T : TabOk X.K t) {a : Addr} {oe : Obj} {pn : List (Addr × Obj)} {C : Str} {d : Option Addr} (E : ExcC X.K (He.ga X.K C)) (hz : Zc (.ref (He.ga X.K C)) d oe) (hf : ∃ vs, oe.data = .fields vs) : CallR (X.suite a ((a, oe) :: pn)) (.builtin "isinstance") (rIsX X.K t a d C) := by
  intro pins s σ H xs us Q I r ⟨hx, h⟩
  obtain ⟨od, J⟩ := inst_any I hz hf fun dd e => by
    obtain ⟨gs, q⟩ := hx dd e
    obtain ⟨mA, hns, _⟩ := (show ObjOk X.prog X.w H s.heap dd (.xd gs) from I.hok dd _ q)
    obtain ⟨o, _, _, ho, _⟩ := hns
    exact ⟨o, ho⟩
  have hcl : (PySem.W.clsIn X.K (He.ga X.K C)).isSome = true := by
    obtain ⟨cd, hc, _⟩ := PySem.W.any_some E.hd
    rw [hc]; rfl
  have Z := PySem.W.kitx_exc (x := a) (ox := oe) (od := od) hcl E.hg E.hk E.hs E.ha E.hn E.ht E.hm
  rcases h with ⟨c, b, rfl, q1, q⟩ | ⟨tp, cs, bs, rfl, sq, q1, q⟩
  · obtain ⟨u1, u2, rfl, r1, r2⟩ := vals2 r
    cases r1
    cases r2
    exact PySem.W.kia_one Z I.kIn J (T.ok C c b q1).2 (fun z => nomatch z) fun tk => ⟨.bl b, H, I.kept (t' := tk) fun _ _ z => z, rfl, q⟩
  · obtain ⟨u1, u2, rfl, r1, r2⟩ := vals2 r
    cases r1
    cases r2
    obtain ⟨its, rv, ⟨⟨oc, odd, dt, sl⟩, ho, hc, n, hd⟩, _⟩ := I.tuple sq
    simp only at hc hd
    subst hc hd
    have e := vals_refs rv
    exact PySem.W.kia_tup Z I.kIn J ho (by rw [e]; exact kitAny_of T cs q1) (fun z => nomatch z) fun tk => ⟨.bl (bs.any id), H, I.kept (t' := tk) fun _ _ z => z, rfl, q⟩
theorem glbs_ok {K : PySem.W.Frag} {m : List Addr} {H : Hp} : ∀ {gs : List D} {cs : List Str} {vs : List V}, glbsD gs = some cs → VRs K m H gs vs → vs = cs.map fun c => V.ref (He.ga K c)
  | [], cs, vs, e, r => by
    cases e
    exact VRs.nil_iff.mp r
  | g :: gs, cs, vs, e, r => by
    obtain ⟨v, w, rfl, a, b⟩ := VRs.cons_iff.mp r
    cases g with
    | glb c =>
      unfold glbsD at e
      cases q : glbsD gs with
      | none => rw [q] at e; cases e
      | some cs' =>
        rw [q] at e
        cases (Option.some.inj e)
        unfold VR at a
        rw [a, glbs_ok q b]
        rfl
    | _ => cases e
theorem ac_isX {K : PySem.W.Frag} {t : Tab} {a : Addr} {d : Option Addr} {k : Nat} {C : Str} : AdC K (rIsX K t a d C) (gIsE t a d k C) := by
  intro W σ m e S H0 H ds vs Q he s r kk
  have okd : okX d k S = true → ∀ dd, d = some dd → ∃ gs, H dd = some (.xd gs) := fun h dd ed => by
    subst ed
    unfold okX at h
    dsimp only at h
    split at h
    · rename_i d' fs q
      have ed := of_decide_eq_true h
      subst ed
      obtain ⟨a', _, e2, gs, _, hx⟩ := s.at_ q
      subst e2
      exact ⟨gs, hx⟩
    · cases h
  unfold gIsE at kk
  split at kk
  · rename_i b c
    split at kk
    · rename_i hc
      obtain ⟨hba, hx⟩ := hc
      subst hba
      split at kk
      · rename_i r' q
        obtain ⟨v, v', rfl, r1, r2⟩ := vxs2 r
        have r1' : VR K (m ++ e) H (.adr b) v := r1
        have r2' : VR K (m ++ e) H (.glb c) v' := r2
        unfold VR at r1' r2'
        subst r1' r2'
        exact ⟨okd hx, .inl ⟨c, r', rfl, q, kk.fin s he _ vr_bl⟩⟩
      · exact kk.elim
    · exact kk.elim
  · rename_i b gs
    split at kk
    · rename_i hc
      obtain ⟨hba, hx⟩ := hc
      subst hba
      split at kk
      · rename_i bs q
        obtain ⟨v, v', rfl, r1, r2⟩ := vxs2 r
        have r1' : VR K (m ++ e) H (.adr b) v := r1
        unfold VR at r1'
        subst r1'
        cases qg : glbsD gs with
        | none => rw [qg] at q; cases q
        | some cs =>
          rw [qg] at q
          obtain ⟨p, us, rfl, sq, rr⟩ := tup_ok r2
          have eu := glbs_ok qg rr
          subst eu
          exact ⟨okd hx, .inr ⟨p, cs, bs, rfl, sq, q, kk.fin s he _ vr_bl⟩⟩
      · exact kk.elim
    · exact kk.elim
  · exact kk.elim
end
end Ah

set_option maxHeartbeats 2000000
namespace Ah
open PySem PySem.Spec PyProof.Rows L2

/-! ### the law's end -/
theorem vrs_ints2 {K : PySem.W.Frag} {m : List Addr} {H : Hp} (ns : List Int) : VRs K m H (ns.map D.int) (ns.map V.int) := vrs_ints
theorem law_callG {P : Program} {w : World} {K : PySem.W.Frag} {mg mb : Str → Option Value} {k : Nat} {fa a : Addr} {fd : FuncData} {x : Str} {g : FF} {s₁ : Shared} {vs : List Value} {ns : List Int}
    (KX : K.In s₁.heap) (hns : s₁.heap.Ns mainGlobals mg) (hb : s₁.heap.Ns builtinsNs mb) (hbb : ∀ x : Str, x ≠ "__name__" → mb x = bootBuiltins x) (hlim : s₁.heap.NoLimit) (hg : s₁.gens = #[])
    (ha : s₁.heap.get? a = some { cls := .type "list", data := .seq vs.toArray }) (hi : IntsAre vs ns) (hl : ns.length ≤ sizeLine) (hr : Room k callerA)
    (F : ∀ base : Heap, K.In base → base.Ns mainGlobals mg → FnG P w K mg base k fa fd [x] g) (hbind : ∀ (s : Shared) (u : Value), BindsTo s fd ⟨[u], []⟩ [(x, u)])
    (hsp : ∃ S', g [.rls (ns.map .int)] [] = .ok (.bl true) S') :
    codeAny (model P w) callerA (.call (.ref fa) ⟨[.ref a], []⟩) (fun r s' => r = .ok (.ret (.bool true)) ∧ OldK s₁.heap s'.heap ∧ s'.os = s₁.os ∧ AllBare s'.gens) s₁ := by
  have rv := vals_ints hi
  have lenV := hi.length
  have core : ∀ H : Hp, Only H → SqR K H a (ns.map V.int) → HOk P w H s₁.heap → (∀ b, H b ≠ none → b = a) → (H a ≠ none → K.lookup a = none) →
      codeAny (model P w) callerA (.call (.ref fa) ⟨[.ref a], []⟩) (fun r s' => r = .ok (.ret (.bool true)) ∧ OldK s₁.heap s'.heap ∧ s'.os = s₁.os ∧ AllBare s'.gens) s₁ := by
    intro H hO hS hok hA hK
    have isA : ∀ {b : Addr} {u : HO}, H b = some u → b = a := fun {b u} q => hA b (by rw [q]; simp)
    have noA : ∀ {b : Addr} {o : Obj} {es : Array DictEntry} {ep : Nat}, s₁.heap.get? b = some o → o.data = .dict es ep → H b = none := fun {b o es ep} e d => by
      cases q : H b with
      | none => rfl
      | some u =>
        rw [isA q, ha] at e
        cases e
        exact absurd d (by intro z; cases z)
    have nsK : ∀ {b : Addr} {m : Str → Option Value}, s₁.heap.Ns b m → (hidT s₁.heap H).Ns b m := fun {b m} ⟨o, es, ep, e, d, r⟩ => ⟨o, es, ep, hidT_get e (noA e d), d, r⟩
    have hKb : K.In (hidT s₁.heap H) := fun b o e => hidT_get (KX b o e) (by
      cases q : H b with
      | none => rfl
      | some u =>
        have z := isA q
        rw [z] at q e
        rw [hK (by rw [q]; simp)] at e
        cases e)
    have e0 : Env0 P w K mg (hidT s₁.heap H) callerA [] s₁ H :=
      ⟨rfl, ⟨hKb, nsK hns, ⟨mb, nsK hb, hbb⟩, let ⟨mc, h1, h2⟩ := hlim; ⟨mc, nsK h1, h2⟩⟩, fun b o e => of_hidT e, Nat.le_of_eq (hidT_size _ _), trivial, fun b hb => absurd (show b ∈ ([] : List Addr) from hb) (by simp), hok, .of_eq hg⟩
    obtain ⟨S', hg'⟩ := hsp
    refine codeAny_mono ((F _ hKb (nsK hns)).run callerA [] s₁ H ⟨[.ref a], []⟩ [.ref a] [.ref a] (fun v _ => v = .bl true) (fun _ _ _ => False) hr rfl e0 (hbind s₁ (.ref a)) (.cons rfl .nil)
      ⟨rfl, [], [.rls (ns.map .int)], [], ⟨rfl, List.nodup_nil, fun i a o h => by cases h⟩, VRs.one (by unfold VR; exact ⟨a, _, rfl, hS, vrs_ints2 ns⟩), ?_⟩) fun r s' h => ?_
    · rw [hg']
      exact fun H' e s he v vr => vx_bl vr
    cases r with
    | error e =>
      obtain ⟨_, _, _, _, _, _, _, _, _, _, _, _, z⟩ := h
      exact z.elim
    | ok fl =>
      cases fl with
      | ret u =>
        obtain ⟨v, H', os, bare, un, hok', r', q⟩ := h
        obtain rfl : v = .bl true := q
        obtain rfl : u = Value.bool true := r'
        refine ⟨rfl, OldK.of_keep fun b o e => ?_, os, bare⟩
        cases q : H b with
        | none => exact un.keep b o e q (by intro z; exact absurd (show b ∈ ([] : List Addr) from z) (by simp)) (by simp)
        | some u =>
          rcases hO b with z | ⟨ob, xs, z⟩
          · rw [q] at z; cases z
          · obtain ⟨e1, _⟩ := hok b _ z
            obtain ⟨e2, _⟩ := hok' b _ (un.frzs b ob _ z)
            rw [e] at e1
            cases e1
            exact e2
      | _ => exact False.elim h
  cases hk : K.lookup a with
  | some o =>
    have e := KX a o hk
    rw [ha] at e
    cases e
    exact core (fun _ => none) (fun _ => .inl rfl) (.inr ⟨_, vs.toArray, _, hk, rfl, rfl, rfl, by rw [List.size_toArray, lenV]; exact hl, by simpa using rv⟩) (fun b u z => absurd z (by simp)) (fun b z => absurd rfl z) fun z => absurd rfl z
  | none =>
    refine core (fun b => if b = a then some (.frz { cls := .type "list", data := .seq vs.toArray } (.lst (ns.map V.int))) else none) (fun b => ?_) (.inl ⟨{ cls := .type "list", data := .seq vs.toArray }, if_pos rfl⟩) (fun b u z => ?_) (fun b z => ?_) fun _ => hk
    · by_cases hb : b = a
      · exact .inr ⟨_, _, if_pos hb⟩
      · exact .inl (if_neg hb)
    · by_cases hb : b = a
      · have z' := (if_pos hb).symm.trans z
        cases z'
        subst hb
        exact ⟨ha, by rw [List.length_map]; exact hl, vs, _, rv, ha⟩
      · have z' := (if_neg hb).symm.trans z
        cases z'
    · by_cases hb : b = a
      · exact hb
      · exact absurd (if_neg hb) z
theorem walk_G {l : PySem.W.OpenLaw} {n k : Nat} {q : Program} {loose : List Str} {XP : (Str → Option Value) → Heap → Prop} {YP : World → Heap → Prop} {d : DefRec} {x : Str}
    (hn : l.most = some n) (hn2 : n ≤ sizeLine) (hdf : d.params.defaults = []) (hr : Room k callerA)
    (F : ∀ (w : World) (mg : Str → Option Value) (fa : Addr) (h : Heap), YP w h → h.Ns mainGlobals mg → mg d.name = some (.ref fa) →
      ∃ (K : PySem.W.Frag) (fd : FuncData) (g : FF), K.In h ∧ (∀ (s : Shared) (u : Value), BindsTo s fd ⟨[u], []⟩ [(x, u)]) ∧
        (∀ (ns : List Int), ns.length ≤ n → ∃ S', g [.rls (ns.map .int)] [] = .ok (.bl true) S') ∧ ∀ base : Heap, K.In base → base.Ns mainGlobals mg → FnG l.prog w K mg base k fa fd [x] g) :
    PySem.W.WalkO q loose XP YP l.row.toRowW d [] (fun f vs => PySem.call f vs) := by
  refine Att.attach_call hn hdf fun w s₀ s₁ mg mb fa o pm cd doc a vs ns G Y ho hd hcd hmg hobj hints hlen hg => ?_
  obtain ⟨K, fd, g, KX, hb, hsp, hF⟩ := F w mg fa _ Y G.T.g hmg
  exact law_callG KX G.T.g G.T.b G.T.builtins G.T.nolimit hg hobj hints (Nat.le_trans hlen hn2) hr hF hb (hsp ns hlen)
/-! ### a call of a local that holds a def -/
/-- the defs that it may hold -/
structure HeldG (P : Program) (w : World) (K : PySem.W.Frag) (mg : Str → Option Value) (base : Heap) (k : Nat) (f : Str) (n : Nat) (g : FF) : Prop where
  ex : ∃ (fd : FuncData) (ps : List Str), FnG P w K mg base k (He.ga K f) fd ps g ∧ PySem.W.keepIn K (.ref (He.ga K f)) = true ∧ Binds K fd ps [] ∧ ps.length = n
abbrev Held := List (Str × FF)
def runL (i : Nat) (hs : Held) (fa : FA) : FE := fun env S => match env[i]? with
  | some (some (.glb f)) => (match hs.lookup f with
    | some g => (fa env S).bind fun ds S1 => g ds S1
    | none => .bad)
  | _ => .bad
section
variable {X : Cx} {W : WX} {k i n : Nat} {x : Str} {p pos : Pos} {e : Expr} {es : List Expr} {fa : FA} {hs : Held}
theorem sx_callL (A : ∀ f g, hs.lookup f = some g → HeldG X.prog X.w X.K X.mg X.base k f n g) (hr : Room k X.A) (hg : X.A.guards = some []) (hN : X.N[i]? = some x) (hv : Vis X.env.scope x) (tk : Takes X W) (ha : SA X W (e :: es) fa) (hl : LenA fa n)
    (hdb : (x == ("__debug__" : Str)) = false := by decide) (hcd : (x == ("__classdict__" : Str)) = false := by decide)
    (he : starEach (e :: es) X.env = (false, eval e X.env) :: starEach es X.env := by rfl) (hpl : (backTo pos (starEach es X.env)).any (·.1) = false := by rfl) : SX X W (.Call (.Name x p) (e :: es) [] pos) (runL i hs fa) := by
  refine ⟨fun pins s σ H Q I ⟨m, env, S, sim, er, kk⟩ => ?_⟩
  unfold runL at kk
  split at kk
  case h_2 => exact kk.elim
  rename_i f q
  split at kk
  case h_2 => exact kk.elim
  rename_i g qg
  obtain ⟨fd, ps, F, hk, hb, hn⟩ := (A f g qg).ex
  obtain ⟨v, hs', vr⟩ := er.2 i _ q
  unfold VR at vr
  subst vr
  refine wpAny_Call_Name_kw (thn ((pe_var (pos := p) hN hv hdb hcd).run pins s σ H (fun v H1 => v = .ref (He.ga X.K f) ∧ H1 = H) I ⟨_, hs', rfl, rfl⟩) fun u s1 ⟨v, H1, I1, r1, q1⟩ => ?_)
  obtain ⟨rfl, rfl⟩ := q1
  cases r1
  refine PySem.W.callWith_K (h₀ := X.base) I1.ok.mod.kin hk (thn (ha.run pos pins s1 σ _ (fun vs H2 => SpD X.K ps.length g (vs ++ []) H2 Q (WE W σ)) I1 ⟨m, env, S, sim, er, ?_⟩) fun us s2 ⟨vs, H2, I2, r, q⟩ => ⟨I2.kIn, ?_⟩) he hpl
  · cases qf : fa env S with
    | ok xs S1 =>
      rw [qf] at kk
      intro H1 e1 s1 h1 vs vr
      have := sp_call (K := X.K) (ps := ps) (W := W) (σ := σ) (dvs := []) (dds := []) (g := g) (Q := Q) (by rw [List.append_nil, vr.length, hl _ _ _ _ qf]; exact hn.symm) s1 h1 vr dvs_nil (by rw [List.append_nil]; exact kk)
      exact this
    | ex => rw [qf] at kk; exact kk
    | bad => rw [qf] at kk; exact kk
  · exact run_g F hr hg hb .nil (passAt tk σ) I2 r q
end
end Ah

set_option maxHeartbeats 2000000
namespace Ah
open PySem PySem.Spec PyProof.Rows L2

/-! ### the Hook, with a test of one's own -/
abbrev AlE : Type := He.AlD × Bool
def obsEG (n : Nat) (fa : List He.Fa) (fn : List He.DefD) (chk : PySem.W.Frag → Bool) (g : Addr → Option Obj) : AlE := (He.obsD fa fn (He.frG g (cStatics :: He.asD g n)), chk (He.frG g (cStatics :: He.asD g n)))
def hookE (n : Nat) (fa : List He.Fa) (fn : List He.DefD) (chk : PySem.W.Frag → Bool) : PySem.W.Hook where
  α := AlE
  obs := fun s => obsEG n fa fn chk s.heap.get?
  val := fun _ => (He.valD fn, true)
  says := fun _ h => ∃ K : PySem.W.Frag, K.In h ∧ He.SaysD fa fn K ∧ chk K = true
  of := fun _ _ e => ⟨_, He.frG_in, congrArg (fun z : AlE => z.1) e, congrArg (fun z : AlE => z.2) e⟩
  keeps := fun _ _ _ ⟨K, hK, c⟩ k => ⟨K, PySem.W.Frag.In.keeps hK k, c⟩
theorem obsE_eq {n : Nat} {fa : List He.Fa} {fn : List He.DefD} {chk : PySem.W.Frag → Bool} {g : Addr → Option Obj} {s : Shared} (h : ∀ a, g a = s.heap.get? a) : obsEG n fa fn chk g = (hookE n fa fn chk).obs s := by
  have e : g = s.heap.get? := funext h
  rw [e] <;> rfl
/-! ### defs by name -/
/-- the def x of the module: n arguments are written, dds stand for the rest -/
structure Df (P : Program) (w : World) (K : PySem.W.Frag) (mg : Str → Option Value) (base : Heap) (k : Nat) (x : Str) (n : Nat) (dds : List D) (g : FF) : Prop where
  ex : ∃ (fd : FuncData) (ps : List Str) (ds : List Value) (dvs : List V), FnG P w K mg base k (He.ga K x) fd ps g ∧ PySem.W.keepIn K (.ref (He.ga K x)) = true ∧ Binds K fd ps ds ∧ Vals dvs ds ∧ DVs K dds dvs ∧ n + dvs.length = ps.length
theorem Df.held {P : Program} {w : World} {K : PySem.W.Frag} {mg : Str → Option Value} {base : Heap} {k n : Nat} {x : Str} {g : FF} (h : Df P w K mg base k x n [] g) : HeldG P w K mg base k x n g := by
  obtain ⟨fd, ps, ds, dvs, F, hk, hb, hd, dv, hn⟩ := h.ex
  have e := dv [] (fun _ => none)
  rw [VRs.nil_iff.mp e] at hd hn
  cases hd
  exact ⟨fd, ps, F, hk, hb, by simpa using hn.symm⟩
theorem Df.mono {P : Program} {w : World} {K : PySem.W.Frag} {mg : Str → Option Value} {base : Heap} {j k n : Nat} {x : Str} {dds : List D} {g : FF} (h : Df P w K mg base j x n dds g) (hj : j ≤ k) : Df P w K mg base k x n dds g := by
  obtain ⟨fd, ps, ds, dvs, F, r⟩ := h.ex
  exact ⟨fd, ps, ds, dvs, F.mono hj, r⟩
section
variable {X : Cx} {W : WX} {k n : Nat} {x : Str} {p pos : Pos} {e : Expr} {es : List Expr} {fa : FA} {dds : List D} {g : FF}
theorem sx_df (F : Df X.prog X.w X.K X.mg X.base k x n dds g) (hr : Room k X.A) (hg : X.A.guards = some []) (hgl : Gl X x) (hm : X.mg x = some (.ref (He.ga X.K x))) (tk : Takes X W) (ha : SA X W (e :: es) fa) (hl : LenA fa n)
    (hdb : (x == ("__debug__" : Str)) = false := by decide) (he : starEach (e :: es) X.env = (false, eval e X.env) :: starEach es X.env := by rfl) (hpl : (backTo pos (starEach es X.env)).any (·.1) = false := by rfl) :
    SX X W (.Call (.Name x p) (e :: es) [] pos) (runF g dds fa) := by
  obtain ⟨fd, ps, ds, dvs, F, hk, hb, hd, dv, hn⟩ := F.ex
  exact sx_call F hr hg hgl hm hk hb hd dv tk ha hl hn hdb he hpl
theorem sx_df0 (F : Df X.prog X.w X.K X.mg X.base k x 0 dds g) (hr : Room k X.A) (hg : X.A.guards = some []) (hgl : Gl X x) (hm : X.mg x = some (.ref (He.ga X.K x))) (tk : Takes X W) (hdb : (x == ("__debug__" : Str)) = false := by decide) : SX X W (.Call (.Name x p) [] [] pos) (runF g dds nilA) := by
  obtain ⟨fd, ps, ds, dvs, F, hk, hb, hd, dv, hn⟩ := F.ex
  exact sx_call0 F hr hg hgl hm hk hb hd dv tk (by simpa using hn) hdb
end
theorem roomU {k : Nat} {A : Around} (r : Room k A) : A.units + 1 < cLine := by have := r.un; omega
theorem roomE {k : Nat} {A : Around} (r : Room k A) : A.units + 64 < cLine := by have := r.un; omega
theorem roomV {k : Nat} {A : Around} (r : Room k A) : A.units + 100 < cLine := by have := r.un; omega

/-! ### name = [..] on one line -/
section
variable {X : Cx} {W : WX}
theorem toS_bind {α β : Type} (r : R α) (k : α → Sto → R β) (env : En) (h : β → Sto → RS) : (r.bind k).toS env h = r.toS env fun a S => (k a S).toS env h := by cases r <;> rfl
theorem ss_setLc {i : Nat} {y : Str} {py : Pos} {elt tg iter : Expr} {ifs : List Expr} {scope : Scope} {own : List (Str × Nat)} {pos spos : Pos} {fi : FI} {g : FTg} {t : FT} {fe : FE} {ws : List Nat} (hc : X.calm = true) (hN : X.N.Nodup) (hy : X.N[i]? = some y) (hyl : X.env.scope.names.lookup y = some .local)
    (hi : SI X W tg iter fi) (ok : BlkOk X.N X.env.scope scope own)
    (hg : ∀ (s : Shared) (H : Hp) (C : Addr) (cl : List (Str × Addr)) (fp : List Addr), SG (X.blk s H scope (compEnvC scope cl C X.env) fp) tg ws g) (ht : ∀ (s : Shared) (H : Hp) (C : Addr) (cl : List (Str × Addr)) (fp : List Addr), STs (X.blk s H scope (compEnvC scope cl C X.env) fp) WF ifs t)
    (he : ∀ (s : Shared) (H : Hp) (C : Addr) (cl : List (Str × Addr)) (fp : List Addr), SE (X.blk s H scope (compEnvC scope cl C X.env) fp) WF elt fe)
    (hsw : swapsWith (.ListComp elt [⟨tg, iter, ifs, 0⟩] scope pos) (some (.Name y py)) spos.line X.env = pure true := by rfl) (hws : ∀ i ∈ ws, i ∈ own.map (·.2) := by decide) (hs : ∀ x, foldedSetIterable iter X.env x = pure x := by intro _; rfl) :
    SS X W (.Assign [.Name y py] (.ListComp elt [⟨tg, iter, ifs, 0⟩] scope pos) spos) (setS i (alF (lcF fi g t fe (own.map (·.2))))) :=
  ps_imp (ps_setLc hc hN hy hyl hsw hi ok hg ht he hs) fun Dn σ H ⟨m, env, S, s, er, k⟩ => by
    refine to_lc (fi := fi) (g := g) (t := t) (fe := fe) (Q := fun v H1 => Dn.nx (σ.set i (some v)) H1) hws ⟨m, env, S, s, er, ?_⟩
    unfold setS alF at k
    rw [toS_bind] at k
    refine k.ex0 er fun e1 H1 S1 d s1 he1 k1 v vr => ?_
    cases d with
    | tml ds =>
      obtain ⟨p, xs, rfl, h0, hp, hn, r⟩ := vr
      have k1 : KS X.K W Dn m H (.nx (env.set i (some (.ref S1.length))) (S1 ++ [.lst ds])) := k1
      have hm : p ∉ m ++ e1 := hn
      have s2 := s1.add hm (o := .lst ds) ⟨xs, r, hp⟩
      have he2 : HE m (e1 ++ [p]) H H1 := ⟨he1.tk, he1.oth, he1.dom, fun x hx => (List.mem_append.mp hx).elim (he1.new x) fun z => by
        have : x = p := by simpa using z
        rw [this]; exact h0⟩
      rw [List.append_assoc] at s2
      refine k1 _ H1 _ s2 he2 ((er.on he2).set ?_)
      unfold VR
      refine ⟨p, ?_, rfl⟩
      rw [← List.append_assoc, ← s1.len]
      simp
    | _ => exact k1 _ H1 e1 s1 he1 ((er.on he1).set (vr.vr (fun xs z => by cases z)))
end
/-! ### {} -/
def newDF : FE := fun _ S => .ok (.ref S.length) (S ++ [.dct false []])
theorem se_dnew {X : Cx} {W : WX} {pos : Pos} : SE X W (.Dict [] [] pos) newDF := pe_imp pe_dnewK fun σ H Q ⟨m, env, S, s, er, k⟩ => fun p hp => by
  have hn := s.notin hp
  have s2 := (s.other (o := .dK []) hp).add hn (o := .dct false []) ⟨[], rfl, upd_same⟩
  have he : HE m [p] H (upd H p (.dK [])) := (HE.laid hp).take hp
  refine k _ [p] s2 he _ ?_
  unfold VR
  exact ⟨p, by rw [← s.len]; simp, rfl⟩
/-! ### < <= > >= of numbers and texts -/
def orP (p q : Prd) : Prd := fun x y S => match p x y S with
  | some b => some b
  | none => q x y S
theorem ap_or {K : PySem.W.Frag} {r r' : R2} {p q : Prd} (h : AdP K r p) (h' : AdP K r' q) : AdP K (fun x y H Q => r x y H Q ∨ r' x y H Q) (orP p q) := fun m S H0 H x y v u b Q s rx ry e k => by
  unfold orP at e
  split at e
  · rename_i b' e'
    cases e
    exact .inl (h m S H0 H x y v u _ Q s rx ry e' k)
  · exact .inr (h' m S H0 H x y v u b Q s rx ry e k)
def pLtA : Prd := orP pLt pLtS
def pLeA : Prd := orP pLe pLeS
section
variable {K : PySem.W.Frag} {X : Cx}
theorem op_ltA : OpR X (compareOp .Lt) (fun x y H Q => rI0 (fun i j => .bl (decide (i < j))) x y H Q ∨ ∃ i j, x = .str i ∧ y = .str j ∧ Q (.bl (decide (i.cps.toList < j.cps.toList))) H) := op_lt.or op_lt_str
theorem ap_ltA : AdP K (fun x y H Q => rI0 (fun i j => .bl (decide (i < j))) x y H Q ∨ ∃ i j, x = .str i ∧ y = .str j ∧ Q (.bl (decide (i.cps.toList < j.cps.toList))) H) pLtA := ap_or ap_lt ap_ltS
theorem op_leA : OpR X (compareOp .LtE) (fun x y H Q => rI0 (fun i j => .bl (decide (i ≤ j))) x y H Q ∨ ∃ i j, x = .str i ∧ y = .str j ∧ Q (.bl (!decide (j.cps.toList < i.cps.toList))) H) := op_le.or op_le_str
theorem ap_leA : AdP K (fun x y H Q => rI0 (fun i j => .bl (decide (i ≤ j))) x y H Q ∨ ∃ i j, x = .str i ∧ y = .str j ∧ Q (.bl (!decide (j.cps.toList < i.cps.toList))) H) pLeA := ap_or ap_le ap_leS
theorem op_eqA (hu : X.A.units + 64 < cLine) : OpR X (compareOp .Eq) (fun x y H Q => rEq x y H Q ∨ rEqD X.K x y H Q) := op_eq.or (op_eqD hu)
theorem op_neA (hu : X.A.units + 64 < cLine) : OpR X (compareOp .NotEq) (fun x y H Q => rNe x y H Q ∨ rNeD X.K x y H Q) := op_ne.or (op_neD hu)
end
/-! ### the built-ins' names -/
theorem b_len : bootBuiltins "len" = some (.builtin "len") := by decide +kernel
theorem b_all : bootBuiltins "all" = some (.builtin "all") := by decide +kernel
theorem b_any : bootBuiltins "any" = some (.builtin "any") := by decide +kernel
theorem b_max : bootBuiltins "max" = some (.builtin "max") := by decide +kernel
theorem b_min : bootBuiltins "min" = some (.builtin "min") := by decide +kernel
theorem b_sorted : bootBuiltins "sorted" = some (.builtin "sorted") := by decide +kernel
theorem b_repr : bootBuiltins "repr" = some (.builtin "repr") := by decide +kernel
theorem b_isinstance : bootBuiltins "isinstance" = some (.builtin "isinstance") := by decide +kernel
theorem b_int : bootBuiltins "int" = some (.type "int") := by decide +kernel
theorem b_str : bootBuiltins "str" = some (.type "str") := by decide +kernel
theorem b_bool : bootBuiltins "bool" = some (.type "bool") := by decide +kernel
theorem b_tuple : bootBuiltins "tuple" = some (.type "tuple") := by decide +kernel
theorem b_list : bootBuiltins "list" = some (.type "list") := by decide +kernel
theorem b_dict : bootBuiltins "dict" = some (.type "dict") := by decide +kernel
end Ah

set_option maxHeartbeats 2000000
namespace Ah
open PySem PySem.Spec PyProof.Rows L2

/-! ### what was made within is let go -/
theorem kept_app (S J : Sto) : Kept S (S ++ J) := ⟨by simp, fun i o hi h => by
  rw [List.getElem?_append_left hi] at h
  exact .inl h⟩
theorem kept_refl (S : Sto) : Kept S S := ⟨Nat.le_refl _, fun i o hi h => .inl h⟩
/-- neither a list just made nor an object -/
def plD : D → Bool
  | .ref _ => false
  | .tml _ => false
  | _ => true
theorem wrap_pl {g : FF} {ds : List D} {S S' : Sto} {d : D} (h : g ds S = .ok d S') (hk : Kept S S') (hp : plD d = true) (hb : d.bel S.length = true) : wrapF g ds S = .ok d (S'.take S.length) := by
  unfold wrapF
  rw [h]
  dsimp only
  rw [if_pos hk]
  cases d with
  | ref _ => cases hp
  | tml _ => cases hp
  | _ => dsimp only; rw [if_pos hb]
/-- the store as it was, or with things made behind it -/
theorem wrap_app {g : FF} {ds : List D} {S J : Sto} {d : D} (h : g ds S = .ok d (S ++ J)) (hp : plD d = true) (hb : d.bel S.length = true) : wrapF g ds S = .ok d S := by
  rw [wrap_pl h (kept_app S J) hp hb]
  simp
theorem wrap_same {g : FF} {ds : List D} {S : Sto} {d : D} (h : g ds S = .ok d S) (hp : plD d = true) (hb : d.bel S.length = true) : wrapF g ds S = .ok d S :=
  wrap_app (J := []) (by simpa using h) hp hb
/-- a list that was made within -/
theorem wrap_ls {g : FF} {ds : List D} {S S' : Sto} {i : Nat} {xs : List D} (h : g ds S = .ok (.ref i) S') (hk : Kept S S') (hi : S.length ≤ i) (hx : S'[i]? = some (.lst xs)) (hb : D.bels S.length xs = true) : wrapF g ds S = .ok (.tml xs) (S'.take S.length) := by
  unfold wrapF
  rw [h]
  dsimp only
  rw [if_pos hk, if_neg (by omega), hx]
  dsimp only
  rw [if_pos hb]
theorem wrap_ex {g : FF} {ds : List D} {S J : Sto} {C : Str} {fs : List (Str × D)} (h : g ds S = .ex C fs (S ++ J)) (hb : D.bels S.length (fs.map (·.2)) = true) : wrapF g ds S = .ex C fs S := by
  unfold wrapF
  rw [h]
  dsimp only
  rw [if_pos ⟨kept_app S J, hb⟩]
  simp
/-! ### data without objects -/
mutual
def noRef : D → Bool
  | .non => true
  | .bl _ => true
  | .int _ => true
  | .str _ => true
  | .tup ds => noRefs ds
  | .rls ds => noRefs ds
  | .tml ds => noRefs ds
  | .ref _ => false
  | .glb _ => true
  | .ty _ => true
  | .adr _ => true
def noRefs : List D → Bool
  | [] => true
  | d :: ds => noRef d && noRefs ds
end
mutual
theorem bel_of : ∀ {d : D} {n : Nat}, noRef d = true → d.bel n = true
  | .non, _, _ => rfl
  | .bl _, _, _ => rfl
  | .int _, _, _ => rfl
  | .str _, _, _ => rfl
  | .tup ds, n, h => by unfold noRef at h; unfold D.bel; exact bels_of h
  | .rls ds, n, h => by unfold noRef at h; unfold D.bel; exact bels_of h
  | .tml ds, n, h => by unfold noRef at h; unfold D.bel; exact bels_of h
  | .ref _, _, h => by unfold noRef at h; cases h
  | .glb _, _, _ => rfl
  | .ty _, _, _ => rfl
  | .adr _, _, _ => rfl
theorem bels_of : ∀ {ds : List D} {n : Nat}, noRefs ds = true → D.bels n ds = true
  | [], _, _ => rfl
  | d :: ds, n, h => by
    unfold noRefs at h
    unfold D.bels
    obtain ⟨h1, h2⟩ := Bool.and_eq_true_iff.mp h
    rw [bel_of h1, bels_of h2]
    rfl
end
theorem noRefs_map {α : Type} (f : α → D) (h : ∀ a, noRef (f a) = true) : ∀ l : List α, noRefs (l.map f) = true
  | [] => rfl
  | a :: l => by show (noRef (f a) && noRefs (l.map f)) = true; rw [h a, noRefs_map f h l]; rfl
/-! ### comprehensions that change nothing -/
theorem lcGo_pure {g : FTg} {t : FT} {fe : FE} {safe : Sto → Prop} {env : En} {S : Sto} (hs : safe S) {p : D → Bool} {h : D → D} : ∀ (ds acc : List D), acc.length + ds.length ≤ 16777216 →
    (∀ d ∈ ds, ∃ e1, g d env = some e1 ∧ t e1 S = .ok (p d) S ∧ (p d = true → fe e1 S = .ok (h d) S)) → lcGo g t fe safe env ds acc S = .ok (.tml (acc ++ (ds.filter p).map h)) S
  | [], acc, _, _ => by unfold lcGo; simp
  | d :: ds, acc, hl, hd => by
    obtain ⟨e1, h1, h2, h3⟩ := hd d (by simp)
    unfold lcGo
    rw [h1]
    dsimp only
    rw [h2]
    have hr := fun d' (hm : d' ∈ ds) => hd d' (List.mem_cons_of_mem _ hm)
    cases hp : p d with
    | true =>
      dsimp only
      rw [h3 hp]
      dsimp only
      simp only [List.length_cons] at hl
      rw [if_pos ⟨by omega, hs⟩, lcGo_pure hs ds (acc ++ [h d]) (by simp only [List.length_append, List.length_cons, List.length_nil]; omega) hr]
      simp [List.filter_cons, hp]
    | false =>
      dsimp only
      simp only [List.length_cons] at hl
      rw [if_pos hs, lcGo_pure hs ds acc (by omega) hr]
      simp [List.filter_cons, hp]
theorem lc_pure {fi : FI} {g : FTg} {t : FT} {fe : FE} {vs : List Nat} {env : En} {S : Sto} {items : List D} {safe : Sto → Prop} (p : D → Bool) (h : D → D) (hi : fi env S = .ok ⟨items, safe⟩ S) (hs : safe S) (hl : items.length ≤ 16777216)
    (hd : ∀ d ∈ items, ∃ e1, g d (wipeE env vs) = some e1 ∧ t e1 S = .ok (p d) S ∧ (p d = true → fe e1 S = .ok (h d) S)) : lcF fi g t fe vs env S = .ok (.tml ((items.filter p).map h)) S := by
  unfold lcF
  rw [hi]
  dsimp only [R.bind]
  rw [if_pos hs, lcGo_pure hs items [] (by simpa using hl) hd]
  simp
/-- over a text's signs, all taken -/
theorem lc_chr {fe0 : FE} {i : Nat} {fe : FE} {vs : List Nat} {env : En} {S : Sto} {x : Str} (h : Nat → D) (hi : fe0 env S = .ok (.str x) S) (hl : x.length ≤ 16777216) (hd : ∀ c, fe ((wipeE env vs).set i (some (.str ⟨#[c]⟩))) S = .ok (h c) S) :
    lcF (seqI fe0) (nmG i) yesF fe vs env S = .ok (.tml (x.cps.toList.map h)) S := by
  have e : (chrD x).length = x.length := by simp [chrD, Str.length]
  let hD : D → D := fun d => match d with
    | .str y => h (y.cps.getD 0 0)
    | _ => .non
  rw [lc_pure (p := fun _ => true) (h := hD) (items := chrD x) (safe := Alw) (by unfold seqI; rw [hi]; rfl) trivial (by rw [e]; exact hl) (fun d hm => ?_)]
  · rw [List.filter_eq_self.mpr (by simp)]
    simp [chrD, hD, Function.comp_def]
  · obtain ⟨c, _, rfl⟩ := List.mem_map.mp hm
    exact ⟨_, rfl, rfl, fun _ => hd c⟩
/-- .. those that pass a test, themselves -/
theorem lc_chrF {fe0 : FE} {i : Nat} {t : FT} {vs : List Nat} {env : En} {S : Sto} {x : Str} (p : Nat → Bool) (hi : fe0 env S = .ok (.str x) S) (hl : x.length ≤ 16777216) (hv : ∀ c : Nat, varF i ((wipeE env vs).set i (some (.str ⟨#[c]⟩))) S = .ok (.str ⟨#[c]⟩) S)
    (hd : ∀ c, t ((wipeE env vs).set i (some (.str ⟨#[c]⟩))) S = .ok (p c) S) : lcF (seqI fe0) (nmG i) t (varF i) vs env S = .ok (.tml ((x.cps.toList.filter p).map fun c => .str ⟨#[c]⟩)) S := by
  have e : (chrD x).length = x.length := by simp [chrD, Str.length]
  let pD : D → Bool := fun d => match d with
    | .str y => p (y.cps.getD 0 0)
    | _ => false
  rw [lc_pure (p := pD) (h := id) (items := chrD x) (safe := Alw) (by unfold seqI; rw [hi]; rfl) trivial (by rw [e]; exact hl) (fun d hm => ?_)]
  · congr 1
    rw [List.map_id, chrD]
    induction x.cps.toList with
    | nil => rfl
    | cons c l ih =>
      have ih := ih
      simp only [List.map_cons, List.filter_cons]
      have ep : pD (D.str ⟨#[c]⟩) = p c := rfl
      rw [ep]
      cases p c with
      | true =>
        simp only [if_true, List.map_cons]
        have := D.tml.inj ih
        rw [this]
      | false =>
        simp only [Bool.false_eq_true, if_false]
        exact ih
  · obtain ⟨c, _, rfl⟩ := List.mem_map.mp hm
    exact ⟨_, rfl, hd c, fun _ => hv c⟩
/-! ### repr of small data -/
theorem okP_of {p : PyData} (h1 : p.showable = true) (h2 : p.hasDict = false) (h3 : p.depth ≤ 60) (h4 : p.canLay0 = true) (h5 : p.weight ≤ 2 ^ 20) (h6 : p.intsShort 13 = true) : okP p = true := by
  have hl : p.layable0 = true := by
    unfold PyData.layable0
    rw [h4, decide_eq_true (by omega), decide_eq_true h5]
    rfl
  have := PyData.shown_le_of_layable0 hl h6
  unfold okP
  rw [h1, h2, decide_eq_true h3, decide_eq_true (by omega)]
  rfl
end Ah

set_option maxHeartbeats 2000000
namespace Ah
open PySem PySem.Spec PyProof.Rows L2
/-! ### reading what was walked: rules for simp -/
@[simp] theorem v_bind {α β : Type} {a : α} {S : Sto} {k : α → Sto → R β} : (R.ok a S).bind k = k a S := rfl
@[simp] theorem v_bindx {α β : Type} {C : Str} {fs : List (Str × D)} {S : Sto} {k : α → Sto → R β} : (R.ex C fs S : R α).bind k = .ex C fs S := rfl
@[simp] theorem v_toS {α : Type} {a : α} {S : Sto} {env : En} {k : α → Sto → RS} : (R.ok a S).toS env k = k a S := rfl
@[simp] theorem v_toSx {α : Type} {C : Str} {fs : List (Str × D)} {S : Sto} {env : En} {k : α → Sto → RS} : (R.ex C fs S : R α).toS env k = .ex C fs env S := rfl
@[simp] theorem v_c {d : D} {env : En} {S : Sto} : cF d env S = .ok d S := rfl
@[simp] theorem v_var {i : Nat} {env : En} {S : Sto} : varF i env S = match env[i]? with
  | some (some d) => .ok d S
  | _ => .bad := rfl
@[simp] theorem v_op {op : Op2} {fa fb : FE} {env : En} {S : Sto} : opF op fa fb env S = (fa env S).bind fun x S1 => (fb env S1).bind fun y S2 => op x y S2 := rfl
@[simp] theorem v_un {op : Op1} {fa : FE} {env : En} {S : Sto} : unF op fa env S = (fa env S).bind fun x S1 => op x S1 := rfl
@[simp] theorem v_al {f : FE} {env : En} {S : Sto} : alF f env S = (f env S).bind fun d S1 => match d with
  | .tml ds => .ok (.ref S1.length) (S1 ++ [.lst ds])
  | d => .ok d S1 := rfl
@[simp] theorem v_tst {f : FE} {env : En} {S : Sto} : tstF f env S = (f env S).bind fun d S1 => match d with
  | .bl b => .ok b S1
  | _ => .bad := rfl
@[simp] theorem v_and {f g : FT} {env : En} {S : Sto} : andF f g env S = (f env S).bind fun b S1 => if b = true then g env S1 else .ok false S1 := rfl
@[simp] theorem v_or {f g : FT} {env : En} {S : Sto} : orF f g env S = (f env S).bind fun b S1 => if b = true then .ok true S1 else g env S1 := rfl
@[simp] theorem v_not {f : FT} {env : En} {S : Sto} : notF f env S = (f env S).bind fun b S1 => .ok (!b) S1 := rfl
@[simp] theorem v_andV {f g : FE} {env : En} {S : Sto} : andV f g env S = (f env S).bind fun d S1 => match d with
  | .bl b => if b = true then g env S1 else .ok (.bl false) S1
  | _ => .bad := by
  unfold andV
  congr 1
  funext d S1
  cases d with
  | bl b => cases b <;> rfl
  | _ => rfl
@[simp] theorem v_orV {f g : FE} {env : En} {S : Sto} : orV f g env S = (f env S).bind fun d S1 => match d with
  | .bl b => if b = true then .ok (.bl true) S1 else g env S1
  | _ => .bad := by
  unfold orV
  congr 1
  funext d S1
  cases d with
  | bl b => cases b <;> rfl
  | _ => rfl
@[simp] theorem v_notV {f : FE} {env : En} {S : Sto} : notV f env S = (f env S).bind fun d S1 => match d with
  | .bl b => .ok (.bl (!b)) S1
  | _ => .bad := rfl
@[simp] theorem v_if {t : FT} {f g : FE} {env : En} {S : Sto} : ifF t f g env S = (t env S).bind fun b S1 => if b = true then f env S1 else g env S1 := rfl
@[simp] theorem v_pr {p : Prd} {x y : D} {S : Sto} : prF p x y S = match p x y S with
  | some b => .ok (.bl b) S
  | none => .bad := rfl
@[simp] theorem v_ch {p p' : Prd} {fa fb fc : FE} {env : En} {S : Sto} : chF p p' fa fb fc env S = (fa env S).bind fun x S1 => (fb env S1).bind fun y S2 => match p x y S2 with
  | some b => if b = true then (fc env S2).bind fun w S4 => prF p' y w S4 else .ok (.bl false) S2
  | none => .bad := by
  unfold chF
  congr 1
  funext x S1
  congr 1
  funext y S2
  generalize p x y S2 = o
  cases o with
  | none => rfl
  | some b => cases b <;> rfl
@[simp] theorem v_oAdd {i j : Int} {S : Sto} : oAdd (.int i) (.int j) S = .ok (.int (i + j)) S := rfl
@[simp] theorem v_oSub {i j : Int} {S : Sto} : oSub (.int i) (.int j) S = .ok (.int (i - j)) S := rfl
@[simp] theorem v_oMul {i j : Int} {S : Sto} : oMul (.int i) (.int j) S = if (-(2 ^ 64) < i ∧ i < 2 ^ 64) ∨ (-(2 ^ 64) < j ∧ j < 2 ^ 64) then .ok (.int (i * j)) S else .bad := rfl
@[simp] theorem v_oMod {i j : Int} {S : Sto} : oMod (.int i) (.int j) S = if 0 < j then .ok (.int (i % j)) S else .bad := rfl
@[simp] theorem v_oDiv {i j : Int} {S : Sto} : oDiv (.int i) (.int j) S = if 0 < j ∧ j < 1073741824 then .ok (.int (i / j)) S else .bad := rfl
@[simp] theorem v_oPow {i j : Int} {S : Sto} : oPow (.int i) (.int j) S = if 0 ≤ j ∧ j ≤ 1000000 ∧ i.natAbs < 2 ^ 64 then .ok (.int (i ^ j.toNat)) S else .bad := rfl
@[simp] theorem v_lt {i j : Int} {S : Sto} : pLt (.int i) (.int j) S = some (decide (i < j)) := rfl
@[simp] theorem v_le {i j : Int} {S : Sto} : pLe (.int i) (.int j) S = some (decide (i ≤ j)) := rfl
@[simp] theorem v_gt {i j : Int} {S : Sto} : pGt (.int i) (.int j) S = some (decide (j < i)) := rfl
@[simp] theorem v_ge {i j : Int} {S : Sto} : pGe (.int i) (.int j) S = some (decide (j ≤ i)) := rfl
@[simp] theorem v_ltA {i j : Int} {S : Sto} : pLtA (.int i) (.int j) S = some (decide (i < j)) := rfl
@[simp] theorem v_leA {i j : Int} {S : Sto} : pLeA (.int i) (.int j) S = some (decide (i ≤ j)) := rfl
def ltL (i j : Str) : Bool := decide (i.cps.toList < j.cps.toList)
@[simp] theorem v_ltS {i j : Str} {S : Sto} : pLtA (.str i) (.str j) S = some (ltL i j) := rfl
@[simp] theorem v_leS {i j : Str} {S : Sto} : pLeA (.str i) (.str j) S = some (!ltL j i) := rfl
@[simp] theorem v_isN {x : D} {S : Sto} : pIsN x .non S = some (isNon x) := rfl
@[simp] theorem v_notN {x : D} {S : Sto} : pNotN x .non S = some (!isNon x) := rfl
@[simp] theorem v_isnon : isNon .non = true := rfl
@[simp] theorem v_isint {i : Int} : isNon (.int i) = false := rfl
@[simp] theorem v_isstr {i : Str} : isNon (.str i) = false := rfl
@[simp] theorem v_istup {i : List D} : isNon (.tup i) = false := rfl
@[simp] theorem v_neg {i : Int} {S : Sto} : oNeg (.int i) S = .ok (.int (-i)) S := rfl
@[simp] theorem v_nilA {env : En} {S : Sto} : nilA env S = .ok [] S := rfl
@[simp] theorem v_consA {f : FE} {g : FA} {env : En} {S : Sto} : consA f g env S = (f env S).bind fun d S1 => (g env S1).bind fun ds S2 => .ok (d :: ds) S2 := rfl
@[simp] theorem v_tup {g : FA} {env : En} {S : Sto} : tupF g env S = (g env S).bind fun ds S1 => .ok (.tup ds) S1 := rfl
@[simp] theorem v_lst {g : FA} {env : En} {S : Sto} : lstF g env S = (g env S).bind fun ds S1 => .ok (.tml ds) S1 := rfl
@[simp] theorem v_noO {env : En} {S : Sto} : noO env S = .ok none S := rfl
@[simp] theorem v_soO {f : FE} {env : En} {S : Sto} : soO f env S = (f env S).bind fun d S1 => match d with
  | .int i => .ok (some i) S1
  | _ => .bad := rfl
@[simp] theorem v_sl {fa : FE} {lo hi : FO} {env : En} {S : Sto} : slF fa lo hi env S = (fa env S).bind fun x S1 => (lo env S1).bind fun l S2 => (hi env S2).bind fun u S3 => slD S3 x l u := rfl
@[simp] theorem v_call {g : FC} {fa : FA} {env : En} {S : Sto} : callF g fa env S = (fa env S).bind fun ds S1 => g ds S1 := rfl
@[simp] theorem v_run {g : FF} {dvs : List D} {fa : FA} {env : En} {S : Sto} : runF g dvs fa env S = (fa env S).bind fun ds S1 => g (ds ++ dvs) S1 := rfl
@[simp] theorem v_bm {T : String} {g : FM} {fo : FE} {fa : FA} {env : En} {S : Sto} : bmF T g fo fa env S = (fo env S).bind fun x S1 => if tyD T x S1 = true then (fa env S1).bind fun ds S2 => g x ds S2 else .bad := rfl
@[simp] theorem v_seq {a b : FS} {env : En} {S : Sto} : seqS a b env S = match a env S with
  | .nx e S1 => b e S1
  | r => r := rfl
@[simp] theorem v_nop {env : En} {S : Sto} : nopS env S = .nx env S := rfl
@[simp] theorem v_expr {f : FE} {env : En} {S : Sto} : exprS f env S = (f env S).toS env fun _ S1 => .nx env S1 := rfl
@[simp] theorem v_ret {f : FE} {env : En} {S : Sto} : retS f env S = (f env S).toS env fun d S1 => .rt d S1 := rfl
@[simp] theorem v_ifS {t : FT} {a b : FS} {env : En} {S : Sto} : ifS t a b env S = (t env S).toS env fun c S1 => if c = true then a env S1 else b env S1 := rfl
@[simp] theorem v_set {i : Nat} {f : FE} {env : En} {S : Sto} : setS i f env S = (f env S).toS env fun d S1 => .nx (env.set i (some d)) S1 := rfl
@[simp] theorem v_nm {i : Nat} {d : D} {env : En} : nmG i d env = some (env.set i (some d)) := rfl
@[simp] theorem v_nilG {env : En} : nilG [] env = some env := rfl
@[simp] theorem v_consG {f : FTg} {g : FTs} {d : D} {r : List D} {env : En} : consG f g (d :: r) env = (f d env).bind fun e => g r e := rfl
@[simp] theorem v_tupG {n : Nat} {g : FTs} {ds : List D} {env : En} : tupG n g (.tup ds) env = if ds.length = n then g ds env else none := rfl
@[simp] theorem v_asg {f : FE} {g : FTg} {env : En} {S : Sto} : asgS f g env S = (f env S).toS env fun d S1 => match g d env with
  | some env' => .nx env' S1
  | none => .bad := rfl
@[simp] theorem v_par {i j : Nat} {fa : FA} {env : En} {S : Sto} : parS i j fa env S = (fa env S).toS env fun ds S1 => match ds with
  | [a, b] => .nx ((env.set i (some a)).set j (some b)) S1
  | _ => .bad := rfl
@[simp] theorem v_par3 {i j l : Nat} {fa : FA} {env : En} {S : Sto} : par3S i j l fa env S = (fa env S).toS env fun ds S1 => match ds with
  | [a, b, c] => .nx (((env.set i (some a)).set j (some b)).set l (some c)) S1
  | _ => .bad := rfl
@[simp] theorem v_st {fe fo fi : FE} {env : En} {S : Sto} : stS fe fo fi env S = (fe env S).toS env fun v S1 => (fo env S1).toS env fun o S2 => (fi env S2).toS env fun i S3 => match setD S3 o i v with
  | some S4 => .nx env S4
  | none => .bad := rfl
@[simp] theorem v_raise {C f0 : Str} {flds : List Str} {fa : FA} {env : En} {S : Sto} : raiseS C f0 flds fa env S = (fa env S).toS env fun ds S1 => if ds.length = flds.length + 1 ∧ ds.length ≤ 1000 then .ex C ((f0 :: flds).zip ds).reverse env S1 else .bad := rfl
@[simp] theorem v_lrg {env : En} {S : Sto} : newDF env S = .ok (.ref S.length) (S ++ [.dct false []]) := rfl
@[simp] theorem v_fmt {f : FE} {env : En} {S : Sto} : fmtF f env S = (f env S).bind fun d S1 => match d with
  | .str y => if y.length ≤ 16777216 then .ok (.str y) S1 else .bad
  | .int i => if i.natAbs.log2 < 1920 then .ok (.str (toString i)) S1 else .bad
  | _ => .bad := rfl
@[simp] theorem v_jn0 {acc : Str} {env : En} {S : Sto} : jnF [] acc env S = .ok (.str acc) S := rfl
@[simp] theorem v_jn {f : FE} {fs : List FE} {acc : Str} {env : En} {S : Sto} : jnF (f :: fs) acc env S = (f env S).bind fun d S1 => match d with
    | .str y => if (acc ++ y).length ≤ 16777216 then jnF fs (acc ++ y) env S1 else .bad
    | _ => .bad := rfl
@[simp] theorem v_rev {fa : FE} {env : En} {S : Sto} : revF fa env S = (fa env S).bind fun x S1 => match lstD S1 x with
  | some xs => .ok (.tml xs.reverse) S1
  | none => .bad := rfl
@[simp] theorem v_yes {env : En} {S : Sto} : yesF env S = .ok true S := rfl
/-- data that may be compared -/
theorem v_eqd {x y : D} {S : Sto} {p q : PyData} (h0 : eqS x y = none) (hx : pdS S x = some p) (hy : pdS S y = some q) (sp : SeqAt.shaped p = true) (sq : SeqAt.shaped q = true) : pEq x y S = some (PyData.eqv p q) := by
  unfold pEq
  rw [h0, hx, hy]
  dsimp only
  rw [sp, sq]
  rfl
theorem sh_str {x : Str} (hx : PyData.strOk x = true) : SeqAt.shaped (PyData.str x) = true := by
  unfold SeqAt.shaped PyData.canLay0 PyData.depth
  rw [hx]
  rfl
theorem beq_dec {α : Type} [BEq α] [LawfulBEq α] [DecidableEq α] (i j : α) : (i == j) = decide (i = j) := by
  by_cases h : i = j <;> simp [h]
@[simp] theorem v_eqi {i j : Int} {S : Sto} : pEq (.int i) (.int j) S = some (decide (i = j)) := rfl
@[simp] theorem v_nei {i j : Int} {S : Sto} : pNe (.int i) (.int j) S = some (!decide (i = j)) := rfl
@[simp] theorem v_eqs {i j : Str} {S : Sto} : pEq (.str i) (.str j) S = some (decide (i = j)) := rfl
@[simp] theorem v_nes {i j : Str} {S : Sto} : pNe (.str i) (.str j) S = some (!decide (i = j)) := rfl
@[simp] theorem v_tup' {ds : List D} {S : Sto} : tyOfD (.tup ds) S = some "tuple" := rfl
@[simp] theorem v_tstr {x : Str} {S : Sto} : tyOfD (.str x) S = some "str" := rfl
@[simp] theorem v_tint {x : Int} {S : Sto} : tyOfD (.int x) S = some "int" := rfl
@[simp] theorem v_tbl {x : Bool} {S : Sto} : tyOfD (.bl x) S = some "bool" := rfl
@[simp] theorem v_tnon {S : Sto} : tyOfD .non S = some "NoneType" := rfl
@[simp] theorem v_isi {d : D} {n : String} {S : Sto} : gIsi [d, .ty n] S = match tyOfD d S with
    | some T => (match isiB T n with
      | some b => .ok (.bl b) S
      | none => .bad)
    | none => .bad := rfl
@[simp] theorem v_isi1 : isiB "tuple" "tuple" = some true := by decide +kernel
@[simp] theorem v_isi2 : isiB "str" "str" = some true := by decide +kernel
@[simp] theorem v_isi3 : isiB "int" "int" = some true := by decide +kernel
@[simp] theorem v_isi4 : isiB "int" "bool" = some false := by decide +kernel
@[simp] theorem v_isi5 : isiB "bool" "int" = some true := by decide +kernel
@[simp] theorem v_isi6 : isiB "bool" "bool" = some true := by decide +kernel
@[simp] theorem v_isi7 : isiB "NoneType" "str" = some false := by decide +kernel
@[simp] theorem v_isi8 : isiB "int" "str" = some false := by decide +kernel
@[simp] theorem v_isi9 : isiB "bool" "str" = some false := by decide +kernel
@[simp] theorem v_isi10 : isiB "tuple" "str" = some false := by decide +kernel
@[simp] theorem v_isi11 : isiB "list" "str" = some false := by decide +kernel
@[simp] theorem v_isi12 : isiB "dict" "str" = some false := by decide +kernel
@[simp] theorem v_lenS {z : Str} {S : Sto} : gLen [.str z] S = if z.length ≤ 16777216 then .ok (.int z.length) S else .bad := rfl
@[simp] theorem v_lenT {z : List D} {S : Sto} : gLen [.tup z] S = .ok (.int z.length) S := rfl
@[simp] theorem v_lenR {z : List D} {S : Sto} : gLen [.rls z] S = .ok (.int z.length) S := rfl
@[simp] theorem v_lenM {z : List D} {S : Sto} : gLen [.tml z] S = .ok (.int z.length) S := rfl
@[simp] theorem v_intB {b : Bool} {S : Sto} : gInt [.bl b] S = .ok (.int (if b then 1 else 0)) S := rfl
@[simp] theorem v_tyS {z : Str} {S : Sto} : tyD "str" (.str z) S = true := rfl
theorem enD_eq {n : Nat} {ds : List D} : enD n ds = ds.map some ++ List.replicate (n - ds.length) none := rfl
theorem bodyF_eq {n : Nat} {h : FS} {ds : List D} {S : Sto} : bodyF n h ds S = match h (enD n ds) S with
  | .rt d S' => .ok d S'
  | .nx _ S' => .ok .non S'
  | .ex C fs _ S' => .ex C fs S'
  | _ => .bad := rfl
theorem body_rt {n : Nat} {h : FS} {ds : List D} {S S' : Sto} {d : D} (e : h (enD n ds) S = .rt d S') : bodyF n h ds S = .ok d S' := by rw [bodyF_eq, e]
theorem body_ex {n : Nat} {h : FS} {ds : List D} {S S' : Sto} {C : Str} {fs : List (Str × D)} {en : En} (e : h (enD n ds) S = .ex C fs en S') : bodyF n h ds S = .ex C fs S' := by rw [bodyF_eq, e]
/-- a def that makes nothing and hands back plain data -/
theorem fn_same {n : Nat} {h : FS} {ds : List D} {S : Sto} {d : D} (e : h (enD n ds) S = .rt d S) (hp : plD d = true) (hb : noRef d = true) : wrapF (bodyF n h) ds S = .ok d S :=
  wrap_same (body_rt e) hp (bel_of hb)
theorem fn_app {n : Nat} {h : FS} {ds : List D} {S J : Sto} {d : D} (e : h (enD n ds) S = .rt d (S ++ J)) (hp : plD d = true) (hb : noRef d = true) : wrapF (bodyF n h) ds S = .ok d S :=
  wrap_app (body_rt e) hp (bel_of hb)
theorem toPs_ints : ∀ l : List Int, toPs (l.map D.int) = some (l.map .int)
  | [] => rfl
  | b :: l => by unfold toPs; simp only [List.map_cons]; rw [toPs_ints l]; rfl
theorem toPs_strs : ∀ l : List Str, toPs (l.map D.str) = some (l.map .str)
  | [] => rfl
  | b :: l => by unfold toPs; simp only [List.map_cons]; rw [toPs_strs l]; rfl
theorem noRefs_ints (l : List Int) : noRefs (l.map D.int) = true := noRefs_map _ (fun _ => rfl) l
theorem noRefs_strs (l : List Str) : noRefs (l.map D.str) = true := noRefs_map _ (fun _ => rfl) l
end Ah

set_option maxHeartbeats 2000000
namespace Ah
open PySem PySem.Spec PyProof.Rows L2
/-! ### str of a number or a text -/
def gStrA : FC := fun ds S => match ds with
  | [.int i] => if i.natAbs.log2 < 1920 then .ok (.str (toString i)) S else .bad
  | [.str x] => .ok (.str x) S
  | _ => .bad
abbrev rStrA : List V → Hp → VK → Prop := fun xs H Q => (∃ i, xs = [.int i] ∧ i.natAbs.log2 < 1920 ∧ Q (.str (toString i)) H) ∨ ∃ a, xs = [.str a] ∧ Q (.str a) H
theorem cr_strA {X : Cx} : CallR X (.type "str") rStrA := CallR.or call_str_int SkE.call_str_str
theorem ac_strA {K : PySem.W.Frag} : AdC K rStrA gStrA := by
  intro W σ m e S H0 H ds vs Q he s r k
  unfold gStrA at k
  split at k
  · obtain ⟨v, rfl, rv⟩ := vxs1 r
    split at k
    · rename_i hz
      exact .inl ⟨_, by rw [vx_int rv], hz, k.fin s he _ vr_str⟩
    · exact k.elim
  · obtain ⟨v, rfl, rv⟩ := vxs1 r
    exact .inr ⟨_, by rw [vx_str rv], k.fin s he _ vr_str⟩
  · exact k.elim
@[simp] theorem v_strI {i : Int} {S : Sto} : gStrA [.int i] S = if i.natAbs.log2 < 1920 then .ok (.str (toString i)) S else .bad := rfl
@[simp] theorem v_strS {x : Str} {S : Sto} : gStrA [.str x] S = .ok (.str x) S := rfl
end Ah

set_option maxHeartbeats 2000000
namespace Ah
open PySem PySem.Spec PyProof.Rows L2

/-! ### what is never reached -/
def nevE : FE := fun _ _ => .bad
def nevI : FI := fun _ _ => .bad
section
variable {X : Cx} {W : WX} {e : Expr}
theorem se_never : SE X W e nevE := ⟨fun pins s σ H Q I ⟨m, env, S, _, _, k⟩ => k.elim⟩
theorem sx_never : SX X W e nevE := ⟨fun pins s σ H Q I ⟨m, env, S, _, _, k⟩ => k.elim⟩
end

/-! ### a block's own things are let go at its end -/
/-- what stands in the slots ws, and what was made within, is let go -/
def belE (n : Nat) (env : En) : Bool := env.all fun o => match o with
  | some d => d.bel n
  | none => true
open Classical in
noncomputable def gcS (ws : List Nat) (b : FS) : FS := fun env S => match b env S with
  | .nx e S' => if Kept S S' ∧ belE S.length (wipeE e ws) = true then .nx (wipeE e ws) (S'.take S.length) else .bad
  | .ct e S' => if Kept S S' ∧ belE S.length (wipeE e ws) = true then .ct (wipeE e ws) (S'.take S.length) else .bad
  | r => r
theorem wipeE_sub {env : En} {d : D} : ∀ (ws : List Nat) {i : Nat}, (wipeE env ws)[i]? = some (some d) → env[i]? = some (some d)
  | [], _, h => h
  | w :: ws, i, h => by
    unfold wipeE at h
    by_cases e : w = i
    · subst e
      by_cases hl : w < (wipeE env ws).length
      · rw [List.getElem?_set_self hl] at h
        cases h
      · rw [List.getElem?_eq_none (by simp; omega)] at h
        cases h
    · rw [List.getElem?_set_ne e] at h
      exact wipeE_sub ws h
theorem wipeE_length {env : En} : ∀ (ws : List Nat), (wipeE env ws).length = env.length
  | [] => rfl
  | w :: ws => by show ((wipeE env ws).set w none).length = _; rw [List.length_set, wipeE_length ws]
theorem ER.wipeE {K : PySem.W.Frag} {m : List Addr} {H : Hp} {env : En} {σ : L2.St} (h : ER K m H env σ) (ws : List Nat) : ER K m H (wipeE env ws) σ :=
  ⟨by rw [wipeE_length]; exact h.1, fun i d q => h.2 i d (wipeE_sub ws q)⟩
theorem ER.low {K : PySem.W.Frag} {m e : List Addr} {H : Hp} {env : En} {σ : L2.St} (h : ER K (m ++ e) H env σ) (b : belE m.length env = true) : ER K m H env σ :=
  ⟨h.1, fun i d q => by
    obtain ⟨v, a, r⟩ := h.2 i d q
    unfold belE at b
    have := List.all_eq_true.mp b (some d) (List.mem_of_getElem? q)
    exact ⟨v, a, r.low this⟩⟩
theorem ks_gc {K : PySem.W.Frag} {W : WX} {Dn : Ends} {m : List Addr} {H : Hp} {S : Sto} {env : En} {ws : List Nat} {b : FS} (s0 : Sim K m S H) (k : KS K W Dn m H (gcS ws b env S)) : KS K W Dn m H (b env S) := by
  unfold gcS at k
  cases q : b env S with
  | nx e1 S' =>
    rw [q] at k
    dsimp only at k
    split at k
    · rename_i h
      intro σ' H' e s' he er
      have := k σ' H' [] (by simpa using s0.low s' h.1) he.low
      rw [List.append_nil] at this
      exact this ((er.wipeE ws).low (by rw [s0.len]; exact h.2))
    · exact k.elim
  | ct e1 S' =>
    rw [q] at k
    dsimp only at k
    split at k
    · rename_i h
      intro σ' H' e s' he er
      have := k σ' H' [] (by simpa using s0.low s' h.1) he.low
      rw [List.append_nil] at this
      exact this ((er.wipeE ws).low (by rw [s0.len]; exact h.2))
    · exact k.elim
  | rt => rw [q] at k; exact k
  | bk => rw [q] at k; exact k
  | ex => rw [q] at k; exact k
  | bad => rw [q] at k; exact k
section
variable {X : Cx} {W : WX} {st : Stmt} {sts : List Stmt} {b : FS} {ws : List Nat}
theorem ss_gc (h : SS X W st b) : SS X W st (gcS ws b) := ps_imp h fun Dn σ H ⟨m, env, S, s, er, k⟩ => ⟨m, env, S, s, er, ks_gc s k⟩
theorem sss_gc (h : SSs X W sts b) : SSs X W sts (gcS ws b) := pss_imp h fun Dn σ H ⟨m, env, S, s, er, k⟩ => ⟨m, env, S, s, er, ks_gc s k⟩
/-- slots are wiped ahead of a statement -/
def wpS (ws : List Nat) (b : FS) : FS := fun env S => b (wipeE env ws) S
theorem ss_wp (h : SS X W st b) : SS X W st (wpS ws b) := ps_imp h fun Dn σ H ⟨m, env, S, s, er, k⟩ => ⟨m, wipeE env ws, S, s, er.wipeE ws, k⟩
end

/-! ### x op= e -/
abbrev FIp := Op2
def augS (i : Nat) (op : Op2) (f : FE) : FS := fun env S => match env[i]? with
  | some (some x) => (f env S).toS env fun y S1 => (op x y S1).toS env fun z S2 => .nx (env.set i (some z)) S2
  | _ => .bad
def AdI (K : PySem.W.Frag) (ti : TIp) (op : Op2) : Prop :=
  ∀ (W : WX) (σ : L2.St) (m e : List Addr) (S : Sto) (H0 H : Hp) (x y : D) (v u : V) (Q : VK), HE m e H0 H → Sim K (m ++ e) S H → VR K (m ++ e) H x v → VX K H0 (m ++ e) H y u → KG K W σ (PQ K Q) m H0 (op x y S) → ti v u H Q
theorem ss_aug {X : Cx} {W : WX} {i : Nat} {x : Str} {e : Expr} {op : Operator} {ti : TIp} {f : FE} {o : Op2} {pos pos' : Pos} (hN : X.N.Nodup) (hi : X.N[i]? = some x) (hx : Loc X.env.scope x) (ho : PIp X op ti) (ad : AdI X.K ti o) (he : SX X W e f)
    (hf : X.fn x = true ∨ X.env.scope.names.lookup x = some .local := by first | exact .inl rfl | exact .inr rfl | assumption) : SS X W (.AugAssign (.Name x pos') op e pos) (augS i o f) :=
  ps_imp (ps_aug hN hi hx he ho hf) fun Dn σ H ⟨m, env, S, s, er, k⟩ => by
    unfold augS at k
    split at k
    · rename_i d q
      obtain ⟨v, e1, r⟩ := er.2 i d q
      refine ⟨v, e1, m, env, S, s, er, k.ex0 er fun e1 H1 S1 y s1 he1 k1 u ur => ?_⟩
      cases q2 : o d y S1 with
      | ok z S2 =>
        rw [q2] at k1
        refine ad W σ m e1 S1 H H1 d y v u _ he1 s1 (r.on he1) ur ?_
        rw [q2]
        intro H2 e2 s2 he2 w wr
        exact k1 _ H2 e2 s2 he2 ((er.on he2).set wr)
      | ex C fs S2 =>
        rw [q2] at k1
        refine ad W σ m e1 S1 H H1 d y v u _ he1 s1 (r.on he1) ur ?_
        rw [q2]
        exact fun dd H2 e2 s2 he2 xx => k1 dd σ H2 e2 s2 he2 (er.on he2) xx
      | bad => rw [q2] at k1; exact k1.elim
    · exact k.elim
section
variable {K : PySem.W.Frag}
theorem ai_add : AdI K (ipI fun i j => i + j) oAdd := by
  intro W σ m e S H0 H x y v u Q he s rx ry k
  unfold oAdd ii0 at k
  split at k
  · rename_i i j
    exact ⟨i, j, vx_int (VX.of (H0 := H) rx), vx_int ry, k.fin s he _ vr_int⟩
  · exact k.elim
theorem ai_sub : AdI K (ipI fun i j => i - j) oSub := by
  intro W σ m e S H0 H x y v u Q he s rx ry k
  unfold oSub ii0 at k
  split at k
  · rename_i i j
    exact ⟨i, j, vx_int (VX.of (H0 := H) rx), vx_int ry, k.fin s he _ vr_int⟩
  · exact k.elim
end
/-! tuple += tuple -/
theorem no_iadd_tup : typeLookup (.type "tuple") (dunderI "add") = pure none := by first | rfl | decide +kernel | kernel_rfl
section
variable {prog : Program} {w : World} {A : Around} {E : Value → Shared → Prop} {s : Shared}
theorem iconcat_meets {T id : String} {B : Builtin} {a b : Value} {S : PySem.Spec} {Q : Value → Shared → Prop} (ha : s.TypeIs a T) (hb : s.TypeIs b T) (hno : typeLookup (.type T) (dunderI "add") = pure none)
    (hfill : fillsNumberSlot (.type T) "add" = pure false) (hseq : seqSlot? (.type T) "__add__" = pure (some (.builtin id))) (slot : Slot T "__add__" id)
    (entry : entryFor table id = some B) (args : argsOk id ⟨[a, b], []⟩) (g : Meets (B ⟨[a, b], []⟩) S) (h : S A (wants Q E) s) : wpAny (model prog w) A (inplaceOp .Add a b) Q E s :=
  wpAny_inplaceOp_concat ha hb hno hfill hseq (call_meets slot ha entry args g h)
theorem icat_tup {t b : Addr} {vs ws : List Value} {Q : Value → Shared → Prop} (ht : IsTup s.heap t vs.toArray) (hb : IsTup s.heap b ws.toArray) (h0 : vs = [] → Q (.ref b) s)
    (h1 : vs ≠ [] → ws = [] → Q (.ref t) s) (h2 : vs ≠ [] → ws ≠ [] → Q (.ref s.heap.objs.size) { s with heap := s.heap.push { cls := .type "tuple", data := .seq (vs ++ ws).toArray } })
    (hsz : vs.length + ws.length ≤ sizeLine) : wpAny (model prog w) A (inplaceOp .Add (.ref t) (.ref b)) Q E s := by
  obtain ⟨⟨cls, dd, data, sl⟩, ho, hc, n, hd⟩ := id ht
  obtain ⟨⟨cls2, dd2, data2, sl2⟩, ho2, hc2, n2, hd2⟩ := id hb
  simp only at hc hd hc2 hd2
  subst hc hd hc2 hd2
  have e : vs.toArray ++ ws.toArray = (vs ++ ws).toArray := by simp
  by_cases hv : vs = []
  · subst hv
    exact iconcat_meets ⟨_, ho, rfl⟩ ⟨_, ho2, rfl⟩ no_iadd_tup noFill_tuple_add seq_tuple_add PySem.F.slot_tuple_add PySem.F.entry_tuple_add (PySem.F.args_tuple_add_2 _ _)
      (tuple_addW0 t b ([] : List Value).toArray ws.toArray n n2 dd dd2 sl sl2 (by simp)) ⟨ho, ho2, h0 rfl⟩
  · by_cases hw : ws = []
    · exact iconcat_meets ⟨_, ho, rfl⟩ ⟨_, ho2, rfl⟩ no_iadd_tup noFill_tuple_add seq_tuple_add PySem.F.slot_tuple_add PySem.F.entry_tuple_add (PySem.F.args_tuple_add_2 _ _)
        (tuple_addW1 t b vs.toArray ws.toArray n n2 dd dd2 sl sl2 (by simpa using hv) (by simp [hw])) ⟨ho, ho2, h1 hv hw⟩
    · refine iconcat_meets ⟨_, ho, rfl⟩ ⟨_, ho2, rfl⟩ no_iadd_tup noFill_tuple_add seq_tuple_add PySem.F.slot_tuple_add PySem.F.entry_tuple_add (PySem.F.args_tuple_add_2 _ _)
        (tuple_addW2 t b vs.toArray ws.toArray n n2 dd dd2 sl sl2 (by simpa using hv) (by simpa using hw) (by rw [List.size_toArray, List.size_toArray]; exact hsz)) ⟨ho, ho2, ?_⟩
      rw [e]
      exact h2 hv hw
end
/-- tuple += tuple, list += list, numbers, texts -/
abbrev tiA (K : PySem.W.Frag) : TIp := fun x y H Q => ((rI0 (fun i j => .int (i + j)) x y H Q ∨ ∃ i j, x = .str i ∧ y = .str j ∧ i.length + j.length ≤ sizeLine ∧ Q (.str (i ++ j)) H) ∨ rCatA K x y H Q) ∨ rExt2 x y H Q
theorem pip_of {X : Cx} {op : Operator} {r : R2} (h : OpR X (inplaceOp op) r) : PIp X op r := fun pins s σ H x y v u Q I r1 r2 q => h pins s σ H x y v u Q I r1 r2 q
theorem iop_catA {X : Cx} : OpR X (inplaceOp .Add) (rCatA X.K) := by
  intro pins s σ H x y v u Q I rx ry h
  obtain ⟨a, b, xs, ys, rfl, rfl, ha, hb, hz, q0, q1, q2⟩ := h
  cases rx
  cases ry
  obtain ⟨its, r1, p1, _⟩ := I.tuple ha
  obtain ⟨its2, r2, p2, _⟩ := I.tuple hb
  have nil1 : ∀ {xs : List V} {us : List Value}, Vals xs us → (us = [] ↔ xs = []) := fun {xs us} r => by
    cases r with
    | nil => simp
    | cons => simp
  refine icat_tup p1 p2 (fun z => ⟨.ref b, H, I, rfl, q0 ((nil1 r1).mp z)⟩) (fun z1 z => ⟨.ref a, H, I, rfl, q1 (fun w => z1 ((nil1 r1).mpr w)) ((nil1 r2).mp z)⟩) (fun z1 z => ?_) (by rw [← r1.length, ← r2.length]; exact hz)
  refine ⟨.ref s.heap.objs.size, _, I.laid (t' := s.toks) (o := .tup (xs ++ ys)) (fun b ob q => Heap.get?_push_of_some _ q) (Nat.le_refl _) ?_, rfl, q2 (fun w => z1 ((nil1 r1).mpr w)) (fun w => z ((nil1 r2).mpr w)) _ (I.hok.fresh (Nat.le_refl _))⟩
  exact ⟨by rw [List.length_append]; exact hz, _, r1.append r2, IsTup.new _ _⟩
theorem ip_A {X : Cx} : PIp X .Add (tiA X.K) := pip_of (((iop_add.or iop_add_str).or iop_catA).or iop_ext)
/-- += : a list grows in place -/
def oAug : Op2 := fun x y S => match x, y with
  | .int i, .int j => .ok (.int (i + j)) S
  | .str i, .str j => if i.length + j.length ≤ 16777216 then .ok (.str (i ++ j)) S else .bad
  | .tup xs, .tup ys => if xs.length + ys.length ≤ 16777216 then .ok (.tup (xs ++ ys)) S else .bad
  | .ref i, y => match S[i]?, mlsD S y with
    | some (.lst xs), some ys => if xs.length + ys.length ≤ 16777216 then .ok (.ref i) (S.set i (.lst (xs ++ ys))) else .bad
    | _, _ => .bad
  | _, _ => .bad
theorem ai_A {K : PySem.W.Frag} : AdI K (tiA K) oAug := by
  intro W σ m e S H0 H x y v u Q he s rx ry k
  have rxx : VX K H0 (m ++ e) H x v := VX.of rx
  unfold oAug at k
  split at k
  · rename_i i j
    exact .inl (.inl (.inl ⟨i, j, vx_int rxx, vx_int ry, k.fin s he _ vr_int⟩))
  · rename_i i j
    split at k
    · rename_i hz
      exact .inl (.inl (.inr ⟨i, j, vx_str rxx, vx_str ry, by rw [sizeLine_eq]; exact hz, k.fin s he _ vr_str⟩))
    · exact k.elim
  · rename_i xs ys
    split at k
    · rename_i hz
      obtain ⟨p, us, rfl, sp, rp⟩ := tup_ok rxx
      obtain ⟨q, ws, rfl, sq, rq⟩ := tup_ok ry
      refine .inl (.inr ⟨p, q, us, ws, rfl, rfl, sp, sq, by rw [rp.length, rq.length, sizeLine_eq]; exact hz, fun z => ?_, fun z1 z => ?_, fun z1 z r hr => ?_⟩)
      · subst z
        have : xs = [] := by
          have := rp.length
          exact List.eq_nil_of_length_eq_zero (by simpa using this.symm)
        subst this
        exact k.fin s he _ (ry.vr fun _ z => by cases z)
      · subst z
        have : ys = [] := by
          have := rq.length
          exact List.eq_nil_of_length_eq_zero (by simpa using this.symm)
        subst this
        rw [List.append_nil] at k
        exact k.fin s he _ rx
      · exact k.fin (s.other hr) (he.beside hr) _ (vr_tup hr (rp.append rq))
    · exact k.elim
  · rename_i i
    split at k
    · rename_i xs ys h1 h2
      split at k
      · rename_i hz
        obtain ⟨a, us, rfl, ha, hp, rp⟩ := ref_lst s rxx h1
        obtain ⟨b, ws, rfl, hb, rq⟩ := mls_ok s ry h2
        refine .inr ⟨a, b, us, ws, rfl, rfl, hp, hb, by rw [rp.length, rq.length, sizeLine_eq]; exact hz, ?_⟩
        obtain ⟨s2, he2, _⟩ := lst_put (ys := us ++ ws) (es := xs ++ ys) s he ha hp (rp.append rq)
        exact k.fin s2 he2 _ (by unfold VR; exact ⟨a, ha, rfl⟩)
      · exact k.elim
    · exact k.elim
  · exact k.elim
end Ah

set_option maxHeartbeats 2000000
namespace Ah
open PySem PySem.Spec PyProof.Rows L2
end Ah

set_option maxHeartbeats 4000000
namespace Ah
open PySem PySem.Spec PyProof.Rows L2 PySem.NumText
/-! from P84 -/
theorem depthAll_strs : ∀ ys : List Str, PyData.depthAll (ys.map .str) ≤ 1
  | [] => by simp [PyData.depthAll]
  | y :: ys => by have := depthAll_strs ys; simp [PyData.depthAll, PyData.depth]; omega
theorem sh_strs {ys : List Str} (h : ∀ y ∈ ys, PyData.strOk y = true) : SeqAt.shaped (PyData.list (ys.map .str)) = true := by
  unfold SeqAt.shaped PyData.canLay0
  rw [canLayAll_strs']
  have := depthAll_strs ys
  have h1 : ys.all PyData.strOk = true := List.all_eq_true.mpr h
  rw [h1]
  simp [PyData.depth]
  omega
theorem pEq_strs0 {ys : List Str} {S : Sto} (h : ∀ y ∈ ys, PyData.strOk y = true) : pEq (.tml (ys.map .str)) (.tml []) S = some ys.isEmpty := by
  rw [v_eqd (p := .list (ys.map .str)) (q := .list []) rfl (by simp [pdS, toPs_strs]) (by simp [pdS, toPs]) (sh_strs h) (by rfl)]
  cases ys <;> simp [PyData.eqv, PyData.eqvAll]
theorem ok_chr {x : Str} (h : PyData.strOk x = true) {c : Nat} (hc : c ∈ x.cps.toList) : PyData.strOk ⟨#[c]⟩ = true := by
  unfold PyData.strOk at h ⊢
  have := Array.all_eq_true'.mp h c (by simpa using hc)
  simpa using this
/-! from P84c -/
theorem at0 {S J : Sto} {a : Ob} : (S ++ a :: J)[S.length]? = some a := by simp
theorem at1 {S J : Sto} {a b : Ob} : (S ++ a :: b :: J)[S.length + 1]? = some b := by
  rw [List.getElem?_append_right (by omega)]
  simp
theorem set0 {S J : Sto} {a c : Ob} : (S ++ a :: J).set S.length c = S ++ c :: J := by simp
theorem set1 {S J : Sto} {a b c : Ob} : (S ++ a :: b :: J).set (S.length + 1) c = S ++ a :: c :: J := by
  rw [List.set_append_right _ _ (by omega)]
  simp
@[simp] theorem v_enmi {f : FA} {env : En} {S : Sto} : enmI f env S = (f env S).bind fun ds S1 => match ds with
  | [.str _] => .bad
  | [d] => (match itemsOf d S1 with
    | some w => .ok ⟨enmD w.items, w.safe⟩ S1
    | none => .bad)
  | _ => .bad := rfl
@[simp] theorem v_for {fi : FI} {g : FTg} {b : FS} {env : En} {S : Sto} : forS fi g b env S = (fi env S).toS env fun w S1 => open Classical in if w.safe S1 then loopF g w.safe b w.items env S1 else .bad := by
  unfold forS
  rfl
theorem enm_cons {d : D} {ds : List D} {k : Nat} : ((d :: ds).zipIdx k).map (fun p => D.tup [.int ((p.2 : Nat) : Int), p.1]) = .tup [.int (k : Int), d] :: (ds.zipIdx (k + 1)).map fun p => D.tup [.int ((p.2 : Nat) : Int), p.1] := by
  simp [List.zipIdx_cons]
/-! from P84f -/
@[simp] theorem v_xf {i : Nat} {a : Addr} {d : Option Addr} {k : Nat} {f : Str} {env : En} {S : Sto} : xfF i a d k f env S = match env[i]?, d with
  | some (some (.adr b)), some dd => if b = a then (match S[k]? with
    | some (.xd d' fs) => if d' = dd then (match fs.lookup f with
      | some v => .ok v S
      | none => .bad) else .bad
    | _ => .bad) else .bad
  | _, _ => .bad := rfl
theorem wrap_mk {n : Nat} {h : FS} {ds : List D} {S J : Sto} {i : Nat} {xs : List D} (e : h (enD n ds) S = .rt (.ref i) (S ++ J)) (hi : S.length ≤ i) (hx : (S ++ J)[i]? = some (.lst xs)) (hb : noRefs xs = true) : wrapF (bodyF n h) ds S = .ok (.tml xs) S := by
  rw [wrap_ls (body_rt e) (kept_app S J) hi hx (bels_of hb)]
  simp
/-! from P84i -/
theorem lcGo_map {α : Type} {g : FTg} {t : FT} {fe : FE} {safe : Sto → Prop} {env : En} {S : Sto} {f h : α → D} (hs : safe S) : ∀ (l : List α) (acc : List D), acc.length + l.length ≤ 16777216 →
    (∀ a ∈ l, ∃ e1, g (f a) env = some e1 ∧ t e1 S = .ok true S ∧ fe e1 S = .ok (h a) S) → lcGo g t fe safe env (l.map f) acc S = .ok (.tml (acc ++ l.map h)) S
  | [], acc, _, _ => by unfold lcGo; simp
  | a :: l, acc, hl, hd => by
    obtain ⟨e1, h1, h2, h3⟩ := hd a (by simp)
    simp only [List.length_cons] at hl
    rw [List.map_cons]
    unfold lcGo
    rw [h1]
    dsimp only
    rw [h2]
    dsimp only
    rw [h3]
    dsimp only
    rw [if_pos ⟨by omega, hs⟩, lcGo_map hs l (acc ++ [h a]) (by simp; omega) fun b hb => hd b (List.mem_cons_of_mem _ hb)]
    simp
theorem lc_map {α : Type} {fi : FI} {g : FTg} {t : FT} {fe : FE} {vs : List Nat} {env : En} {S : Sto} {l : List α} {safe : Sto → Prop} (f h : α → D) (hi : fi env S = .ok ⟨l.map f, safe⟩ S) (hs : safe S) (hl : l.length ≤ 16777216)
    (hd : ∀ a ∈ l, ∃ e1, g (f a) (wipeE env vs) = some e1 ∧ t e1 S = .ok true S ∧ fe e1 S = .ok (h a) S) : lcF fi g t fe vs env S = .ok (.tml (l.map h)) S := by
  unfold lcF
  rw [hi]
  dsimp only [R.bind]
  rw [if_pos hs, lcGo_map hs l [] (by simpa using hl) hd]
  simp
@[simp] theorem v_seqI {f : FE} {env : En} {S : Sto} : seqI f env S = (f env S).bind fun d S1 => match itemsOf d S1 with
  | some w => .ok w S1
  | none => .bad := rfl
@[simp] theorem v_rng1 {f : FA} {env : En} {S : Sto} : rngI1 f env S = (f env S).bind fun ds S1 => match ds with
  | [.int j] => if -(2 ^ 62) ≤ j ∧ j < 2 ^ 62 then .ok ⟨rngD 0 j.toNat, Alw⟩ S1 else .bad
  | _ => .bad := rfl
@[simp] theorem alw_true {S : Sto} : Alw S = True := rfl
theorem log_ok {i : Int} (h0 : 0 ≤ i) (h1 : i < 10 ^ 10) : i.natAbs.log2 < 1920 := by
  by_cases h : i.natAbs = 0
  · rw [h]; decide
  · rw [Nat.log2_lt h]
    have : i.natAbs < 10 ^ 10 := by omega
    exact Nat.lt_of_lt_of_le this (by decide +kernel)
/-! from P84j -/
def stO (ns : List Int) (p q r : Int) : Ob := .lst [.rls (ns.map .int), .int p, .int q, .int r]
theorem stO_bel {ns : List Int} {p q r : Int} {n : Nat} : (stO ns p q r).bel n = true := by
  show D.bels n _ = true
  apply bels_of
  show (noRef (.rls (ns.map .int)) && true) = true
  rw [show noRef (.rls (ns.map .int)) = noRefs (ns.map .int) by unfold noRef; rfl, noRefs_ints]
  rfl
theorem kept_st {ns : List Int} {p q r p' q' r' : Int} {T J : Sto} : Kept (stO ns p q r :: T) (stO ns p' q' r' :: (T ++ J)) := by
  refine ⟨by simp, fun i o hi h => ?_⟩
  cases i with
  | zero => cases h; exact .inr stO_bel
  | succ i =>
    left
    simp only [List.getElem?_cons_succ, List.length_cons] at h hi ⊢
    rwa [List.getElem?_append_left (by omega)] at h
theorem depthAll_ints : ∀ ys : List Int, PyData.depthAll (ys.map .int) = 0
  | [] => rfl
  | y :: ys => by have := depthAll_ints ys; simp [PyData.depthAll, PyData.depth, this]
theorem canAll_ints : ∀ ys : List Int, PyData.canLayAll0 (ys.map .int) = true
  | [] => rfl
  | y :: ys => by have := canAll_ints ys; simp [PyData.canLayAll0, PyData.canLay0, this]
theorem sh_ints {ys : List Int} : SeqAt.shaped (PyData.list (ys.map .int)) = true := by
  unfold SeqAt.shaped PyData.canLay0
  rw [canAll_ints]
  have := depthAll_ints ys
  simp [PyData.depth, this]
theorem pNe_ints0 {ys : List Int} {S : Sto} : pNe (.rls (ys.map .int)) (.tml []) S = some (!ys.isEmpty) := by
  unfold pNe
  rw [v_eqd (p := .list (ys.map .int)) (q := .list []) rfl (by simp [pdS, toP, toPs_ints]) (by simp [pdS, toPs]) sh_ints (by rfl)]
  cases ys <;> simp [PyData.eqv, PyData.eqvAll]
theorem ix_ok {ds : List D} {j : Int} (h0 : 0 ≤ j) (h1 : j < ds.length) : ∃ d, ds[j.toNat]? = some d ∧ ∀ S, ixF (.rls ds) (.int j) S = .ok d S := by
  have hl : j.toNat < ds.length := by omega
  refine ⟨ds[j.toNat], List.getElem?_eq_getElem hl, fun S => ?_⟩
  simp [ixF, seqD, atI, ixN, h0, h1, hl]
theorem ix_ints {ns : List Int} {j : Int} (h0 : 0 ≤ j) (h1 : j < ns.length) : ∃ c, ∀ S, ixF (.rls (ns.map .int)) (.int j) S = .ok (.int c) S := by
  obtain ⟨d, hd, h⟩ := ix_ok (ds := ns.map .int) h0 (by simpa using h1)
  rw [List.getElem?_map] at hd
  cases hn : ns[j.toNat]? with
  | none => rw [hn] at hd; cases hd
  | some c =>
    rw [hn] at hd
    cases hd
    exact ⟨c, h⟩
theorem seq_nx {a b : FS} {env e : En} {S S1 : Sto} (h : a env S = .nx e S1) : seqS a b env S = b e S1 := by
  show (match a env S with
  | .nx e S1 => b e S1
  | r => r) = _
  rw [h]
/-- a state that may be drawn from -/
structure OkS (p q r : Int) : Prop where
  p : 0 ≤ p
  q : 0 ≤ q
  r0 : 0 ≤ r
  r1 : r < 2305843009213693951
theorem wrap_st {n : Nat} {h : FS} {ds : List D} {ns : List Int} {p q r p' q' r' : Int} {T J : Sto} {d : D} (e : h (enD n ds) (stO ns p q r :: T) = .rt d (stO ns p' q' r' :: (T ++ J))) (hp : plD d = true) (hb : noRef d = true) :
    wrapF (bodyF n h) ds (stO ns p q r :: T) = .ok d (stO ns p' q' r' :: T) := by
  rw [wrap_pl (body_rt e) kept_st hp (bel_of hb)]
  simp
/-! from P84k -/
theorem cut_hi {z : Str} {a : Int} (h : 0 ≤ a) : TL.tl (cutS z none (some a)) = (TL.tl z).take a.toNat := by
  show (((z.cps.toList.drop (HT.sIx z.length 0 none)).take (HT.sIx z.length z.length (some a) - HT.sIx z.length 0 none)).toArray).toList = _
  have hl : z.cps.toList.length = z.length := Array.length_toList
  unfold HT.sIx
  simp only [List.drop_zero, Nat.sub_zero]
  rw [if_neg (by omega)]
  by_cases hz : a.toNat ≤ z.length
  · rw [Nat.min_eq_left hz]
  · rw [Nat.min_eq_right (by omega), List.take_of_length_le (by omega), List.take_of_length_le (by rw [show TL.tl z = z.cps.toList from rfl]; omega)]
theorem cut_lo {z : Str} {a : Int} (h : 0 ≤ a) : TL.tl (cutS z (some a) none) = (TL.tl z).drop a.toNat := by
  show (((z.cps.toList.drop (HT.sIx z.length 0 (some a))).take (HT.sIx z.length z.length none - HT.sIx z.length 0 (some a))).toArray).toList = _
  have hl : z.cps.toList.length = z.length := Array.length_toList
  unfold HT.sIx
  simp only
  rw [if_neg (by omega)]
  by_cases hz : a.toNat ≤ z.length
  · rw [Nat.min_eq_left hz, List.take_of_length_le (by rw [List.length_drop]; omega)]
  · rw [Nat.min_eq_right (by omega), Nat.sub_self, List.take_zero, List.drop_eq_nil_of_le (by rw [show TL.tl z = z.cps.toList from rfl]; omega)]
/-- a comprehension whose value draws from the state -/
theorem lcGo_take {g : FTg} {fe : FE} {env : En} {ns : List Int} (P : D → Prop) : ∀ (items acc : List D) (p q r : Int), OkS p q r → acc.length + items.length ≤ 16777216 →
    (∀ d ∈ items, ∀ p q r, OkS p q r → ∃ y p' q' r' e1, OkS p' q' r' ∧ P y ∧ g d env = some e1 ∧ ∀ T, fe e1 (stO ns p q r :: T) = .ok y (stO ns p' q' r' :: T)) →
    ∃ ys p' q' r', OkS p' q' r' ∧ ys.length = items.length ∧ (∀ y ∈ ys, P y) ∧ ∀ T, lcGo g yesF fe Alw env items acc (stO ns p q r :: T) = .ok (.tml (acc ++ ys)) (stO ns p' q' r' :: T)
  | [], acc, p, q, r, ok, _, _ => ⟨[], p, q, r, ok, rfl, (fun y hy => by cases hy), fun T => by unfold lcGo; simp⟩
  | d :: ds, acc, p, q, r, ok, hl, h => by
    simp only [List.length_cons] at hl
    obtain ⟨y, p1, q1, r1, e1, ok1, hy, hg, hf⟩ := h d (by simp) p q r ok
    obtain ⟨ys, p2, q2, r2, ok2, h2, h3, h4⟩ := lcGo_take P ds (acc ++ [y]) p1 q1 r1 ok1 (by simp; omega) fun d' hd => h d' (by simp [hd])
    refine ⟨y :: ys, p2, q2, r2, ok2, by simp [h2], fun z hz => ?_, fun T => ?_⟩
    · rcases List.mem_cons.mp hz with rfl | hz
      · exact hy
      · exact h3 z hz
    · unfold lcGo
      rw [hg]
      simp only [v_yes]
      rw [hf T]
      dsimp only
      rw [if_pos ⟨by omega, trivial⟩, h4 T]
      simp
theorem lc_take {fi : FI} {g : FTg} {fe : FE} {vs : List Nat} {env : En} {ns : List Int} {p q r : Int} (P : D → Prop) {items : List D} (ok : OkS p q r) (hl : items.length ≤ 16777216)
    (h : ∀ d ∈ items, ∀ p q r, OkS p q r → ∃ y p' q' r' e1, OkS p' q' r' ∧ P y ∧ g d (wipeE env vs) = some e1 ∧ ∀ T, fe e1 (stO ns p q r :: T) = .ok y (stO ns p' q' r' :: T)) :
    ∃ ys p' q' r', OkS p' q' r' ∧ ys.length = items.length ∧ (∀ y ∈ ys, P y) ∧ ∀ p0 q0 r0 T, fi env (stO ns p0 q0 r0 :: T) = .ok ⟨items, Alw⟩ (stO ns p q r :: T) → lcF fi g yesF fe vs env (stO ns p0 q0 r0 :: T) = .ok (.tml ys) (stO ns p' q' r' :: T) := by
  obtain ⟨ys, p2, q2, r2, ok2, h2, h3, h4⟩ := lcGo_take (g := g) (fe := fe) (env := wipeE env vs) (ns := ns) P items [] p q r ok (by simpa using hl) h
  refine ⟨ys, p2, q2, r2, ok2, h2, h3, fun p0 q0 r0 T hi => ?_⟩
  unfold lcF
  rw [hi]
  dsimp only [R.bind]
  rw [if_pos (show Alw _ from trivial), h4 T]
  simp
theorem wrap_st_mk {n : Nat} {h : FS} {ds : List D} {ns : List Int} {p q r p' q' r' : Int} {T J : Sto} {i : Nat} {xs : List D} (e : h (enD n ds) (stO ns p q r :: T) = .rt (.ref i) (stO ns p' q' r' :: (T ++ J))) (hi : T.length + 1 ≤ i) (hx : (stO ns p' q' r' :: (T ++ J))[i]? = some (.lst xs)) (hb : noRefs xs = true) :
    wrapF (bodyF n h) ds (stO ns p q r :: T) = .ok (.tml xs) (stO ns p' q' r' :: T) := by
  rw [wrap_ls (body_rt e) kept_st hi hx (bels_of hb)]
  simp
/-! from P84l -/
def leT (a b : Str) : Bool := decide (a.cps.toList ≤ b.cps.toList)
theorem dataLe_strD (a b : Str) : PySem.W.dataLe false encD (.str a) (.str b) = leT a b := by
  have h1 := congrFun (congrFun (PySem.W.dataLe_str (β := Str) id) a) b
  rw [PySem.W.dataLe_eq] at h1 ⊢
  have e : ∀ x : Str, encD (.str x) = .str x := fun x => by simp [encD, toP]
  simp only [e]
  exact h1
def sortT (ss : List Str) : List Str := ss.mergeSort leT
theorem sorted_strs {ss : List Str} : ∀ {S : Sto}, gSorted [.tml (ss.map .str)] S = .ok (.tml ((sortT ss).map .str)) S := by
  intro S
  have e : ∀ x : Str, encD (.str x) = .str x := fun x => by simp [encD, toP]
  have c : (∀ x ∈ ss.map D.str, (toP x).isSome = true ∧ (encD x).depth ≤ 60) ∧ PySem.W.AllAlike ((ss.map D.str).map encD) ∧ PySem.W.Sortable ((ss.map D.str).map encD) ∧ (lstD S (.tml (ss.map D.str))).isSome = true := by
    rw [List.map_map]
    refine ⟨fun x hx => ?_, PySem.W.AllAlike.of fun a b => ?_, PySem.W.Sortable.others fun a => ?_, rfl⟩
    · obtain ⟨s, _, rfl⟩ := List.mem_map.mp hx
      rw [e]
      exact ⟨by simp [toP], by simp [PyData.depth]⟩
    · show PySem.W.alike (encD (.str a)) (encD (.str b)) = true
      rw [e, e]
      simp [PySem.W.alike]
    · show encD (.str a) ≠ _ ∧ ∀ xs, encD (.str a) ≠ _
      rw [e]
      exact ⟨by simp, by simp⟩
  unfold gSorted
  simp only [seqD]
  rw [if_pos c]
  congr 2
  unfold sortT
  rw [List.map_mergeSort (s := PySem.W.dataLe false encD) fun a _ b _ => (dataLe_strD a b).symm]
theorem sortT_perm (ss : List Str) : (sortT ss).Perm ss := List.mergeSort_perm _ _
theorem sortT_lt {ss : List Str} (hn : ss.Nodup) : (sortT ss).Pairwise fun a b => ltL a b = true := by
  have h1 : (sortT ss).Pairwise fun a b => leT a b = true := List.pairwise_mergeSort (le := leT)
    (fun a b c h1 h2 => by
      unfold leT at *
      exact decide_eq_true (List.le_trans (of_decide_eq_true h1) (of_decide_eq_true h2)))
    (fun a b => by
      unfold leT
      rcases List.le_total a.cps.toList b.cps.toList with h | h
      · rw [decide_eq_true h]; rfl
      · rw [decide_eq_true h]; simp) ss
  have h2 : (sortT ss).Nodup := (sortT_perm ss).nodup_iff.mpr hn
  refine (List.Pairwise.and h1 h2).imp fun {a b} h => ?_
  unfold ltL
  refine decide_eq_true (Classical.byContradiction fun z => h.2 ?_)
  have hle : b.cps.toList ≤ a.cps.toList := List.not_lt.mp z
  exact TL.ext_tl (List.le_antisymm (of_decide_eq_true h.1) hle)
/-! from P84m -/
theorem lcGo1 {g : FTg} {t : FT} {fe : FE} {safe : Sto → Prop} {env e1 : En} {d y : D} {ds acc : List D} {S S1 S2 : Sto} (hg : g d env = some e1) (ht : t e1 S = .ok true S1) (hf : fe e1 S1 = .ok y S2) (ha : acc.length < 16777216) (hs : safe S2) :
    lcGo g t fe safe env (d :: ds) acc S = lcGo g t fe safe env ds (acc ++ [y]) S2 := by
  rw [lcGo, hg]
  dsimp only
  rw [ht]
  dsimp only
  rw [hf]
  dsimp only
  rw [if_pos ⟨ha, hs⟩]
theorem lcGo0 {g : FTg} {t : FT} {fe : FE} {safe : Sto → Prop} {env : En} {acc : List D} {S : Sto} : lcGo g t fe safe env [] acc S = .ok (.tml acc) S := by rw [lcGo]
/-! from P84o -/
@[simp] theorem v_lrgF {fa fb : FE} {env : En} {S : Sto} : lrgF fa fb env S = (fa env S).bind fun x S1 => (fb env S1).bind fun y S2 => match x, y with
  | .int i, .int j => if rgOk i j = true then .ok (.tml (rngD i (j - i).toNat)) S2 else .bad
  | _, _ => .bad := rfl
theorem cutD_hi {α : Type} (f : α → D) (l : List α) {v : Int} (h : 0 ≤ v) : cutD (l.map f) none (some v) = (l.take v.toNat).map f := by
  unfold cutD HT.sIx
  simp only [List.drop_zero, Nat.sub_zero]
  rw [if_neg (by omega), List.map_take]
  by_cases hz : v.toNat ≤ (l.map f).length
  · rw [Nat.min_eq_left hz]
  · rw [Nat.min_eq_right (by omega), List.take_of_length_le (Nat.le_refl _), List.take_of_length_le (by omega)]
/-! from P84p -/
theorem cutD_lo {α : Type} (f : α → D) (l : List α) {v : Int} (h : 0 ≤ v) : cutD (l.map f) (some v) none = (l.drop v.toNat).map f := by
  unfold cutD HT.sIx
  simp only
  rw [if_neg (by omega), List.map_drop]
  by_cases hz : v.toNat ≤ (l.map f).length
  · rw [Nat.min_eq_left hz, List.take_of_length_le (by rw [List.length_drop]; omega)]
  · rw [Nat.min_eq_right (by omega), Nat.sub_self, List.take_zero, List.drop_eq_nil_of_le (by omega)]
theorem cutD_mid {α : Type} (f : α → D) (l : List α) {v w : Int} (h : 0 ≤ v) (hw : 0 ≤ w) : ∃ l' : List α, cutD (l.map f) (some v) (some w) = l'.map f ∧ l'.Sublist l := by
  refine ⟨((l.drop (HT.sIx l.length 0 (some v))).take (HT.sIx l.length l.length (some w) - HT.sIx l.length 0 (some v))), ?_, (List.take_sublist _ _).trans (List.drop_sublist _ _)⟩
  unfold cutD
  rw [List.length_map, List.map_take, List.map_drop]
/-- plain signs -/
def Asc (x : Str) : Prop := ∀ c ∈ TL.tl x, c < 128
theorem Asc.ok {x : Str} (h : Asc x) : PyData.strOk x = true := by
  unfold PyData.strOk
  refine Array.all_eq_true'.mpr fun c hc => ?_
  have := h c (by simpa [TL.tl] using hc)
  simp
  omega
theorem Asc.app {x y : Str} (hx : Asc x) (hy : Asc y) : Asc (x ++ y) := fun c hc => by
  rw [TL.tl_append] at hc
  rcases List.mem_append.mp hc with hc | hc
  · exact hx c hc
  · exact hy c hc
theorem Asc.hi {x : Str} (h : Asc x) {a : Int} (ha : 0 ≤ a) : Asc (cutS x none (some a)) := fun c hc => by
  rw [cut_hi ha] at hc
  exact h c (List.mem_of_mem_take hc)
theorem Asc.lo {x : Str} (h : Asc x) {a : Int} (ha : 0 ≤ a) : Asc (cutS x (some a) none) := fun c hc => by
  rw [cut_lo ha] at hc
  exact h c (List.mem_of_mem_drop hc)
/-- the weight of parts -/
def wt (ys : List Str) : Nat := (ys.map (·.length)).sum + ys.length
theorem wt_app (a b : List Str) : wt (a ++ b) = wt a + wt b := by simp [wt]; omega
theorem wt_sub {a b : List Str} (h : a.Sublist b) : wt a ≤ wt b := by
  induction h with
  | slnil => exact Nat.le_refl _
  | cons x _ ih => simp only [wt, List.map_cons, List.sum_cons, List.length_cons] at *; omega
  | cons_cons x _ ih => simp only [wt, List.map_cons, List.sum_cons, List.length_cons] at *; omega
theorem wt_rev (a : List Str) : wt a.reverse = wt a := by
  unfold wt
  rw [List.length_reverse, List.map_reverse]
  congr 1
  exact (List.reverse_perm _).sum_nat
theorem join_good {by_ : Str} {c : Nat} (hb : by_ = ⟨#[c]⟩) (hc : c < 128) {ys : List Str} (h : ∀ y ∈ ys, Asc y) (hw : wt ys ≤ 100000) : Asc (Txt.join by_ ys) ∧ (Txt.join by_ ys).length ≤ wt ys ∧ ∀ S, gJoin (.str by_) [.tml (ys.map .str)] S = .ok (.str (Txt.join by_ ys)) S := by
  subst hb
  refine ⟨fun d hd => ?_, ?_, fun S => ?_⟩
  · rw [TL.join_eq, TL.tl_join] at hd
    have key : ∀ ys : List Str, (∀ y ∈ ys, Asc y) → ∀ d ∈ TL.joinL (TL.tl ⟨#[c]⟩) (ys.map TL.tl), d < 128 := by
      intro ys
      induction ys with
      | nil => intro _ d hd; cases hd
      | cons a l ih =>
        intro h d hd
        cases l with
        | nil => exact h a (by simp) d hd
        | cons b r =>
          have hd : d ∈ TL.tl a ++ ([c] ++ TL.joinL (TL.tl ⟨#[c]⟩) ((b :: r).map TL.tl)) := hd
          rcases List.mem_append.mp hd with hd | hd
          · exact h a (by simp) d hd
          · rcases List.mem_append.mp hd with hd | hd
            · rw [List.mem_singleton.mp hd]; exact hc
            · exact ih (fun y hy => h y (by simp [hy])) d hd
    exact key ys h d hd
  · rw [TL.join_eq]
    cases ys with
    | nil => exact Nat.zero_le _
    | cons a l =>
      rw [len_join_cons]
      show _ + l.length * 1 ≤ _
      simp only [wt, List.length_cons]
      omega
  · unfold gJoin
    simp only [seqD, Option.bind_some, strsD_map]
    rw [if_pos]
    show _ + ys.length * 1 ≤ _
    unfold wt at hw
    omega
/-! from P84q -/
theorem seq_rt {a b : FS} {env : En} {S S1 : Sto} {d : D} (h : a env S = .rt d S1) : seqS a b env S = .rt d S1 := by
  show (match a env S with
  | .nx e S1 => b e S1
  | r => r) = _
  rw [h]
/-- a test of one's own number -/
theorem ifn_no {i : Nat} {k j : Int} {a : FS} {env : En} {S : Sto} (h : env[i]? = some (some (.int k))) (hk : k ≠ j) : ifS (tstF (opF (prF pEq) (varF i) (cF (.int j)))) a nopS env S = .nx env S := by
  simp [h, hk]
theorem ifn_yes {i : Nat} {k : Int} {a : FS} {env : En} {S : Sto} (h : env[i]? = some (some (.int k))) : ifS (tstF (opF (prF pEq) (varF i) (cF (.int k)))) a nopS env S = a env S := by
  simp [h]
/-! from P84r -/
/-- data that may be shown -/
structure Gp (p : PyData) (k w : Nat) : Prop where
  s : p.showable = true
  d : p.hasDict = false
  k : p.depth ≤ k
  l : p.canLay0 = true
  w : p.weight ≤ w
  i : p.intsShort 13 = true
structure Gps (p : List PyData) (k w : Nat) : Prop where
  s : PyData.showableAll p = true
  d : PyData.hasDictAll p = false
  k : PyData.depthAll p ≤ k
  l : PyData.canLayAll0 p = true
  w : PyData.weightAll p ≤ w
  i : PyData.intsShortAll 13 p = true
def Gd (d : D) (k w : Nat) : Prop := ∃ p, toP d = some p ∧ Gp p k w
def Gds (d : List D) (k w : Nat) : Prop := ∃ p, toPs d = some p ∧ Gps p k w
theorem Gds.nil {k w : Nat} : Gds [] k w := ⟨[], by simp [toPs], rfl, rfl, by simp [PyData.depthAll], rfl, by simp [PyData.weightAll], rfl⟩
theorem Gds.cons {d : D} {ds : List D} {k w1 w2 w : Nat} (h1 : Gd d k w1) (h2 : Gds ds k w2) (hw : w1 + 1 + w2 ≤ w) : Gds (d :: ds) k w := by
  obtain ⟨p, e1, g1⟩ := h1
  obtain ⟨ps, e2, g2⟩ := h2
  refine ⟨p :: ps, by unfold toPs; rw [e1, e2], ?_, ?_, ?_, ?_, ?_, ?_⟩
  · simp [PyData.showableAll, g1.s, g2.s]
  · simp [PyData.hasDictAll, g1.d, g2.d]
  · have := g1.k; have := g2.k; simp only [PyData.depthAll]; omega
  · simp [PyData.canLayAll0, g1.l, g2.l]
  · have := g1.w; have := g2.w; simp only [PyData.weightAll]; omega
  · simp [PyData.intsShortAll, g1.i, g2.i]
theorem Gd.non {k w : Nat} : Gd .non k w := ⟨.none, by simp [toP], rfl, rfl, by simp [PyData.depth], rfl, by simp [PyData.weight], rfl⟩
theorem Gd.int {i : Int} {k : Nat} (h : i.natAbs < 10 ^ 12) : Gd (.int i) k 40 := by
  refine ⟨.int i, by simp [toP], ?_, rfl, by simp [PyData.depth], rfl, ?_, ?_⟩
  · unfold PyData.showable
    by_cases h0 : i.natAbs = 0
    · rw [h0]; decide
    · rw [decide_eq_true]
      rw [Nat.log2_lt h0]
      exact Nat.lt_of_lt_of_le h (by decide +kernel)
  · unfold PyData.weight
    by_cases h0 : i.natAbs = 0
    · have : i = 0 := by omega
      simp [this]
    · have h2 : i.natAbs.log2 < 40 := by
        rw [Nat.log2_lt h0]
        exact Nat.lt_of_lt_of_le h (by decide)
      split <;> omega
  · unfold PyData.intsShort
    exact decide_eq_true (PyData.shown_int_le h)
theorem Gd.str {x : Str} {k w : Nat} (h : PyData.strOk x = true) (hl : x.length ≤ w) : Gd (.str x) k w := by
  refine ⟨.str x, by simp [toP], rfl, rfl, by simp [PyData.depth], ?_, ?_, rfl⟩
  · unfold PyData.canLay0; exact h
  · unfold PyData.weight; exact hl
theorem Gd.tup {ds : List D} {k w : Nat} (h : Gds ds k w) : Gd (.tup ds) (k + 1) w := by
  obtain ⟨ps, e, g⟩ := h
  refine ⟨.tuple ps, by unfold toP; rw [e]; rfl, ?_, ?_, ?_, ?_, ?_, ?_⟩
  · unfold PyData.showable; exact g.s
  · unfold PyData.hasDict; exact g.d
  · unfold PyData.depth; have := g.k; omega
  · unfold PyData.canLay0; exact g.l
  · unfold PyData.weight; exact g.w
  · unfold PyData.intsShort; exact g.i
theorem Gds.repr {ds : List D} {k w : Nat} (h : Gds ds k w) (hk : k ≤ 59) (hw : w ≤ 2 ^ 20) : ∃ s, ∀ S, gRepr [.tml ds] S = .ok (.str s) S := by
  obtain ⟨ps, e, g⟩ := h
  refine ⟨(PyData.list ps).shown, fun S => ?_⟩
  have ok : okP (.list ps) = true := okP_of (by unfold PyData.showable; exact g.s) (by unfold PyData.hasDict; exact g.d) (by unfold PyData.depth; have := g.k; omega) (by unfold PyData.canLay0; exact g.l)
    (by unfold PyData.weight; have := g.w; omega) (by unfold PyData.intsShort; exact g.i)
  unfold gRepr
  simp only [pdS, e, Option.map_some]
  rw [if_pos ok]
theorem Gd.repr_str {x : Str} (h : PyData.strOk x = true) (hl : x.length ≤ 2 ^ 20) : ∃ s, ∀ S, gRepr [.str x] S = .ok (.str s) S := by
  refine ⟨(PyData.str x).shown, fun S => ?_⟩
  obtain ⟨p, e, g⟩ := Gd.str (k := 0) h hl
  have : p = .str x := by simp [toP] at e; exact e.symm
  subst this
  have ok : okP (.str x) = true := okP_of g.s g.d (by have := g.k; omega) g.l g.w g.i
  unfold gRepr
  simp only [pdS, toP]
  rw [if_pos ok]
end Ah

set_option maxHeartbeats 4000000
namespace Ah
open PySem PySem.Spec PyProof.Rows L2 PySem.NumText
/-! ### rules for simp -/
@[simp] theorem v_wp {ws : List Nat} {b : FS} {env : En} {S : Sto} : wpS ws b env S = b (wipeE env ws) S := rfl
@[simp] theorem v_wipe0 {env : En} : wipeE env [] = env := rfl
@[simp] theorem v_wipe1 {env : En} {v : Nat} {vs : List Nat} : wipeE env (v :: vs) = (wipeE env vs).set v none := rfl
@[simp] theorem v_aug {i : Nat} {op : Op2} {f : FE} {env : En} {S : Sto} : augS i op f env S = match env[i]? with
  | some (some x) => (f env S).toS env fun y S1 => (op x y S1).toS env fun z S2 => .nx (env.set i (some z)) S2
  | _ => .bad := rfl
@[simp] theorem v_augI {i j : Int} {S : Sto} : oAug (.int i) (.int j) S = .ok (.int (i + j)) S := rfl
@[simp] theorem v_augT {i j : List D} {S : Sto} : oAug (.tup i) (.tup j) S = if i.length + j.length ≤ 16777216 then .ok (.tup (i ++ j)) S else .bad := rfl
/-- what a turn may change: the objects' number stays, what is changed names nothing new -/
structure Chg2 (n : Nat) (S S1 : Sto) : Prop where
  len : S1.length = S.length
  ob : ∀ (i : Nat) (o : Ob), S1[i]? = some o → S[i]? = some o ∨ o.bel n = true
theorem Chg2.refl {n : Nat} {S : Sto} : Chg2 n S S := ⟨rfl, fun _ _ h => .inl h⟩
theorem Chg2.cons {n : Nat} {S S1 : Sto} {o o' : Ob} (h : o'.bel n = true) (t : Chg2 n S S1) : Chg2 n (o :: S) (o' :: S1) := ⟨by simp [t.len], fun i x e => by
  cases i with
  | zero => cases e; exact .inr h
  | succ i => simpa using t.ob i x (by simpa using e)⟩
theorem Chg2.keep {n : Nat} {S S1 : Sto} {o : Ob} (t : Chg2 n S S1) : Chg2 n (o :: S) (o :: S1) := ⟨by simp [t.len], fun i x e => by
  cases i with
  | zero => exact .inl e
  | succ i => simpa using t.ob i x (by simpa using e)⟩
theorem Chg2.app {n : Nat} {A S S1 : Sto} (t : Chg2 n S S1) : Chg2 n (A ++ S) (A ++ S1) := ⟨by simp [t.len], fun i x e => by
  by_cases hi : i < A.length
  · rw [List.getElem?_append_left hi] at e ⊢
    exact .inl e
  · rw [List.getElem?_append_right (by omega)] at e ⊢
    exact t.ob _ x e⟩
theorem Chg2.kept {S S1 J : Sto} (t : Chg2 S.length S S1) : Kept S (S1 ++ J) := ⟨by rw [List.length_append, t.len]; omega, fun i o hi e => by
  rw [List.getElem?_append_left (by rw [t.len]; exact hi)] at e
  exact t.ob i o e⟩
/-- a block's end: what was made within (J) is let go -/
theorem gc_nx {ws : List Nat} {b : FS} {env e : En} {S S1 J : Sto} (h : b env S = .nx e (S1 ++ J)) (c : Chg2 S.length S S1) (hb : belE S.length (wipeE e ws) = true) : gcS ws b env S = .nx (wipeE e ws) S1 := by
  unfold gcS
  rw [h]
  dsimp only
  rw [if_pos ⟨c.kept, hb⟩]
  congr 1
  rw [← c.len]
  simp
theorem gc_ct {ws : List Nat} {b : FS} {env e : En} {S S1 J : Sto} (h : b env S = .ct e (S1 ++ J)) (c : Chg2 S.length S S1) (hb : belE S.length (wipeE e ws) = true) : gcS ws b env S = .ct (wipeE e ws) S1 := by
  unfold gcS
  rw [h]
  dsimp only
  rw [if_pos ⟨c.kept, hb⟩]
  congr 1
  rw [← c.len]
  simp
theorem gc_rt {ws : List Nat} {b : FS} {env : En} {S S1 : Sto} {d : D} (h : b env S = .rt d S1) : gcS ws b env S = .rt d S1 := by
  unfold gcS
  rw [h]
theorem gc_bk {ws : List Nat} {b : FS} {env e : En} {S S1 : Sto} (h : b env S = .bk e S1) : gcS ws b env S = .bk e S1 := by
  unfold gcS
  rw [h]
theorem gc_ex {ws : List Nat} {b : FS} {env e : En} {S S1 : Sto} {C : Str} {fs : List (Str × D)} (h : b env S = .ex C fs e S1) : gcS ws b env S = .ex C fs e S1 := by
  unfold gcS
  rw [h]
/-! ### loops -/
/-- a loop that goes to its end: σ what is carried, E and F how it lies in slots and store; P of what is left and what is carried -/
theorem loop_fold {α σ : Type} {g : FTg} {safe : Sto → Prop} {b : FS} (P : List α → σ → Prop) (enc : α → D) (E : σ → En) (F : σ → Sto) (stp : σ → α → σ) (hs : ∀ l s, P l s → safe (F s))
    (h : ∀ x l s, P (x :: l) s → P l (stp s x) ∧ ∃ e1, g (enc x) (E s) = some e1 ∧ b e1 (F s) = .nx (E (stp s x)) (F (stp s x))) : ∀ (l : List α) (s : σ), P l s →
    P [] (l.foldl stp s) ∧ loopF g safe b (l.map enc) (E s) (F s) = .nx (E (l.foldl stp s)) (F (l.foldl stp s))
  | [], s, hp => ⟨hp, by simp [loopF]⟩
  | x :: l, s, hp => by
    obtain ⟨hp1, e1, hg, hb⟩ := h x l s hp
    obtain ⟨hp2, ih⟩ := loop_fold P enc E F stp hs h l (stp s x) hp1
    refine ⟨hp2, ?_⟩
    rw [List.map_cons]
    unfold loopF
    rw [hg]
    dsimp only
    rw [hb]
    dsimp only
    rw [if_pos (hs _ _ hp1)]
    exact ih
/-- a loop that may leave -/
def foldX {α σ ρ : Type} (stp : σ → α → ρ ⊕ σ) : σ → List α → ρ ⊕ σ
  | s, [] => .inr s
  | s, x :: l => match stp s x with
    | .inl r => .inl r
    | .inr s' => foldX stp s' l
def leaves : RS → Bool
  | .rt _ _ => true
  | .ex _ _ _ _ => true
  | _ => false
theorem loop_x {α σ ρ : Type} {g : FTg} {safe : Sto → Prop} {b : FS} (P : List α → σ → Prop) (Qr : ρ → RS → Prop) (enc : α → D) (E : σ → En) (F : σ → Sto) (stp : σ → α → ρ ⊕ σ) (hs : ∀ l s, P l s → safe (F s))
    (h : ∀ x l s, P (x :: l) s → ∃ e1, g (enc x) (E s) = some e1 ∧ (match stp s x with
      | .inr s' => P l s' ∧ b e1 (F s) = .nx (E s') (F s')
      | .inl r => leaves (b e1 (F s)) = true ∧ Qr r (b e1 (F s)))) : ∀ (l : List α) (s : σ), P l s →
    match foldX stp s l with
    | .inr s' => P [] s' ∧ loopF g safe b (l.map enc) (E s) (F s) = .nx (E s') (F s')
    | .inl r => Qr r (loopF g safe b (l.map enc) (E s) (F s))
  | [], s, hp => ⟨hp, by simp [loopF]⟩
  | x :: l, s, hp => by
    obtain ⟨e1, hg, hb⟩ := h x l s hp
    rw [List.map_cons]
    unfold loopF foldX
    rw [hg]
    dsimp only
    cases hst : stp s x with
    | inr s' =>
      rw [hst] at hb
      dsimp only at hb ⊢
      rw [hb.2]
      dsimp only
      rw [if_pos (hs _ _ hb.1)]
      exact loop_x P Qr enc E F stp hs h l s' hb.1
    | inl r =>
      rw [hst] at hb
      dsimp only at hb ⊢
      obtain ⟨h1, h2⟩ := hb
      cases q : b e1 (F s) with
      | nx e S => rw [q] at h1; cases h1
      | ct e S => rw [q] at h1; cases h1
      | bk e S => rw [q] at h1; cases h1
      | rt d S => rw [q] at h2; exact h2
      | ex C fs e S => rw [q] at h2; exact h2
      | bad => rw [q] at h2; exact h2
/-! ### the drawn numbers' state, by function -/
structure DS where
  p : Int
  q : Int
  r : Int
  ok : OkS p q r
def sto (ns : List Int) (d : DS) : Ob := stO ns d.p d.q d.r
theorem sto_bel {ns : List Int} {d : DS} {n : Nat} : (sto ns d).bel n = true := stO_bel
def d0 (r : Int) (h : 0 ≤ r ∧ r < 2305843009213693951 := by decide) : DS := ⟨0, 0, r, ⟨by decide, by decide, h.1, h.2⟩⟩
/-- something drawn for each -/
def mapD {α β : Type} (f : DS → α → β × DS) : DS → List α → List β × DS
  | d, [] => ([], d)
  | d, a :: l => let r := f d a; let t := mapD f r.2 l; (r.1 :: t.1, t.2)
theorem mapD_length {α β : Type} (f : DS → α → β × DS) : ∀ (l : List α) (d : DS), (mapD f d l).1.length = l.length
  | [], _ => rfl
  | a :: l, d => by show (mapD f (f d a).2 l).1.length + 1 = _; rw [mapD_length f l]; rfl
theorem mapD_all {α β : Type} {f : DS → α → β × DS} {P : β → Prop} (l : List α) (d : DS) (h : ∀ a ∈ l, ∀ d, P (f d a).1) : ∀ b ∈ (mapD f d l).1, P b := by
  induction l generalizing d with
  | nil => intro b hb; cases hb
  | cons a l ih =>
    intro b hb
    rcases List.mem_cons.mp (show b ∈ (f d a).1 :: (mapD f (f d a).2 l).1 from hb) with rfl | hb
    · exact h a (by simp) d
    · exact ih _ (fun a ha => h a (by simp [ha])) b hb
/-- a comprehension whose value draws from the state -/
theorem lcGo_st {α β : Type} {g : FTg} {fe : FE} {env : En} {ns : List Int} (enc : α → D) (out : β → D) (f : DS → α → β × DS) (T : Sto) : ∀ (l : List α) (acc : List D) (d : DS), acc.length + l.length ≤ 16777216 →
    (∀ a ∈ l, ∀ d, ∃ e1, g (enc a) env = some e1 ∧ fe e1 (sto ns d :: T) = .ok (out (f d a).1) (sto ns (f d a).2 :: T)) →
    lcGo g yesF fe Alw env (l.map enc) acc (sto ns d :: T) = .ok (.tml (acc ++ (mapD f d l).1.map out)) (sto ns (mapD f d l).2 :: T)
  | [], acc, d, _, _ => by unfold lcGo; simp [mapD]
  | a :: l, acc, d, hl, h => by
    simp only [List.length_cons] at hl
    obtain ⟨e1, hg, hf⟩ := h a (by simp) d
    have ih := lcGo_st enc out f T l (acc ++ [out (f d a).1]) (f d a).2 (by simp; omega) fun y hy => h y (by simp [hy])
    rw [List.map_cons]
    unfold lcGo
    rw [hg]
    simp only [v_yes]
    rw [hf]
    dsimp only
    rw [if_pos ⟨by omega, trivial⟩, ih]
    simp [mapD]
theorem lc_st {α β : Type} {fi : FI} {g : FTg} {fe : FE} {vs : List Nat} {env : En} {ns : List Int} {d0 d : DS} {T : Sto} (l : List α) (enc : α → D) (out : β → D) (f : DS → α → β × DS) (hi : fi env (sto ns d0 :: T) = .ok ⟨l.map enc, Alw⟩ (sto ns d :: T)) (hl : l.length ≤ 16777216)
    (h : ∀ a ∈ l, ∀ d, ∃ e1, g (enc a) (wipeE env vs) = some e1 ∧ fe e1 (sto ns d :: T) = .ok (out (f d a).1) (sto ns (f d a).2 :: T)) :
    lcF fi g yesF fe vs env (sto ns d0 :: T) = .ok (.tml ((mapD f d l).1.map out)) (sto ns (mapD f d l).2 :: T) := by
  unfold lcF
  rw [hi]
  dsimp only [R.bind]
  rw [if_pos (show Alw _ from trivial), lcGo_st enc out f T l [] d (by simpa using hl) h]
  simp
theorem kept_sto {ns : List Int} {d d' : DS} {T J : Sto} : Kept (sto ns d :: T) (sto ns d' :: (T ++ J)) := kept_st
theorem wrap_sto {n : Nat} {h : FS} {ds : List D} {ns : List Int} {d d' : DS} {T J : Sto} {x : D} (e : h (enD n ds) (sto ns d :: T) = .rt x (sto ns d' :: (T ++ J))) (hp : plD x = true) (hb : noRef x = true) :
    wrapF (bodyF n h) ds (sto ns d :: T) = .ok x (sto ns d' :: T) := wrap_st e hp hb
theorem wrap_sto_mk {n : Nat} {h : FS} {ds : List D} {ns : List Int} {d d' : DS} {T J : Sto} {i : Nat} {xs : List D} (e : h (enD n ds) (sto ns d :: T) = .rt (.ref i) (sto ns d' :: (T ++ J))) (hi : T.length + 1 ≤ i) (hx : (sto ns d' :: (T ++ J))[i]? = some (.lst xs)) (hb : noRefs xs = true) :
    wrapF (bodyF n h) ds (sto ns d :: T) = .ok (.tml xs) (sto ns d' :: T) := wrap_st_mk e hi hx hb
theorem rng1I {f : FA} {env : En} {S S1 : Sto} {n : Int} (h : f env S = .ok [.int n] S1) (hn : -(2 ^ 62) ≤ n ∧ n < 2 ^ 62) : rngI1 f env S = .ok ⟨rngD 0 n.toNat, Alw⟩ S1 := by
  unfold rngI1
  rw [h]
  dsimp only [R.bind]
  rw [if_pos hn]
theorem n62 {z : Int} (h0 : 0 ≤ z) (h1 : z ≤ 16777216) : -(2 ^ 62) ≤ z ∧ z < 2 ^ 62 := ⟨Int.le_trans (by decide) h0, Int.lt_of_le_of_lt h1 (by decide)⟩
/-- range(n) -/
theorem rng1N {f : FA} {env : En} {S S1 : Sto} {n : Nat} (h : f env S = .ok [.int (n : Int)] S1) (hn : n ≤ 16777216) : rngI1 f env S = .ok ⟨(List.range n).map fun i : Nat => .int (0 + (i : Int)), Alw⟩ S1 := by
  rw [rng1I h (n62 (Int.natCast_nonneg n) (by omega))]
  rfl
theorem mulA_ok {i j : Int} {S : Sto} (h : (-(2 ^ 64) < i ∧ i < 2 ^ 64) ∨ (-(2 ^ 64) < j ∧ j < 2 ^ 64)) : oMulA (.int i) (.int j) S = .ok (.int (i * j)) S := by
  unfold oMulA
  simp only
  rw [if_pos h]
theorem n64 {z : Int} (h0 : 0 ≤ z) (h1 : z ≤ 16777216) : -(2 ^ 64) < z ∧ z < 2 ^ 64 := ⟨Int.lt_of_lt_of_le (by decide) h0, Int.lt_of_le_of_lt h1 (by decide)⟩
/-- items counted from lo on -/
theorem rngD_eq (lo : Int) (n : Nat) : rngD lo n = (List.range n).map fun i : Nat => .int (lo + (i : Int)) := rfl
end Ah
namespace Ah
open PySem PySem.Spec PyProof.Rows L2 PySem.NumText
/-- enumerate's items -/
def enI {α : Type} (enc : α → D) (p : α × Nat) : D := .tup [.int ((p.2 : Nat) : Int), enc p.1]
theorem enmD_map {α : Type} (enc : α → D) (l : List α) : enmD (l.map enc) = l.zipIdx.map (enI enc) := by
  unfold enmD enI
  rw [List.zipIdx_map, List.map_map]
  rfl
theorem enm_tup {f : FA} {env : En} {S S1 : Sto} {ds : List D} (h : f env S = .ok [.tup ds] S1) : enmI f env S = .ok ⟨enmD ds, Alw⟩ S1 := by
  unfold enmI
  rw [h]
  rfl
theorem enm_ref {f : FA} {env : En} {S S1 : Sto} {i : Nat} {ds : List D} (h : f env S = .ok [.ref i] S1) (hs : S1[i]? = some (.lst ds)) : enmI f env S = .ok ⟨enmD ds, fun S' => S'[i]? = some (.lst ds)⟩ S1 := by
  unfold enmI
  rw [h]
  simp [itemsOf, hs]
theorem seq_ref {f : FE} {env : En} {S S1 : Sto} {i : Nat} {ds : List D} (h : f env S = .ok (.ref i) S1) (hs : S1[i]? = some (.lst ds)) : seqI f env S = .ok ⟨ds, fun S' => S'[i]? = some (.lst ds)⟩ S1 := by
  unfold seqI
  rw [h]
  simp [itemsOf, hs]
theorem seq_tup {f : FE} {env : En} {S S1 : Sto} {ds : List D} (h : f env S = .ok (.tup ds) S1) : seqI f env S = .ok ⟨ds, Alw⟩ S1 := by
  unfold seqI
  rw [h]
  rfl
theorem for_of {fi : FI} {g : FTg} {b : FS} {env : En} {S S1 : Sto} {items : List D} {safe : Sto → Prop} {r : RS} (hi : fi env S = .ok ⟨items, safe⟩ S1) (hs : safe S1) (h : loopF g safe b items env S1 = r) : forS fi g b env S = r := by
  unfold forS
  rw [hi]
  dsimp only [R.toS]
  rw [if_pos hs]
  exact h
end Ah
namespace Ah
open PySem PySem.Spec PyProof.Rows L2 PySem.NumText
theorem lcGo_fm {α : Type} {g : FTg} {t : FT} {fe : FE} {safe : Sto → Prop} {env : En} {S : Sto} (f h : α → D) (p : α → Bool) (hs : safe S) : ∀ (l : List α) (acc : List D), acc.length + l.length ≤ 16777216 →
    (∀ a ∈ l, ∃ e1, g (f a) env = some e1 ∧ t e1 S = .ok (p a) S ∧ (p a = true → fe e1 S = .ok (h a) S)) → lcGo g t fe safe env (l.map f) acc S = .ok (.tml (acc ++ (l.filter p).map h)) S
  | [], acc, _, _ => by unfold lcGo; simp
  | a :: l, acc, hl, hd => by
    obtain ⟨e1, h1, h2, h3⟩ := hd a (by simp)
    rw [List.map_cons]
    unfold lcGo
    rw [h1]
    dsimp only
    rw [h2]
    have hr := fun a' (hm : a' ∈ l) => hd a' (List.mem_cons_of_mem _ hm)
    simp only [List.length_cons] at hl
    cases hp : p a with
    | true =>
      dsimp only
      rw [h3 hp]
      dsimp only
      rw [if_pos ⟨by omega, hs⟩, lcGo_fm f h p hs l (acc ++ [h a]) (by simp only [List.length_append, List.length_cons, List.length_nil]; omega) hr]
      simp [List.filter_cons, hp]
    | false =>
      dsimp only
      rw [if_pos hs, lcGo_fm f h p hs l acc (by omega) hr]
      simp [List.filter_cons, hp]
/-- a comprehension that changes nothing -/
theorem lc_fm {α : Type} {fi : FI} {g : FTg} {t : FT} {fe : FE} {vs : List Nat} {env : En} {S S1 : Sto} {l : List α} {safe : Sto → Prop} (f h : α → D) (p : α → Bool) (hi : fi env S = .ok ⟨l.map f, safe⟩ S1) (hs : safe S1) (hl : l.length ≤ 16777216)
    (hd : ∀ a ∈ l, ∃ e1, g (f a) (wipeE env vs) = some e1 ∧ t e1 S1 = .ok (p a) S1 ∧ (p a = true → fe e1 S1 = .ok (h a) S1)) : lcF fi g t fe vs env S = .ok (.tml ((l.filter p).map h)) S1 := by
  unfold lcF
  rw [hi]
  dsimp only [R.bind]
  rw [if_pos hs, lcGo_fm f h p hs l [] (by simpa using hl) hd]
  simp
end Ah

set_option maxHeartbeats 4000000
namespace La
open PySem PySem.Spec PyProof.Rows L2 Ah
def N__law_take : List Str := ["state", "below", "found", "cell"]
noncomputable def s__law_take : FS := (seqS (ifS (tstF (opF (prF pGt) (opF ixF (varF 0) (cF (.int 2))) (cF (.int 0)))) (seqS (setS 2 (opF oMod (opF ixF (varF 0) (cF (.int 2))) (varF 1))) (seqS (stS (opF oDiv (opF ixF (varF 0) (cF (.int 2))) (varF 1)) (varF 0) (cF (.int 2))) (retS (varF 2)))) nopS) (seqS (setS 3 (opF ixF (varF 0) (cF (.int 1)))) (seqS (ifS (tstF (opF (prF pNe) (opF ixF (varF 0) (cF (.int 0))) (lstF nilA))) (setS 3 (opF ixF (opF ixF (varF 0) (cF (.int 0))) (opF oMod (opF ixF (varF 0) (cF (.int 1))) (callF gLen (consA (opF ixF (varF 0) (cF (.int 0))) nilA))))) nopS) (seqS (stS (opF oAdd (opF ixF (varF 0) (cF (.int 1))) (cF (.int 1))) (varF 0) (cF (.int 1))) (seqS (ifS (andF (tstF (opF (prF pGe) (varF 3) (opF oPow (cF (.int 10)) (cF (.int 18))))) (tstF (opF (prF pLeA) (opF ixF (varF 0) (cF (.int 1))) (callF gLen (consA (opF ixF (varF 0) (cF (.int 0))) nilA))))) (seqS (stS (opF oDiv (varF 3) (varF 1)) (varF 0) (cF (.int 2))) (retS (opF oMod (varF 3) (varF 1)))) nopS) (seqS (setS 3 (opF oMod (varF 3) (cF (.int 2305843009213693951)))) (seqS (stS (opF oMod (opF oAddA (opF oAddA (opF oMulA (opF ixF (varF 0) (cF (.int 3))) (cF (.int 48271))) (opF oMulA (varF 3) (cF (.int 69621)))) (opF ixF (varF 0) (cF (.int 1)))) (cF (.int 2305843009213693951))) (varF 0) (cF (.int 3))) (retS (opF oMod (opF oDiv (opF oMod (opF oMulA (opF ixF (varF 0) (cF (.int 3))) (opF ixF (varF 0) (cF (.int 3)))) (cF (.int 2147483629))) (cF (.int 8))) (varF 1))))))))))
noncomputable def f__law_take : FF := wrapF (bodyF 4 s__law_take)
def N__law_names : List Str := ["state", "many", "letters", "stem", "at", "begin", "step", "k"]
noncomputable def e__law_names_1 : FE := (opF ixF (varF 2) (runF f__law_take [] (consA (varF 0) (consA (cF (.int 26)) nilA))))
noncomputable def e__law_names_2 : FE := (alF (opF oAddA (opF oAddA (slF (varF 3) noO (soO (varF 4))) (opF ixF (varF 2) (opF oMod (opF oAddA (varF 5) (opF oMulA (varF 6) (varF 7))) (cF (.int 26))))) (slF (varF 3) (soO (varF 4)) noO)))
noncomputable def s__law_names : FS := (seqS (setS 2 (cF (.str "abcdefghijklmnopqrstuvwxyz"))) (seqS (setS 3 (alF (bmF "str" gJoin (cF (.str "")) (consA (lcF (rngI1 (consA (alF (runF f__law_take [] (consA (varF 0) (consA (cF (.int 8)) nilA)))) nilA)) (nmG 7) yesF e__law_names_1 [7]) nilA)))) (seqS (setS 4 (alF (runF f__law_take [] (consA (varF 0) (consA (opF oAdd (callF gLen (consA (varF 3) nilA)) (cF (.int 1))) nilA))))) (seqS (setS 5 (alF (runF f__law_take [] (consA (varF 0) (consA (cF (.int 26)) nilA))))) (seqS (setS 6 (opF ixF (lstF (consA (cF (.int 1)) (consA (cF (.int 25)) (consA (cF (.int 7)) (consA (cF (.int 5)) nilA))))) (runF f__law_take [] (consA (varF 0) (consA (cF (.int 4)) nilA))))) (retS (alF (lcF (rngI1 (consA (varF 1) nilA)) (nmG 7) yesF e__law_names_2 [7]))))))))
noncomputable def f__law_names : FF := wrapF (bodyF 8 s__law_names)
end La

set_option maxHeartbeats 4000000
namespace Pg
open PySem PySem.Spec PyProof.Rows L2 Ah
def N_is_name : List Str := ["thing", "sign"]
noncomputable def e_is_name_1 : FE := (opF (prF pIn) (varF 1) (cF (.str "abcdefghijklmnopqrstuvwxyz")))
noncomputable def s_is_name : FS := (retS (andV (callF gIsi (consA (varF 0) (consA (cF (.ty "str")) nilA))) (andV (chF pLeA pLeA (cF (.int 1)) (callF gLen (consA (varF 0) nilA)) (cF (.int 8))) (callF gAll (consA (lcF (seqI (varF 0)) (nmG 1) yesF e_is_name_1 [1]) nilA)))))
noncomputable def f_is_name : FF := wrapF (bodyF 2 s_is_name)
def N_named : List Str := ["name"]
noncomputable def s_named : FS := (retS (ifF (tstF (opF (prF pEq) (varF 0) (cF (.str "")))) (cF (.str "-")) (varF 0)))
noncomputable def f_named : FF := wrapF (bodyF 1 s_named)
def N_line_text : List Str := ["line"]
noncomputable def s_line_text : FS := (retS (alF (bmF "str" gJoin (cF (.str " ")) (consA (varF 0) nilA))))
noncomputable def f_line_text : FF := wrapF (bodyF 1 s_line_text)
def N_deed_text : List Str := ["deed", "mark"]
noncomputable def s_deed_text : FS := (seqS (setS 1 (ifF (tstF (opF (prF pIsN) (opF ixF (varF 0) (unF oNeg (cF (.int 1)))) (cF .non))) (cF (.str ".")) (callF gStrA (consA (opF ixF (varF 0) (unF oNeg (cF (.int 1)))) nilA)))) (seqS (ifS (tstF (opF (prF pEq) (opF ixF (varF 0) (cF (.int 0))) (cF (.str "come")))) (retS (jnF [(cF (.str "come ")), (fmtF (opF ixF (varF 0) (cF (.int 1)))), (cF (.str " ")), (fmtF (alF (runF f_named [] (consA (opF ixF (varF 0) (cF (.int 2))) nilA)))), (cF (.str " ")), (fmtF (varF 1))] Str.empty)) nopS) (retS (jnF [(fmtF (opF ixF (varF 0) (cF (.int 0)))), (cF (.str " ")), (fmtF (opF ixF (varF 0) (cF (.int 1)))), (cF (.str " ")), (fmtF (varF 1))] Str.empty))))
noncomputable def f_deed_text : FF := wrapF (bodyF 2 s_deed_text)
def N_history_text : List Str := ["history", "deed"]
noncomputable def e_history_text_1 : FE := (alF (opF oAddA (runF f_deed_text [] (consA (varF 1) nilA)) (cF (.str "\n"))))
noncomputable def s_history_text : FS := (retS (alF (bmF "str" gJoin (cF (.str "")) (consA (lcF (seqI (varF 0)) (nmG 1) yesF e_history_text_1 [1]) nilA))))
noncomputable def f_history_text : FF := wrapF (bodyF 2 s_history_text)
def N_clash_text : List Str := ["clash"]
noncomputable def s_clash_text : FS := (seqS (ifS (tstF (opF (prF pEq) (opF ixF (varF 0) (cF (.int 0))) (cF (.str "late")))) (retS (alF (opF oAddA (cF (.str "late ")) (opF ixF (varF 0) (cF (.int 1)))))) nopS) (retS (alF (bmF "str" gJoin (cF (.str " ")) (consA (opF oAddA (tupF (consA (opF ixF (varF 0) (cF (.int 0))) nilA)) (opF ixF (varF 0) (cF (.int 1)))) nilA)))))
noncomputable def f_clash_text : FF := wrapF (bodyF 1 s_clash_text)
def N_protest_text : List Str := ["row"]
noncomputable def s_protest_text : FS := (retS (alF (bmF "str" gJoin (cF (.str " ")) (consA (varF 0) nilA))))
noncomputable def f_protest_text : FF := wrapF (bodyF 1 s_protest_text)
def N_protests_text : List Str := ["rows", "row"]
noncomputable def e_protests_text_1 : FE := (alF (opF oAddA (runF f_protest_text [] (consA (varF 1) nilA)) (cF (.str "\n"))))
noncomputable def s_protests_text : FS := (retS (alF (bmF "str" gJoin (cF (.str "")) (consA (lcF (seqI (varF 0)) (nmG 1) yesF e_protests_text_1 [1]) nilA))))
noncomputable def f_protests_text : FF := wrapF (bodyF 2 s_protests_text)
def N_number_of_word : List Str := ["word", "most", "sign"]
noncomputable def s_number_of_word : FS := (seqS (ifS (orF (tstF (opF (prF pLtA) (callF gLen (consA (varF 0) nilA)) (cF (.int 1)))) (orF (tstF (opF (prF pGt) (callF gLen (consA (varF 0) nilA)) (varF 1))) (tstF (opF (prF pNe) (lcF (seqI (varF 0)) (nmG 2) (tstF (opF (prF pNi) (varF 2) (cF (.str "0123456789")))) (varF 2) [2]) (lstF nilA))))) (retS (cF .non)) nopS) (seqS (ifS (andF (tstF (opF (prF pEq) (opF ixF (varF 0) (cF (.int 0))) (cF (.str "0")))) (tstF (opF (prF pGt) (callF gLen (consA (varF 0) nilA)) (cF (.int 1))))) (retS (cF .non)) nopS) (retS (callF gInt (consA (varF 0) nilA)))))
noncomputable def f_number_of_word : FF := wrapF (bodyF 3 s_number_of_word)
def N_seen_of_word : List Str := ["word"]
noncomputable def s_seen_of_word : FS := (seqS (ifS (tstF (opF (prF pEq) (varF 0) (cF (.str "-")))) (retS (cF (.str ""))) nopS) (retS (ifF (tstF (alF (runF f_is_name [] (consA (varF 0) nilA)))) (varF 0) (cF .non))))
noncomputable def f_seen_of_word : FF := wrapF (bodyF 1 s_seen_of_word)
end Pg

set_option maxHeartbeats 4000000
namespace Pg
open PySem PySem.Spec PyProof.Rows L2 Ah PySem.NumText
def LTS : Str := "abcdefghijklmnopqrstuvwxyz"
def FIG : Str := "0123456789"
def ltr (c : Nat) : Bool := decide (c ∈ LTS.cps.toList)
def fig (c : Nat) : Bool := decide (c ∈ FIG.cps.toList)
def allL (x : Str) : Bool := x.cps.toList.all ltr
def nmB (x : Str) : Bool := decide ((1:Int) ≤ x.length) && (decide ((x.length:Int) ≤ 8) && allL x)
theorem ev_is_name {S : Sto} (x : Str) (hx : x.length ≤ 16777216) : f_is_name [.str x] S = .ok (.bl (nmB x)) S := by
  apply fn_same (hp := rfl) (hb := rfl)
  unfold s_is_name e_is_name_1
  have h : lcF (seqI (varF 0)) (nmG 1) yesF (opF (prF pIn) (varF 1) (cF (.str "abcdefghijklmnopqrstuvwxyz"))) [1] [some (D.str x), none] S = .ok (.tml (x.cps.toList.map fun c => .bl (ltr c))) S :=
    lc_chr _ (x := x) rfl hx fun c => rfl
  have h2 : (x.cps.toList.map fun c => D.bl (ltr c)) = (x.cps.toList.map ltr).map D.bl := by simp
  rw [h2] at h
  have hg : ∀ S, gAll [.tml ((x.cps.toList.map ltr).map D.bl)] S = .ok (.bl (allL x)) S := fun S => by
    unfold gAll
    dsimp only [lstD, Option.bind_some]
    rw [blsD_map]
    dsimp only
    rw [List.all_map]
    rfl
  by_cases h0 : (1:Int) ≤ x.length <;> by_cases h8 : (x.length:Int) ≤ 8 <;> simp [-List.map_map, enD, hx, nmB, h0, h8, h, hg]
theorem ev_named {S : Sto} (x : Str) : f_named [.str x] S = .ok (.str (if x = "" then "-" else x)) S := by
  apply fn_same (hp := rfl) (hb := rfl)
  by_cases h1 : x = "" <;> simp [s_named, enD, h1]

theorem lts_eq : LTS.cps.toList = [97, 98, 99, 100, 101, 102, 103, 104, 105, 106, 107, 108, 109, 110, 111, 112, 113, 114, 115, 116, 117, 118, 119, 120, 121, 122] := by decide +kernel
theorem fig_eq : FIG.cps.toList = [48, 49, 50, 51, 52, 53, 54, 55, 56, 57] := by decide +kernel
theorem ltr_iff (c : Nat) : ltr c = true ↔ 97 ≤ c ∧ c ≤ 122 := by
  unfold ltr
  rw [lts_eq]
  simp
  omega
theorem fig_iff (c : Nat) : fig c = true ↔ 48 ≤ c ∧ c ≤ 57 := by
  unfold fig
  rw [fig_eq]
  simp
  omega
def allF (x : Str) : Bool := x.cps.toList.all fig
/-- the number of a word -/
def zer (x : Str) : Bool := x.cps.toList.head? == some 48
def numO (x : Str) : Option Int := if (1:Int) ≤ x.length ∧ (x.length:Int) ≤ 10 ∧ allF x = true then (if zer x = true ∧ (1:Int) < x.length then none else some (digitsVal x.cps.toList)) else none
def oD : Option Int → D
  | none => .non
  | some i => .int i
def oI : Option Int → D
  | none => .int (-1)
  | some i => .int i
def nfs (x : Str) : List Str := (x.cps.toList.filter fun c => !fig c).map fun c => (⟨#[c]⟩ : Str)
theorem nfs_lc {x : Str} {S : Sto} (hx : x.length ≤ 16777216) {i j : Nat} {env : En} (h0 : env[i]? = some (some (.str x))) (hj : j < env.length) :
    lcF (seqI (varF i)) (nmG j) (tstF (opF (prF pNi) (varF j) (cF (.str "0123456789")))) (varF j) [j] env S = .ok (.tml ((nfs x).map .str)) S := by
  have hv : ∀ d : D, (env.set j (some d))[j]? = some (some d) := fun d => by simp [hj]
  have h : lcF (seqI (varF i)) (nmG j) (tstF (opF (prF pNi) (varF j) (cF (.str "0123456789")))) (varF j) [j] env S = .ok (.tml ((x.cps.toList.filter fun c => !fig c).map fun c => .str ⟨#[c]⟩)) S :=
    lc_chrF _ (x := x) (by simp [h0]) hx (fun c => by simp [hv]) fun c => by
      simp [hv]
      rfl
  have h2 : ((x.cps.toList.filter fun c => !fig c).map fun c => D.str ⟨#[c]⟩) = (nfs x).map .str := by simp [nfs]
  rw [h, h2]
theorem nfs_ne {x : Str} (ok : PyData.strOk x = true) {S : Sto} : pNe (.tml ((nfs x).map .str)) (.tml []) S = some (!allF x) := by
  have h3 := pEq_strs0 (S := S) (ys := nfs x) fun y hy => by
    obtain ⟨c, hc, rfl⟩ := List.mem_map.mp hy
    exact ok_chr ok (List.mem_filter.mp hc).1
  have h4 : (nfs x).isEmpty = allF x := by
    unfold allF nfs
    rw [List.isEmpty_map]
    induction x.cps.toList with
    | nil => rfl
    | cons c l ih => cases hc : fig c <;> simp [hc, ih]
  unfold pNe
  rw [h3, h4]
  rfl
theorem str1_eq (c : Nat) : ((⟨#[c]⟩ : Str) = ("0" : Str)) ↔ c = 48 := by
  have e : ("0" : Str) = ⟨#[48]⟩ := by decide +kernel
  rw [e]
  simp
theorem plD_oD (o : Option Int) : plD (oD o) = true := by cases o <;> rfl
theorem noRef_oD (o : Option Int) : noRef (oD o) = true := by cases o <;> rfl
theorem plD_oI (o : Option Int) : plD (oI o) = true := by cases o <;> rfl
theorem noRef_oI (o : Option Int) : noRef (oI o) = true := by cases o <;> rfl
theorem ix0 {x : Str} {c : Nat} {r : List Nat} (hx : x.length ≤ 16777216) (h : x.cps.toList = c :: r) (S : Sto) : ixF (.str x) (.int 0) S = .ok (.str ⟨#[c]⟩) S := by
  unfold ixF
  simp [hx, h, atI, ixN]
theorem num_int {x : Str} (h1 : (1:Int) ≤ x.length) (h2 : (x.length:Int) ≤ 10) (hf : allF x = true) (S : Sto) : gInt [.str x] S = .ok (.int (digitsVal x.cps.toList)) S := by
  have hd : AllDigits x.cps.toList := fun c hc => (fig_iff c).mp (List.all_eq_true.mp hf c hc)
  have hne : x.cps.toList ≠ [] := fun e => by
    have : x.cps.toList.length = x.length := Array.length_toList
    rw [e] at this
    simp at this
    omega
  have e := intText_digits hd hne (by omega)
  unfold gInt
  simp only [e]
  rw [if_pos (by omega)]
theorem ev_number {S : Sto} (x : Str) (hx : x.length ≤ 16777216) (ok : PyData.strOk x = true) : f_number_of_word [.str x, .int 10] S = .ok (oD (numO x)) S := by
  have h := fun S => nfs_lc (S := S) (x := x) hx (i := 0) (j := 2) (env := [some (D.str x), some (D.int 10), none]) rfl (by simp)
  have h3 := fun S => nfs_ne (S := S) ok
  refine fn_same ?_ (plD_oD _) (noRef_oD _)
  unfold s_number_of_word
  by_cases h0 : (x.length:Int) < 1
  · have : ¬ (1:Int) ≤ x.length := by omega
    simp [enD, hx, h0, this, oD, numO]
  · have h1 : (1:Int) ≤ x.length := by omega
    by_cases h10 : (10:Int) < x.length
    · have : ¬ (x.length:Int) ≤ 10 := by omega
      simp [enD, hx, h0, this, oD, numO, h10]
    · have h10' : (x.length:Int) ≤ 10 := by omega
      cases hf : allF x with
      | false => simp [enD, hx, h0, oD, numO, h10, h, h3, hf]
      | true =>
        cases hc : x.cps.toList with
        | nil =>
          have : x.cps.toList.length = x.length := Array.length_toList
          rw [hc] at this
          simp at this
          omega
        | cons c r =>
          have hz : zer x = decide (c = 48) := by unfold zer; rw [hc]; simp [beq_dec]
          have hi := num_int h1 h10' hf
          by_cases hc48 : c = 48 <;> by_cases hl : (1:Int) < x.length <;> simp [enD, hx, h0, h1, oD, numO, h10, h10', h, h3, hf, ix0 hx hc, hz, hc48, hl, str1_eq, hi]
/-- what a word tells as seen -/
def seenO (x : Str) : Option Str := if x = "-" then some "" else if nmB x = true then some x else none
def sD : Option Str → D
  | none => .non
  | some i => .str i
theorem plD_sD (o : Option Str) : plD (sD o) = true := by cases o <;> rfl
theorem noRef_sD (o : Option Str) : noRef (sD o) = true := by cases o <;> rfl
theorem ev_seen {S : Sto} (x : Str) (hx : x.length ≤ 16777216) : f_seen_of_word [.str x] S = .ok (sD (seenO x)) S := by
  refine fn_same ?_ (plD_sD _) (noRef_sD _)
  unfold s_seen_of_word
  by_cases h : x = "-"
  · simp [enD, h, seenO, sD]
  · cases hn : nmB x <;> simp [enD, h, seenO, sD, ev_is_name x hx, hn]
/-- a text of the law -/
structure Tx (x : Str) : Prop where
  len : x.length ≤ 16777214
  ok : PyData.strOk x = true
theorem Tx.le {x : Str} (h : Tx x) : x.length ≤ 16777216 := Nat.le_trans h.len (by decide)
theorem numO_nn {x : Str} {i : Int} (h : numO x = some i) : 0 ≤ i := by
  unfold numO at h
  split at h
  · split at h
    · cases h
    · injection h with h
      omega
  · cases h
end Pg

set_option maxHeartbeats 4000000
namespace Pg
open PySem PySem.Spec PyProof.Rows L2 Ah PySem.NumText
theorem tl_em : TL.tl ("" : Str) = [] := by decide +kernel
theorem len_em : ("" : Str).length = 0 := by decide +kernel
theorem sum_le {ys : List Str} {n : Nat} (h : ∀ y ∈ ys, y.length ≤ n) : (ys.map (·.length)).sum ≤ n * ys.length := by
  induction ys with
  | nil => simp
  | cons y ys ih =>
    have h1 := h y (by simp)
    have := ih fun z hz => h z (by simp [hz])
    simp only [List.map_cons, List.sum_cons, List.length_cons, Nat.mul_succ]
    omega
end Pg
namespace La
open PySem PySem.Spec PyProof.Rows L2 Ah Pg PySem.NumText
theorem ev_take {ns : List Int} {p q r : Int} (ok : OkS p q r) {b : Int} (b0 : 0 < b) (b1 : b < 1073741824) : ∃ v p' q' r', OkS p' q' r' ∧ 0 ≤ v ∧ v < b ∧ ∀ T, f__law_take [.ref 0, .int b] (stO ns p q r :: T) = .ok (.int v) (stO ns p' q' r' :: T) := by
  have i0 : ∀ (p q r : Int) T, ixF (.ref 0) (.int 0) (stO ns p q r :: T) = .ok (.rls (ns.map .int)) (stO ns p q r :: T) := fun p q r T => rfl
  have i1 : ∀ (p q r : Int) T, ixF (.ref 0) (.int 1) (stO ns p q r :: T) = .ok (.int p) (stO ns p q r :: T) := fun p q r T => rfl
  have i2 : ∀ (p q r : Int) T, ixF (.ref 0) (.int 2) (stO ns p q r :: T) = .ok (.int q) (stO ns p q r :: T) := fun p q r T => rfl
  have i3 : ∀ (p q r : Int) T, ixF (.ref 0) (.int 3) (stO ns p q r :: T) = .ok (.int r) (stO ns p q r :: T) := fun p q r T => rfl
  have s1 : ∀ (p q r v : Int) T, setD (stO ns p q r :: T) (.ref 0) (.int 1) (.int v) = some (stO ns v q r :: T) := fun p q r v T => rfl
  have s2 : ∀ (p q r v : Int) T, setD (stO ns p q r :: T) (.ref 0) (.int 2) (.int v) = some (stO ns p v r :: T) := fun p q r v T => rfl
  have s3 : ∀ (p q r v : Int) T, setD (stO ns p q r :: T) (.ref 0) (.int 3) (.int v) = some (stO ns p q v :: T) := fun p q r v T => rfl
  have m0 : ∀ i, 0 ≤ i % b := fun i => Int.emod_nonneg _ (by omega)
  have m1 : ∀ i, i % b < b := fun i => Int.emod_lt_of_pos _ b0
  by_cases hq : 0 < q
  · refine ⟨q % b, p, q / b, r, ⟨ok.p, Int.ediv_nonneg ok.q (by omega), ok.r0, ok.r1⟩, m0 _, m1 _, fun T => wrap_st (J := []) ?_ rfl rfl⟩
    unfold s__law_take
    simp [enD, i2, s2, hq, b0, b1]
  · have hcell : ∃ c, ∀ (T : Sto) (e0 : Option D), (ifS (tstF (opF (prF pNe) (opF ixF (varF 0) (cF (.int 0))) (lstF nilA))) (setS 3 (opF ixF (opF ixF (varF 0) (cF (.int 0))) (opF oMod (opF ixF (varF 0) (cF (.int 1))) (callF gLen (consA (opF ixF (varF 0) (cF (.int 0))) nilA))))) nopS) [some (.ref 0), some (.int b), e0, some (.int p)] (stO ns p q r :: T) = .nx [some (.ref 0), some (.int b), e0, some (.int c)] (stO ns p q r :: T) := by
      have hne := fun S => pNe_ints0 (ys := ns) (S := S)
      cases he : ns.isEmpty with
      | true =>
        refine ⟨p, fun T e0 => ?_⟩
        rw [he] at hne
        simp [i0, hne]
      | false =>
        rw [he] at hne
        have hl : (0 : Int) < ns.length := by
          have : ns ≠ [] := fun z => by rw [z] at he; cases he
          have := List.length_pos_iff.mpr this
          omega
        obtain ⟨c, hc⟩ := ix_ints (ns := ns) (j := p % ns.length) (Int.emod_nonneg _ (by omega)) (Int.emod_lt_of_pos _ hl)
        refine ⟨c, fun T e0 => ?_⟩
        have hl' : 0 < ns.length := by omega
        simp [i0, i1, hne, hl', hc]
    obtain ⟨c, hc⟩ := hcell
    have hp18 : (10 : Int) ^ 18 = 1000000000000000000 := by decide
    have ln : ∀ S, gLen [.rls (ns.map .int)] S = .ok (.int ns.length) S := fun S => by simp
    have pre : ∀ T, s__law_take (enD 4 [.ref 0, .int b]) (stO ns p q r :: T) = (seqS (stS (opF oAdd (opF ixF (varF 0) (cF (.int 1))) (cF (.int 1))) (varF 0) (cF (.int 1))) (seqS (ifS (andF (tstF (opF (prF pGe) (varF 3) (opF oPow (cF (.int 10)) (cF (.int 18))))) (tstF (opF (prF pLeA) (opF ixF (varF 0) (cF (.int 1))) (callF gLen (consA (opF ixF (varF 0) (cF (.int 0))) nilA))))) (seqS (stS (opF oDiv (varF 3) (varF 1)) (varF 0) (cF (.int 2))) (retS (opF oMod (varF 3) (varF 1)))) nopS) (seqS (setS 3 (opF oMod (varF 3) (cF (.int 2305843009213693951)))) (seqS (stS (opF oMod (opF oAddA (opF oAddA (opF oMulA (opF ixF (varF 0) (cF (.int 3))) (cF (.int 48271))) (opF oMulA (varF 3) (cF (.int 69621)))) (opF ixF (varF 0) (cF (.int 1)))) (cF (.int 2305843009213693951))) (varF 0) (cF (.int 3))) (retS (opF oMod (opF oDiv (opF oMod (opF oMulA (opF ixF (varF 0) (cF (.int 3))) (opF ixF (varF 0) (cF (.int 3)))) (cF (.int 2147483629))) (cF (.int 8))) (varF 1)))))))
        [some (.ref 0), some (.int b), none, some (.int c)] (stO ns p q r :: T) := fun T => by
      unfold s__law_take
      rw [show enD 4 [D.ref 0, D.int b] = [some (.ref 0), some (.int b), none, none] from rfl]
      refine (seq_nx (e := [some (.ref 0), some (.int b), none, none]) (S1 := stO ns p q r :: T) ?_).trans ((seq_nx (e := [some (.ref 0), some (.int b), none, some (.int p)]) (S1 := stO ns p q r :: T) ?_).trans (seq_nx (hc T none)))
      · simp [i2, hq]
      · simp [i1]
    have a1 : ∀ (i j : Int) S, oAddA (.int i) (.int j) S = .ok (.int (i + j)) S := fun i j S => rfl
    have a2 : ∀ (i j : Int) S, (-(2 ^ 64) < i ∧ i < 2 ^ 64) ∨ (-(2 ^ 64) < j ∧ j < 2 ^ 64) → oMulA (.int i) (.int j) S = .ok (.int (i * j)) S := fun i j S h => by
      unfold oMulA
      simp only
      rw [if_pos h]
    by_cases hb : 1000000000000000000 ≤ c ∧ p + 1 ≤ ns.length
    · refine ⟨c % b, p + 1, c / b, r, ⟨by have := ok.p; omega, Int.ediv_nonneg (by omega) (by omega), ok.r0, ok.r1⟩, m0 _, m1 _, fun T => wrap_st (J := []) ?_ rfl rfl⟩
      rw [pre]
      simp [i0, i1, i2, s1, s2, b0, b1, hb.1, hb.2]
    · have r0 : ∀ i : Int, 0 ≤ i % 2305843009213693951 := fun i => Int.emod_nonneg _ (by decide)
      have r1 : ∀ i : Int, i % 2305843009213693951 < 2305843009213693951 := fun i => Int.emod_lt_of_pos _ (by decide)
      have u1 : ∀ S, oMulA (.int r) (.int 48271) S = .ok (.int (r * 48271)) S := fun S => a2 _ _ S (.inr ⟨by decide, by decide⟩)
      have u2 : ∀ (i : Int) S, oMulA (.int i) (.int 69621) S = .ok (.int (i * 69621)) S := fun i S => a2 _ _ S (.inr ⟨by decide, by decide⟩)
      have u3 : ∀ (i : Int) S, oMulA (.int (i % 2305843009213693951)) (.int (i % 2305843009213693951)) S = .ok (.int (i % 2305843009213693951 * (i % 2305843009213693951))) S := fun i S => a2 _ _ S (.inl ⟨by have := r0 i; omega, by have := r1 i; omega⟩)
      refine ⟨_, p + 1, q, _, ⟨by have := ok.p; omega, ok.q, r0 (r * 48271 + c % 2305843009213693951 * 69621 + (p + 1)), r1 _⟩, m0 ((r * 48271 + c % 2305843009213693951 * 69621 + (p + 1)) % 2305843009213693951 * ((r * 48271 + c % 2305843009213693951 * 69621 + (p + 1)) % 2305843009213693951) % 2147483629 / 8), m1 _, fun T => wrap_st (J := []) ?_ rfl rfl⟩
      rw [pre]
      by_cases h1 : 1000000000000000000 ≤ c
      · have h2 : ¬ p + 1 ≤ ns.length := fun z => hb ⟨h1, z⟩
        simp [i0, i1, i2, i3, s1, s2, s3, b0, b1, h1, h2, a1, u1, u2, u3]
      · simp [i0, i1, i2, i3, s1, s2, s3, b0, b1, h1, a1, u1, u2, u3]
theorem lt_len : LTS.length = 26 := by decide +kernel
/-- the letter of a number -/
theorem ix_ltr {v : Int} (h0 : 0 ≤ v) (h1 : v < 26) (S : Sto) : ixF (.str "abcdefghijklmnopqrstuvwxyz") (.int v) S = .ok (.str ⟨#[97 + v.toNat]⟩) S := by
  have hg : ∀ n : Nat, n < 26 → LTS.cps.toList[n]? = some (97 + n) := by
    rw [lts_eq]
    decide
  have hl : LTS.cps.toList.length = 26 := by rw [lts_eq]; rfl
  unfold ixF
  have e : atI (Str.ofString "abcdefghijklmnopqrstuvwxyz").cps.toList v = some (97 + v.toNat) := by
    unfold atI ixN
    rw [show (Str.ofString "abcdefghijklmnopqrstuvwxyz").cps.toList.length = 26 from hl, if_pos h0, if_pos (by omega)]
    exact hg v.toNat (by omega)
  simp only [e]
  rw [if_pos (by rw [show (Str.ofString "abcdefghijklmnopqrstuvwxyz").length = 26 from lt_len]; decide)]
/-- the letter in a name -/
def lett (b s k : Int) : Nat := 97 + ((b + s * k) % 26).toNat
def nameL (st : List Nat) (a : Nat) (b s k : Int) : List Nat := st.take a ++ (lett b s k :: st.drop a)
def nameS (st : Str) (a b s k : Int) : Str := (cutS st none (some a) ++ ⟨#[lett b s k]⟩) ++ cutS st (some a) none
theorem nameS_tl {st : Str} {a b s k : Int} (ha : 0 ≤ a) : TL.tl (nameS st a b s k) = nameL (TL.tl st) a.toNat b s k := by
  unfold nameS nameL
  rw [TL.tl_append, TL.tl_append, cut_hi ha, cut_lo ha, List.append_assoc]
  rfl
theorem nameS_nm {st : Str} {a b s k : Int} (ha : 0 ≤ a) (hl : st.length ≤ 7) (hs : ∀ c ∈ TL.tl st, ltr c = true) : nmB (nameS st a b s k) = true := by
  have ht := nameS_tl (st := st) (b := b) (s := s) (k := k) ha
  have hlen : (nameS st a b s k).length = st.length + 1 := by
    rw [TL.len_tl, TL.len_tl, ht]
    unfold nameL
    rw [List.length_append, List.length_cons, List.length_take, List.length_drop]
    omega
  unfold nmB allL
  rw [Bool.and_eq_true, Bool.and_eq_true]
  refine ⟨by rw [hlen]; simp; omega, by rw [hlen]; simp; omega, List.all_eq_true.mpr fun c hc => ?_⟩
  have hc : c ∈ TL.tl (nameS st a b s k) := hc
  rw [ht] at hc
  unfold nameL at hc
  rcases List.mem_append.mp hc with hc | hc
  · exact hs c (List.mem_of_mem_take hc)
  · rcases List.mem_cons.mp hc with rfl | hc
    · refine (ltr_iff _).mpr ?_
      unfold lett
      have h0 := Int.emod_nonneg (b + s * k) (b := 26) (by decide)
      have h1 := Int.emod_lt_of_pos (b + s * k) (b := 26) (by decide)
      omega
    · exact hs c (List.mem_of_mem_drop hc)
theorem nameS_inj {st : Str} {a b s k j : Int} (ha : 0 ≤ a) (hs : s = 1 ∨ s = 25 ∨ s = 7 ∨ s = 5) (k0 : 0 ≤ k) (k1 : k < 26) (j0 : 0 ≤ j) (j1 : j < 26) (e : nameS st a b s k = nameS st a b s j) : k = j := by
  have e := congrArg TL.tl e
  rw [nameS_tl ha, nameS_tl ha] at e
  unfold nameL at e
  have e := List.append_cancel_left e
  injection e with e _
  unfold lett at e
  have h0 := Int.emod_nonneg (b + s * k) (b := 26) (by decide)
  have h1 := Int.emod_nonneg (b + s * j) (b := 26) (by decide)
  have e : (b + s * k) % 26 = (b + s * j) % 26 := by omega
  rcases hs with rfl | rfl | rfl | rfl <;> omega
theorem join_chars (cs : List Nat) (hl : cs.length ≤ 1000) : ∃ st : Str, TL.tl st = cs ∧ ∀ S, gJoin (.str "") [.tml (cs.map fun c => .str ⟨#[c]⟩)] S = .ok (.str st) S := by
  refine ⟨Txt.join "" (cs.map fun c => (⟨#[c]⟩ : Str)), ?_, fun S => ?_⟩
  · rw [TL.join_eq, TL.tl_join, tl_em, List.map_map]
    clear hl
    induction cs with
    | nil => rfl
    | cons a l ih =>
      cases l with
      | nil => rfl
      | cons b r =>
        rw [List.map_cons] at ih
        show [a] ++ ([] ++ TL.joinL [] ((TL.tl ∘ fun c => (⟨#[c]⟩ : Str)) b :: List.map (TL.tl ∘ fun c => (⟨#[c]⟩ : Str)) r)) = _
        rw [ih]
        simp
  · unfold gJoin
    rw [show (cs.map fun c => D.str ⟨#[c]⟩) = (cs.map fun c => (⟨#[c]⟩ : Str)).map .str by simp]
    simp only [seqD, Option.bind_some, strsD_map]
    have hs := sum_le (ys := cs.map fun c => (⟨#[c]⟩ : Str)) (n := 1) fun y hy => by
      obtain ⟨c, _, rfl⟩ := List.mem_map.mp hy
      exact Nat.le_refl 1
    rw [if_pos (by rw [len_em]; rw [List.length_map] at *; omega)]
theorem chars_of (P : Nat → Prop) : ∀ {ys : List D}, (∀ y ∈ ys, ∃ c, y = D.str ⟨#[c]⟩ ∧ P c) → ∃ cs : List Nat, ys = cs.map (fun c => D.str ⟨#[c]⟩) ∧ ∀ c ∈ cs, P c
  | [], _ => ⟨[], rfl, fun c hc => by cases hc⟩
  | y :: ys, h => by
    obtain ⟨c, e, hc⟩ := h y (by simp)
    obtain ⟨cs, e2, h2⟩ := chars_of P fun z hz => h z (List.mem_cons_of_mem _ hz)
    refine ⟨c :: cs, by rw [e, e2]; rfl, fun d hd => ?_⟩
    rcases List.mem_cons.mp hd with rfl | hd
    · exact hc
    · exact h2 d hd

/-! ### by function -/
theorem take_ex (ns : List Int) (d : DS) {b : Int} (b0 : 0 < b) (b1 : b < 1073741824) : ∃ r : Int × DS, 0 ≤ r.1 ∧ r.1 < b ∧ ∀ T, f__law_take [.ref 0, .int b] (sto ns d :: T) = .ok (.int r.1) (sto ns r.2 :: T) := by
  obtain ⟨v, p, q, r, ok, h0, h1, e⟩ := ev_take (ns := ns) d.ok b0 b1
  exact ⟨(v, ⟨p, q, r, ok⟩), h0, h1, e⟩
open Classical in
noncomputable def take (ns : List Int) (d : DS) (b : Int) : Int × DS := if h : 0 < b ∧ b < 1073741824 then Classical.choose (take_ex ns d h.1 h.2) else (0, d)
theorem take_lo {ns : List Int} {d : DS} {b : Int} : 0 ≤ (take ns d b).1 := by
  unfold take
  split
  · rename_i h; exact (Classical.choose_spec (take_ex ns d h.1 h.2)).1
  · exact Int.le_refl _
theorem take_hi {ns : List Int} {d : DS} {b : Int} (b0 : 0 < b) : (take ns d b).1 < b := by
  unfold take
  split
  · rename_i h; exact (Classical.choose_spec (take_ex ns d h.1 h.2)).2.1
  · exact b0
theorem ev_tk {ns : List Int} {d : DS} {b : Int} {T : Sto} (b0 : 0 < b) (b1 : b < 1073741824) : f__law_take [.ref 0, .int b] (sto ns d :: T) = .ok (.int (take ns d b).1) (sto ns (take ns d b).2 :: T) := by
  unfold take
  rw [dif_pos ⟨b0, b1⟩]
  exact (Classical.choose_spec (take_ex ns d b0 b1)).2.2 T
noncomputable def tk (ns : List Int) (d : DS) (b : Int) : Int := (take ns d b).1
noncomputable def tks (ns : List Int) (d : DS) (b : Int) : DS := (take ns d b).2
theorem tk_lo {ns : List Int} {d : DS} {b : Int} : 0 ≤ tk ns d b := take_lo
theorem tk_lt {ns : List Int} {d : DS} {b : Int} (h : 0 < b) : tk ns d b < b := take_hi h
theorem ev_tki {ns : List Int} {d : DS} {T : Sto} (b : Int) (b0 : 0 < b := by omega) (b1 : b < 1073741824 := by omega) : f__law_take [.ref 0, .int b] (sto ns d :: T) = .ok (.int (tk ns d b)) (sto ns (tks ns d b) :: T) := ev_tk b0 b1
/-! ### names -/
noncomputable def stemC (ns : List Int) (d : DS) : List Nat × DS := mapD (fun d (_ : Nat) => (97 + (tk ns d 26).toNat, tks ns d 26)) (tks ns d 8) (List.range (tk ns d 8).toNat)
theorem stemC_len {ns : List Int} {d : DS} : (stemC ns d).1.length ≤ 7 := by
  unfold stemC
  rw [mapD_length, List.length_range]
  have := tk_lt (ns := ns) (d := d) (b := 8) (by decide)
  omega
theorem stemC_ltr {ns : List Int} {d : DS} : ∀ c ∈ (stemC ns d).1, ltr c = true := by
  unfold stemC
  refine mapD_all (P := fun c => ltr c = true) _ _ fun a _ d => (ltr_iff _).mpr ?_
  have := tk_lt (ns := ns) (d := d) (b := 26) (by decide)
  have := tk_lo (ns := ns) (d := d) (b := 26)
  dsimp only
  omega
noncomputable def stemS (ns : List Int) (d : DS) : Str := Classical.choose (join_chars (stemC ns d).1 (Nat.le_trans stemC_len (by decide)))
theorem stemS_tl {ns : List Int} {d : DS} : TL.tl (stemS ns d) = (stemC ns d).1 := (Classical.choose_spec (join_chars (stemC ns d).1 (Nat.le_trans stemC_len (by decide)))).1
theorem stemS_join {ns : List Int} {d : DS} (S : Sto) : gJoin (.str "") [.tml ((stemC ns d).1.map fun c => .str ⟨#[c]⟩)] S = .ok (.str (stemS ns d)) S := (Classical.choose_spec (join_chars (stemC ns d).1 (Nat.le_trans stemC_len (by decide)))).2 S
theorem stemS_len {ns : List Int} {d : DS} : (stemS ns d).length ≤ 7 := by rw [TL.len_tl, stemS_tl]; exact stemC_len
def stepN (n : Int) : Int := if n = 0 then 1 else if n = 1 then 25 else if n = 2 then 7 else 5
theorem stepN_or (n : Int) : stepN n = 1 ∨ stepN n = 25 ∨ stepN n = 7 ∨ stepN n = 5 := by
  unfold stepN
  split
  · exact .inl rfl
  · split
    · exact .inr (.inl rfl)
    · split
      · exact .inr (.inr (.inl rfl))
      · exact .inr (.inr (.inr rfl))
/-- the names, the state behind -/
noncomputable def names (ns : List Int) (d : DS) (many : Nat) : List Str × DS :=
  let st := stemS ns d
  let d1 := (stemC ns d).2
  let a := tk ns d1 (st.length + 1); let d2 := tks ns d1 (st.length + 1)
  let b := tk ns d2 26; let d3 := tks ns d2 26
  let s := stepN (tk ns d3 4); let d4 := tks ns d3 4
  ((List.range many).map fun k : Nat => nameS st a b s k, d4)
theorem names_len {ns : List Int} {d : DS} {many : Nat} : (names ns d many).1.length = many := by unfold names; simp
theorem names_nd {ns : List Int} {d : DS} {many : Nat} (h : many ≤ 26) : (names ns d many).1.Nodup := by
  unfold names
  refine List.pairwise_map.mpr (List.pairwise_lt_range.imp_of_mem fun {x y} hx hy hlt e => ?_)
  have hx := List.mem_range.mp hx
  have hy := List.mem_range.mp hy
  have := nameS_inj tk_lo (stepN_or _) (by omega) (by omega) (by omega) (by omega) e
  omega
theorem names_nm {ns : List Int} {d : DS} {many : Nat} : ∀ n ∈ (names ns d many).1, nmB n = true := by
  unfold names
  intro n hn
  obtain ⟨k, _, rfl⟩ := List.mem_map.mp hn
  exact nameS_nm tk_lo stemS_len fun c hc => stemC_ltr c (by rw [← stemS_tl]; exact hc)
theorem ev_names {ns : List Int} {d : DS} {T : Sto} (many : Nat) {m : Int} (hm : m = (many : Int) := by omega) (m1 : many ≤ 26 := by omega) : f__law_names [.ref 0, .int m] (sto ns d :: T) = .ok (.tml ((names ns d many).1.map .str)) (sto ns (names ns d many).2 :: T) := by
  have hv0 := tk_lt (ns := ns) (d := d) (b := 8) (by decide)
  have hv1 := tk_lo (ns := ns) (d := d) (b := 8)
  have t1 : lcF (rngI1 (consA (alF (runF f__law_take [] (consA (varF 0) (consA (cF (.int 8)) nilA)))) nilA)) (nmG 7) yesF e__law_names_1 [7] [some (.ref 0), some (.int m), some (.str "abcdefghijklmnopqrstuvwxyz"), none, none, none, none, none] (sto ns d :: T) =
      .ok (.tml ((stemC ns d).1.map fun c => .str ⟨#[c]⟩)) (sto ns (stemC ns d).2 :: T) := by
    refine lc_st (List.range (tk ns d 8).toNat) (fun i : Nat => D.int (0 + (i : Int))) (fun c => D.str ⟨#[c]⟩) (fun d (_ : Nat) => (97 + (tk ns d 26).toNat, tks ns d 26)) ?_ (by rw [List.length_range]; omega) fun a ha d => ⟨_, rfl, ?_⟩
    · have t0 := ev_tki (ns := ns) (d := d) (T := T) 8
      exact rng1I (by simp [t0]) (n62 hv1 (by omega))
    · have t := ev_tki (ns := ns) (d := d) (T := T) 26
      have hb := tk_lt (ns := ns) (d := d) (b := 26) (by decide)
      have hx := ix_ltr (v := tk ns d 26) tk_lo hb (sto ns (tks ns d 26) :: T)
      generalize D.int (0 + (a : Int)) = z
      unfold e__law_names_1
      simp [t, hx]
  have hsl := stemS_len (ns := ns) (d := d)
  have hj := stemS_join (ns := ns) (d := d)
  unfold names
  dsimp only
  generalize stemS ns d = st at *
  generalize (stemC ns d).2 = d1 at *
  have t2 := ev_tki (ns := ns) (d := d1) (T := T) ((st.length : Int) + 1)
  have ha0 := tk_lo (ns := ns) (d := d1) (b := (st.length : Int) + 1)
  generalize tk ns d1 ((st.length : Int) + 1) = a at *
  generalize tks ns d1 ((st.length : Int) + 1) = d2 at *
  have t3 := ev_tki (ns := ns) (d := d2) (T := T) 26
  have hb0 := tk_lo (ns := ns) (d := d2) (b := 26)
  generalize tk ns d2 26 = b at *
  generalize tks ns d2 26 = d3 at *
  have t4 := ev_tki (ns := ns) (d := d3) (T := T) 4
  have h4 := tk_lt (ns := ns) (d := d3) (b := 4) (by decide)
  have h40 := tk_lo (ns := ns) (d := d3) (b := 4)
  generalize tk ns d3 4 = v at *
  generalize tks ns d3 4 = d4 at *
  have hix : ∀ S, ixF (.tml [.int 1, .int 25, .int 7, .int 5]) (.int v) S = .ok (.int (stepN v)) S := fun S => by
    have : v = 0 ∨ v = 1 ∨ v = 2 ∨ v = 3 := by omega
    rcases this with rfl | rfl | rfl | rfl <;> rfl
  have hs := stepN_or v
  generalize stepN v = s at *
  have sl : st.length ≤ 16777216 := by omega
  have c1 := cutS_length st none (some a)
  have c2 := cutS_length st (some a) none
  have hel : ∀ (z : Int) (S : Sto), 0 ≤ z → z ≤ 26 → e__law_names_2 [some (.ref 0), some (.int m), some (.str "abcdefghijklmnopqrstuvwxyz"), some (.str st), some (.int a), some (.int b), some (.int s), some (.int z)] S = .ok (.str (nameS st a b s z)) S := fun z S z0 z1 => by
    have e1 : ∀ S, oMulA (.int s) (.int z) S = .ok (.int (s * z)) S := fun S => mulA_ok (.inr (n64 z0 (by omega)))
    have e2 : ∀ S, oAddA (.int b) (.int (s * z)) S = .ok (.int (b + s * z)) S := fun S => rfl
    have e3 := ix_ltr (v := (b + s * z) % 26) (Int.emod_nonneg _ (by decide)) (Int.emod_lt_of_pos _ (by decide))
    have d1 : ∀ S, oAddA (.str (cutS st none (some a))) (.str ⟨#[97 + ((b + s * z) % 26).toNat]⟩) S = .ok (.str (cutS st none (some a) ++ ⟨#[97 + ((b + s * z) % 26).toNat]⟩)) S := fun S => by
      unfold oAddA
      simp only
      rw [if_pos (by show _ + 1 ≤ _; omega)]
    have d2 : ∀ S, oAddA (.str (cutS st none (some a) ++ ⟨#[97 + ((b + s * z) % 26).toNat]⟩)) (.str (cutS st (some a) none)) S = .ok (.str (nameS st a b s z)) S := fun S => by
      unfold oAddA
      simp only
      rw [if_pos (by rw [Str.length_append]; show _ + 1 + _ ≤ _; omega)]
      rfl
    unfold e__law_names_2
    simp [slD, sl, e1, e2, e3, d1, d2]
  have hlc : ∀ S, lcF (rngI1 (consA (varF 1) nilA)) (nmG 7) yesF e__law_names_2 [7] [some (.ref 0), some (.int m), some (.str "abcdefghijklmnopqrstuvwxyz"), some (.str st), some (.int a), some (.int b), some (.int s), none] S = .ok (.tml ((List.range many).map fun k : Nat => D.str (nameS st a b s (k : Int)))) S := fun S => by
    refine lc_map (α := Nat) (fun i => D.int (0 + (i : Int))) _ (safe := Alw) ?_ trivial (by simp; omega) fun k hk => ⟨_, rfl, rfl, ?_⟩
    · exact (rng1I (S1 := S) (n := m) (by simp) (n62 (by omega) (by omega))).trans (by rw [hm]; rfl)
    · have hk := List.mem_range.mp hk
      rw [Int.zero_add]
      exact hel _ S (by omega) (by omega)
  have hlc := hlc (sto ns d4 :: T)
  rw [show (((List.range many).map fun k : Nat => nameS st a b s (k : Int)).map D.str) = (List.range many).map fun k : Nat => D.str (nameS st a b s (k : Int)) by simp]
  refine wrap_sto_mk (J := [.lst ((List.range many).map fun k : Nat => D.str (nameS st a b s (k : Int)))]) (i := T.length + 1) ?_ (by omega) ?_ (noRefs_map _ (fun _ => rfl) _)
  · unfold s__law_names
    simp [enD, t1, hj, t2, t3, t4, hix, sl, hlc]
  · rw [List.getElem?_cons_succ, List.getElem?_append_right (Nat.le_refl _)]
    simp
end La

set_option maxHeartbeats 4000000
namespace Pg
open PySem PySem.Spec PyProof.Rows L2 Ah PySem.NumText
def numS (i : Int) : Str := Str.ofString (toString i)
theorem numS_nat {i : Int} (h : 0 ≤ i) : TL.tl (numS i) = TL.numL i.toNat := by
  obtain ⟨n, rfl⟩ := Int.eq_ofNat_of_zero_le h
  exact TL.tl_num n
theorem numS_len {i : Int} (h : 0 ≤ i) (h1 : i < 10 ^ 10) : (numS i).length ≤ 10 := by
  rw [TL.len_tl, numS_nat h]
  exact TL.numL_len (by decide) (by omega)
theorem nmB_ltr {x : Str} (h : nmB x = true) : ∀ c ∈ TL.tl x, ltr c = true := fun c hc => by
  unfold nmB allL at h
  simp only [Bool.and_eq_true] at h
  exact List.all_eq_true.mp h.2.2 c hc
theorem tl_sp : TL.tl (" " : Str) = [32] := by decide +kernel
theorem tl_nl : TL.tl ("\n" : Str) = [10] := by decide +kernel
theorem num_back {i : Int} (h : 0 ≤ i) (h1 : i < 10 ^ 10) : numO (numS i) = some i := by
  have hl := numS_len h h1
  have ht := numS_nat h
  have hf : allF (numS i) = true := List.all_eq_true.mpr fun c hc => (fig_iff c).mpr (by
    rw [show (numS i).cps.toList = TL.numL i.toNat from ht] at hc
    exact TL.numL_digits _ c hc)
  have hne := TL.numL_ne i.toNat
  have h0 : (1:Int) ≤ (numS i).length := by
    rw [TL.len_tl, ht]
    have := List.length_pos_iff.mpr hne
    omega
  have hv : digitsVal (numS i).cps.toList = i.toNat := by
    rw [show (numS i).cps.toList = TL.numL i.toNat from ht, TL.numL_val]
  have hz : ¬ (zer (numS i) = true ∧ (1:Int) < (numS i).length) := by
    rintro ⟨z1, z2⟩
    unfold zer at z1
    rw [show (numS i).cps.toList = TL.numL i.toNat from ht] at z1
    rw [TL.len_tl, ht] at z2
    have key : ∀ n : Nat, (TL.numL n).head? = some 48 → (TL.numL n).length ≤ 1 := by
      intro n
      induction n using Nat.strongRecOn with
      | _ n ih =>
        intro hh
        by_cases hn : n < 10
        · rw [TL.numL_lt hn]; simp
        · rw [TL.numL_step (by omega)] at hh
          rw [List.head?_append] at hh
          have hx : (TL.numL (n / 10)).head? = some 48 := by
            cases hq : (TL.numL (n / 10)).head? with
            | none => exact absurd (List.head?_eq_none_iff.mp hq) (TL.numL_ne _)
            | some v => rw [hq] at hh; simpa using hh
          have hh := hx
          have := ih (n / 10) (by omega) hh
          have hb : n / 10 < 10 := by
            by_cases hb : n / 10 < 10
            · exact hb
            · exfalso
              rw [TL.numL_step (by omega)] at this
              have hp := List.length_pos_iff.mpr (TL.numL_ne (n / 10 / 10))
              simp only [List.length_append, List.length_cons, List.length_nil] at this
              omega
          rw [TL.numL_lt hb] at hh
          simp at hh
          omega
    have := key _ (by simpa using z1)
    omega
  unfold numO
  rw [if_pos ⟨h0, by omega, hf⟩, if_neg hz, hv]
  congr 1
  omega
def NL : Str := "\n"
def SP : Str := " "
theorem tx_part {x y : Str} {c : Nat} (h : Tx x) (hy : y ∈ Txt.split x ⟨#[c]⟩) : Tx y := by
  refine ⟨Nat.le_trans (part_short hy) h.len, ?_⟩
  have e := StrLaws.join_split x ⟨#[c]⟩
  have : ∀ (ps : List Str) (s : Str), PyData.strOk (Str.join s ps) = true → ∀ p ∈ ps, PyData.strOk p = true := by
    intro ps s
    induction ps with
    | nil => intro _ p hp; cases hp
    | cons p ps ih =>
      intro h q hq
      cases ps with
      | nil =>
        rw [List.mem_singleton.mp hq]
        exact h
      | cons b r =>
        have h : PyData.strOk (p ++ s ++ Str.join s (b :: r)) = true := h
        have ha : ∀ u v : Str, PyData.strOk (u ++ v) = true → PyData.strOk u = true ∧ PyData.strOk v = true := fun u v h => by
          unfold PyData.strOk at h ⊢
          have e : (u ++ v).cps = u.cps ++ v.cps := rfl
          rw [e, Array.all_append] at h
          exact Bool.and_eq_true_iff.mp h
        have h1 := ha _ _ h
        have h2 := ha _ _ h1.1
        rcases List.mem_cons.mp hq with rfl | hq
        · exact h2.1
        · exact ih h1.2 q hq
  exact this _ _ (by rw [e]; exact h.ok) y hy
theorem sp_eq : (" " : Str) = ⟨#[32]⟩ := by decide +kernel
theorem nl_eq : ("\n" : Str) = ⟨#[10]⟩ := by decide +kernel
end Pg

set_option maxHeartbeats 4000000
namespace Pg
open PySem PySem.Spec PyProof.Rows L2 Ah PySem.NumText
theorem nmB_le {x : Str} (h : nmB x = true) : x.length ≤ 8 := by
  unfold nmB at h
  simp only [Bool.and_eq_true, decide_eq_true_eq] at h
  omega
theorem nmB_asc {x : Str} (h : nmB x = true) : Asc x := fun c hc => by
  have := (ltr_iff c).mp (nmB_ltr h c hc)
  omega
theorem nmB_tx {x : Str} (h : nmB x = true) : Tx x := ⟨by have := nmB_le h; omega, (nmB_asc h).ok⟩
theorem nmB_ne {x : Str} (h : nmB x = true) : x ≠ "" := fun z => by
  rw [z] at h
  exact absurd h (by decide +kernel)
/-! ### words, rows of words, texts of rows -/
/-- a word's signs: -, ., figures, letters -/
def okc (c : Nat) : Prop := c = 45 ∨ c = 46 ∨ (48 ≤ c ∧ c ≤ 57) ∨ (97 ≤ c ∧ c ≤ 122)
structure WdOk (w : Str) : Prop where
  len : w.length ≤ 10
  ok : ∀ c ∈ TL.tl w, okc c
theorem wd_nm {x : Str} (h : nmB x = true) : WdOk x := ⟨by have := nmB_le h; omega, fun c hc => .inr (.inr (.inr ((ltr_iff c).mp (nmB_ltr h c hc))))⟩
theorem wd_num {i : Int} (h : 0 ≤ i) (h1 : i < 10 ^ 10) : WdOk (numS i) := ⟨numS_len h h1, fun c hc => by
  rw [numS_nat h] at hc
  exact .inr (.inr (.inl (TL.numL_digits _ c hc)))⟩
theorem tl_ofS (s : String) : TL.tl (Str.ofString s) = s.toList.map (·.toNat) := TL.tl_ofString s
theorem wd_dash : WdOk "-" := ⟨by decide +kernel, fun c hc => by
  rw [show TL.tl ("-" : Str) = [45] from by decide +kernel] at hc
  exact .inl (List.mem_singleton.mp hc)⟩
theorem wd_dot : WdOk "." := ⟨by decide +kernel, fun c hc => by
  rw [show TL.tl ("." : Str) = [46] from by decide +kernel] at hc
  exact .inr (.inl (List.mem_singleton.mp hc))⟩
def rT (ws : List Str) : Str := Txt.join " " ws
def tX (rs : List (List Str)) : Str := Txt.join "\n" (rs.map rT ++ [("" : Str)])
/-- a row of words -/
structure RwOk (ws : List Str) : Prop where
  ne : ws ≠ []
  len : ws.length ≤ 10
  wd : ∀ w ∈ ws, WdOk w
theorem rT_tl (ws : List Str) : TL.tl (rT ws) = TL.joinL [32] (ws.map TL.tl) := by
  unfold rT
  rw [TL.join_eq, TL.tl_join, tl_sp]
theorem joinL_mem {s : List Nat} {c : Nat} : ∀ {ls : List (List Nat)}, c ∈ TL.joinL s ls → c ∈ s ∨ ∃ l ∈ ls, c ∈ l
  | [], h => by simp [TL.joinL] at h
  | [a], h => .inr ⟨a, by simp, by simpa [TL.joinL] using h⟩
  | a :: b :: r, h => by
    have h : c ∈ a ++ (s ++ TL.joinL s (b :: r)) := by simpa [TL.joinL] using h
    rcases List.mem_append.mp h with h | h
    · exact .inr ⟨a, by simp, h⟩
    · rcases List.mem_append.mp h with h | h
      · exact .inl h
      · rcases joinL_mem h with h | ⟨l, hl, h⟩
        · exact .inl h
        · exact .inr ⟨l, List.mem_cons_of_mem _ hl, h⟩
theorem joinL_len {s : List Nat} {n : Nat} : ∀ {ls : List (List Nat)}, (∀ l ∈ ls, l.length ≤ n) → (TL.joinL s ls).length ≤ (n + s.length) * ls.length
  | [], _ => by simp [TL.joinL]
  | [a], h => by
    have := h a (by simp)
    simp only [TL.joinL, List.length_cons, List.length_nil]
    omega
  | a :: b :: r, h => by
    have h1 := h a (by simp)
    have ih := joinL_len (s := s) (ls := b :: r) fun l hl => h l (List.mem_cons_of_mem _ hl)
    have e : TL.joinL s (a :: b :: r) = a ++ (s ++ TL.joinL s (b :: r)) := by simp [TL.joinL]
    rw [e, List.length_append, List.length_append]
    rw [show (a :: b :: r).length = (b :: r).length + 1 from rfl, Nat.mul_succ]
    omega
theorem rT_ok {ws : List Str} (h : RwOk ws) : ∀ c ∈ TL.tl (rT ws), c = 32 ∨ okc c := fun c hc => by
  rw [rT_tl] at hc
  rcases joinL_mem hc with hc | ⟨l, hl, hc⟩
  · exact .inl (List.mem_singleton.mp hc)
  · obtain ⟨w, hw, rfl⟩ := List.mem_map.mp hl
    exact .inr ((h.wd w hw).ok c hc)
theorem rT_len {ws : List Str} (h : RwOk ws) : (rT ws).length ≤ 11 * ws.length := by
  rw [TL.len_tl, rT_tl]
  have := joinL_len (s := [32]) (n := 10) (ls := ws.map TL.tl) fun l hl => by
    obtain ⟨w, hw, rfl⟩ := List.mem_map.mp hl
    have := (h.wd w hw).len
    rwa [TL.len_tl] at this
  rwa [List.length_map] at this
theorem rT_split {ws : List Str} (h : RwOk ws) : Txt.split (rT ws) " " = ws := by
  refine TL.split_join (s := 32) (S := []) tl_sp (by decide +kernel) h.ne fun p hp hc => ?_
  have := (h.wd p hp).ok 32 hc
  unfold okc at this
  omega
theorem tX_split {rs : List (List Str)} (h : ∀ r ∈ rs, RwOk r) : Txt.split (tX rs) "\n" = rs.map rT ++ [("" : Str)] := by
  refine TL.split_join (s := 10) (S := []) tl_nl (by decide +kernel) (by simp) fun p hp hc => ?_
  rcases List.mem_append.mp hp with hp | hp
  · obtain ⟨r, hr, rfl⟩ := List.mem_map.mp hp
    have := rT_ok (h r hr) 10 hc
    unfold okc at this
    omega
  · rw [List.mem_singleton.mp hp, tl_em] at hc
    cases hc
theorem tX_tl (rs : List (List Str)) : TL.tl (tX rs) = (rs.map fun r => TL.tl (rT r) ++ [10]).flatten := by
  unfold tX
  rw [TL.join_eq, TL.tl_join, tl_nl]
  induction rs with
  | nil => simp [TL.joinL, tl_em]
  | cons r rs ih =>
    cases rs with
    | nil => simp [TL.joinL, tl_em]
    | cons q rs =>
      simp only [List.map_cons, List.cons_append] at ih ⊢
      rw [List.flatten_cons, ← ih]
      simp [TL.joinL]
theorem tX_asc {rs : List (List Str)} (h : ∀ r ∈ rs, RwOk r) : Asc (tX rs) := fun c hc => by
  rw [tX_tl] at hc
  obtain ⟨l, hl, hc⟩ := List.mem_flatten.mp hc
  obtain ⟨r, hr, rfl⟩ := List.mem_map.mp hl
  rcases List.mem_append.mp hc with hc | hc
  · have := rT_ok (h r hr) c hc
    unfold okc at this
    omega
  · rw [List.mem_singleton.mp hc]; decide
theorem tX_len {rs : List (List Str)} {n : Nat} (h : ∀ r ∈ rs, RwOk r ∧ r.length ≤ n) : (tX rs).length ≤ (11 * n + 1) * rs.length := by
  rw [TL.len_tl, tX_tl]
  induction rs with
  | nil => simp
  | cons r rs ih =>
    have h1 := rT_len (h r (by simp)).1
    have h2 := (h r (by simp)).2
    have h3 : 11 * r.length ≤ 11 * n := by omega
    rw [TL.len_tl] at h1
    have ih := ih fun q hq => h q (by simp [hq])
    simp only [List.map_cons, List.flatten_cons, List.length_append, List.length_cons, List.length_nil, Nat.mul_succ] at ih ⊢
    omega
theorem rT_asc {ws : List Str} (h : RwOk ws) : Asc (rT ws) := fun c hc => by
  have := rT_ok h c hc
  unfold okc at this
  omega
theorem joinL_nil (ls : List (List Nat)) : TL.joinL [] ls = ls.flatten := by
  induction ls with
  | nil => rfl
  | cons a l ih =>
    cases l with
    | nil => simp [TL.joinL]
    | cons b r =>
      show a ++ ([] ++ TL.joinL [] (b :: r)) = _
      rw [ih]
      simp
/-- a row, joined -/
theorem join_row {ws : List Str} (h : RwOk ws) (S : Sto) : gJoin (.str " ") [.tml (ws.map .str)] S = .ok (.str (rT ws)) S := by
  unfold gJoin
  simp only [seqD, Option.bind_some, strsD_map]
  have hs := sum_le (ys := ws) (n := 10) fun y hy => (h.wd y hy).len
  have := h.len
  rw [if_pos (by rw [show (" " : Str).length = 1 from by decide +kernel]; omega)]
  rfl
theorem join_rowT {ws : List Str} (h : RwOk ws) (S : Sto) : gJoin (.str " ") [.tup (ws.map .str)] S = .ok (.str (rT ws)) S := by
  unfold gJoin
  simp only [seqD, Option.bind_some, strsD_map]
  have hs := sum_le (ys := ws) (n := 10) fun y hy => (h.wd y hy).len
  have := h.len
  rw [if_pos (by rw [show (" " : Str).length = 1 from by decide +kernel]; omega)]
  rfl
/-- the rows with their ends, joined -/
theorem join_rows {rs : List (List Str)} (h : ∀ r ∈ rs, RwOk r) (hl : rs.length ≤ 1000) (S : Sto) : gJoin (.str "") [.tml (rs.map fun r => .str (rT r ++ "\n"))] S = .ok (.str (tX rs)) S := by
  rw [show (rs.map fun r => D.str (rT r ++ "\n")) = (rs.map fun r => rT r ++ ("\n" : Str)).map .str by simp]
  unfold gJoin
  simp only [seqD, Option.bind_some, strsD_map]
  have hs := sum_le (ys := rs.map fun r => rT r ++ ("\n" : Str)) (n := 111) (fun y hy => by
    obtain ⟨r, hr, rfl⟩ := List.mem_map.mp hy
    have := rT_len (h r hr)
    have := (h r hr).len
    rw [Str.length_append, show ("\n" : Str).length = 1 from by decide +kernel]
    omega)
  rw [List.length_map] at hs
  rw [if_pos (by rw [len_em, List.length_map]; omega)]
  congr 2
  apply TL.ext_tl
  rw [tX_tl, TL.join_eq, TL.tl_join, tl_em, List.map_map, joinL_nil]
  congr 1
  refine List.map_congr_left fun r _ => ?_
  simp [TL.tl_append, tl_nl]
theorem row_nl {ws : List Str} (h : RwOk ws) (S : Sto) : oAddA (.str (rT ws)) (.str "\n") S = .ok (.str (rT ws ++ "\n")) S := by
  have := rT_len h
  have := h.len
  unfold oAddA
  simp only
  rw [if_pos (by rw [show ("\n" : Str).length = 1 from by decide +kernel]; omega)]
/-! ### things in rows -/
inductive It where
  | non | nm (s : Str) | num (i : Int)
def itD : It → D
  | .non => .non
  | .nm s => .str s
  | .num i => .int i
def snW (s : Str) : Str := if s = "" then "-" else s
def itW : It → Str
  | .non => "."
  | .nm s => snW s
  | .num i => numS i
def ItOk : It → Prop
  | .non => True
  | .nm s => s = "" ∨ nmB s = true
  | .num i => 0 ≤ i ∧ i < 10 ^ 10
theorem wd_it {x : It} (h : ItOk x) : WdOk (itW x) := by
  cases x with
  | non => exact wd_dot
  | nm s =>
    show WdOk (snW s)
    unfold snW
    split
    · exact wd_dash
    · rcases h with h | h
      · contradiction
      · exact wd_nm h
  | num i => exact wd_num h.1 h.2
theorem rw_its {l : List It} (h : ∀ x ∈ l, ItOk x) (hn : l ≠ []) (hl : l.length ≤ 10) : RwOk (l.map itW) :=
  ⟨by simpa using hn, by simpa using hl, fun w hw => by
    obtain ⟨x, hx, rfl⟩ := List.mem_map.mp hw
    exact wd_it (h x hx)⟩
theorem noRef_it (x : It) : noRef (itD x) = true := by cases x <;> rfl
end Pg

set_option maxHeartbeats 4000000
namespace Pg
open PySem PySem.Spec PyProof.Rows L2 Ah PySem.NumText
inductive Dd where
  | come (n b : Str) (m : Option Int)
  | act (w n : Str) (m : Option Int)
def mkI : Option Int → It
  | none => .non
  | some i => .num i
def ddI : Dd → List It
  | .come n b m => [.nm "come", .nm n, .nm b, mkI m]
  | .act w n m => [.nm w, .nm n, mkI m]
def mkOk : Option Int → Prop
  | none => True
  | some i => 0 ≤ i ∧ i < 10 ^ 10
def DdOk : Dd → Prop
  | .come n b m => nmB n = true ∧ (b = "" ∨ nmB b = true) ∧ mkOk m
  | .act w n m => (w = "go" ∨ w = "look") ∧ nmB n = true ∧ mkOk m
def ddD (d : Dd) : D := .tup ((ddI d).map itD)
def ddW (d : Dd) : List Str := (ddI d).map itW
theorem mk_ok {m : Option Int} (h : mkOk m) : ItOk (mkI m) := by cases m <;> exact h
theorem dd_its {d : Dd} (h : DdOk d) : ∀ x ∈ ddI d, ItOk x := by
  intro x hx
  cases d with
  | come n b m =>
    obtain ⟨h1, h2, h3⟩ := h
    simp only [ddI, List.mem_cons, List.not_mem_nil, or_false] at hx
    rcases hx with rfl | rfl | rfl | rfl
    · exact .inr (by decide +kernel)
    · exact .inr h1
    · exact h2
    · exact mk_ok h3
  | act w n m =>
    obtain ⟨h1, h2, h3⟩ := h
    simp only [ddI, List.mem_cons, List.not_mem_nil, or_false] at hx
    rcases hx with rfl | rfl | rfl
    · rcases h1 with rfl | rfl <;> exact .inr (by decide +kernel)
    · exact .inr h2
    · exact mk_ok h3
theorem dd_rw {d : Dd} (h : DdOk d) : RwOk (ddW d) := rw_its (dd_its h) (by cases d <;> simp [ddI]) (by cases d <;> simp [ddI])
theorem dd_len (d : Dd) : (ddW d).length ≤ 4 := by cases d <;> simp [ddW, ddI]
theorem noRef_dd (d : Dd) : noRef (ddD d) = true := by
  show noRefs ((ddI d).map itD) = true
  exact noRefs_map _ noRef_it _
@[simp] theorem go_come : (("go" : Str) = "come") = False := by simp only [eq_iff_iff, iff_false]; decide +kernel
@[simp] theorem look_come : (("look" : Str) = "come") = False := by simp only [eq_iff_iff, iff_false]; decide +kernel
theorem itW_nm {n : Str} (h : nmB n = true) : itW (.nm n) = n := if_neg (nmB_ne h)
theorem ev_deed_text {S : Sto} {d : Dd} (h : DdOk d) : f_deed_text [ddD d] S = .ok (.str (rT (ddW d))) S := by
  refine fn_same ?_ rfl rfl
  unfold s_deed_text
  have mark : ∀ m : Option Int, mkOk m → ∀ (x : D) (env : En), env[0]? = some (some x) → (∀ S, ixF x (.int (-1)) S = .ok (itD (mkI m)) S) → setS 1 (ifF (tstF (opF (prF pIsN) (opF ixF (varF 0) (unF oNeg (cF (.int 1)))) (cF .non))) (cF (.str ".")) (callF gStrA (consA (opF ixF (varF 0) (unF oNeg (cF (.int 1)))) nilA))) env S = .nx (env.set 1 (some (.str (itW (mkI m))))) S := fun m hm x env he hi => by
    cases m with
    | none => simp [he, hi, mkI, itD, itW]
    | some i => 
      have := log_ok hm.1 hm.2
      simp [he, hi, mkI, itD, itW, this]
      rfl
  have le0 : Str.empty.length = 0 := rfl
  have lsp : (" " : Str).length = 1 := by decide +kernel
  have tl0 : TL.tl Str.empty = [] := rfl
  cases d with
  | come n b m =>
    obtain ⟨h1, h2, h3⟩ := h
    have l1 := nmB_le h1
    have l2 : (snW b).length ≤ 10 := (wd_it (x := .nm b) h2).len
    have l3 := (wd_it (mk_ok h3)).len
    have mk := mark m h3 (ddD (.come n b m)) [some (ddD (.come n b m)), none] rfl (fun S => rfl)
    refine (seq_nx (e := [some (ddD (.come n b m)), some (.str (itW (mkI m)))]) (S1 := S) mk).trans ?_
    have e : rT (ddW (.come n b m)) = ((((("come " : Str) ++ n) ++ (" " : Str)) ++ snW b) ++ (" " : Str)) ++ itW (mkI m) := by
      apply TL.ext_tl
      rw [rT_tl]
      simp only [ddW, ddI, List.map_cons, List.map_nil, itW_nm h1, TL.tl_append, tl_sp, TL.joinL]
      rw [show itW (.nm "come") = "come" from by decide +kernel, show TL.tl ("come" : Str) = [99, 111, 109, 101] from by decide +kernel, show TL.tl ("come " : Str) = [99, 111, 109, 101, 32] from by decide +kernel]
      simp [itW]
    rw [e]
    have lc : ("come " : Str).length = 5 := by decide +kernel
    have hn := fun S => ev_named (S := S) b
    rw [show (if b = "" then ("-" : Str) else b) = snW b from rfl] at hn
    have i0 : ∀ S, ixF (ddD (.come n b m)) (.int 0) S = .ok (.str "come") S := fun S => rfl
    have i1 : ∀ S, ixF (ddD (.come n b m)) (.int 1) S = .ok (.str n) S := fun S => rfl
    have i2 : ∀ S, ixF (ddD (.come n b m)) (.int 2) S = .ok (.str b) S := fun S => rfl
    generalize ddD (.come n b m) = x at *
    generalize itW (mkI m) = k at *
    generalize snW b = sb at *
    have b0 : 5 ≤ 16777216 := by decide
    have b1 : n.length ≤ 16777216 := by omega
    have b2 : 5 + n.length ≤ 16777216 := by omega
    have b3 : 5 + n.length + 1 ≤ 16777216 := by omega
    have b4 : 5 + n.length + 1 + sb.length ≤ 16777216 := by omega
    have b5 : 5 + n.length + 1 + sb.length + 1 ≤ 16777216 := by omega
    have b6 : 5 + n.length + 1 + sb.length + 1 + k.length ≤ 16777216 := by omega
    have b7 : sb.length ≤ 16777216 := by omega
    have b8 : k.length ≤ 16777216 := by omega
    have b9 : 5 + n.length ≤ 16777215 := by omega
    have b10 : 5 + n.length + 1 + sb.length ≤ 16777215 := by omega
    have ee : ∀ y : Str, Str.empty ++ y = y := fun y => TL.ext_tl (by rw [TL.tl_append, tl0, List.nil_append])
    simp [i0, i1, i2, hn, Str.length_append, lsp, le0, lc, b0, b1, b2, b3, b4, b5, b6, b7, b8, b9, b10, ee]
  | act w n m =>
    obtain ⟨h1, h2, h3⟩ := h
    have l1 := nmB_le h2
    have hw : nmB w = true := by rcases h1 with rfl | rfl <;> decide +kernel
    have l2 := nmB_le hw
    have l3 := (wd_it (mk_ok h3)).len
    have mk := mark m h3 (ddD (.act w n m)) [some (ddD (.act w n m)), none] rfl (fun S => rfl)
    refine (seq_nx (e := [some (ddD (.act w n m)), some (.str (itW (mkI m)))]) (S1 := S) mk).trans ?_
    have e : rT (ddW (.act w n m)) = (((w ++ (" " : Str)) ++ n) ++ (" " : Str)) ++ itW (mkI m) := by
      apply TL.ext_tl
      rw [rT_tl]
      simp only [ddW, ddI, List.map_cons, List.map_nil, itW_nm h2, itW_nm hw, TL.tl_append, tl_sp, TL.joinL]
      simp
    rw [e]
    have i0 : ∀ S, ixF (ddD (.act w n m)) (.int 0) S = .ok (.str w) S := fun S => rfl
    have i1 : ∀ S, ixF (ddD (.act w n m)) (.int 1) S = .ok (.str n) S := fun S => rfl
    have hc : w ≠ "come" := by rcases h1 with rfl | rfl <;> decide +kernel
    generalize ddD (.act w n m) = x at *
    generalize itW (mkI m) = k at *
    have b0 : w.length ≤ 16777216 := by omega
    have b1 : n.length ≤ 16777216 := by omega
    have b2 : w.length + 1 ≤ 16777216 := by omega
    have b3 : w.length + 1 + n.length ≤ 16777216 := by omega
    have b4 : w.length + 1 + n.length + 1 ≤ 16777216 := by omega
    have b5 : w.length + 1 + n.length + 1 + k.length ≤ 16777216 := by omega
    have b6 : k.length ≤ 16777216 := by omega
    have b9 : w.length ≤ 16777215 := by omega
    have b10 : w.length + 1 + n.length ≤ 16777215 := by omega
    have ee : ∀ y : Str, Str.empty ++ y = y := fun y => TL.ext_tl (by rw [TL.tl_append, tl0, List.nil_append])
    simp [i0, i1, hc, Str.length_append, lsp, le0, b0, b1, b2, b3, b4, b5, b6, b9, b10, ee]
theorem ev_history_text {S : Sto} {l : List Dd} (h : ∀ d ∈ l, DdOk d) (hl : l.length ≤ 1000) : f_history_text [.tup (l.map ddD)] S = .ok (.str (tX (l.map ddW))) S := by
  refine fn_same ?_ rfl rfl
  have hlc : lcF (seqI (varF 0)) (nmG 1) yesF e_history_text_1 [1] [some (.tup (l.map ddD)), none] S = .ok (.tml (l.map fun r => .str (rT (ddW r) ++ "\n"))) S := by
    refine lc_map ddD _ (safe := Alw) rfl trivial (by omega) fun d hd => ⟨_, rfl, rfl, ?_⟩
    have h1 := fun S => ev_deed_text (S := S) (h d hd)
    have h2 := row_nl (dd_rw (h d hd))
    unfold e_history_text_1
    simp [h1, h2]
  have hj := join_rows (rs := l.map ddW) (fun r hr => by
    obtain ⟨d, hd, rfl⟩ := List.mem_map.mp hr
    exact dd_rw (h d hd)) (by simpa using hl) S
  rw [List.map_map] at hj
  unfold s_history_text
  simp [-List.map_map, enD, hlc]
  simp only [Function.comp_def] at hj
  simp [-List.map_map, hj]
theorem ev_line_text {S : Sto} {l : List Str} (h : ∀ n ∈ l, nmB n = true) (hl : l.length ≤ 1000) : f_line_text [.tup (l.map .str)] S = .ok (.str (rT l)) S := by
  refine fn_same ?_ rfl rfl
  have hj : gJoin (.str " ") [.tup (l.map .str)] S = .ok (.str (rT l)) S := by
    unfold gJoin
    simp only [seqD, Option.bind_some, strsD_map]
    have hs := sum_le (ys := l) (n := 8) fun y hy => nmB_le (h y hy)
    rw [if_pos (by rw [show (" " : Str).length = 1 from by decide +kernel]; omega)]
    rfl
  unfold s_line_text
  simp [enD, hj]
/-- rows of names, joined -/
theorem ev_protest_text {S : Sto} {l : List Str} (h : RwOk l) : f_protest_text [.tup (l.map .str)] S = .ok (.str (rT l)) S := by
  refine fn_same ?_ rfl rfl
  have hj := join_rowT h S
  unfold s_protest_text
  simp [enD, hj]
theorem ev_protests_text {S : Sto} {rs : List (List Str)} (h : ∀ r ∈ rs, RwOk r) (hl : rs.length ≤ 1000) : f_protests_text [.tup (rs.map fun r => .tup (r.map .str))] S = .ok (.str (tX rs)) S := by
  refine fn_same ?_ rfl rfl
  have hlc : lcF (seqI (varF 0)) (nmG 1) yesF e_protests_text_1 [1] [some (.tup (rs.map fun r => .tup (r.map .str))), none] S = .ok (.tml (rs.map fun r => .str (rT r ++ "\n"))) S := by
    refine lc_map (fun r : List Str => D.tup (r.map .str)) _ (safe := Alw) rfl trivial (by omega) fun d hd => ⟨_, rfl, rfl, ?_⟩
    have h1 := fun S => ev_protest_text (S := S) (h d hd)
    have h2 := row_nl (h d hd)
    unfold e_protests_text_1
    simp [h1, h2]
  have hj := join_rows h hl S
  unfold s_protests_text
  simp [-List.map_map, enD, hlc, hj]
end Pg

set_option maxHeartbeats 4000000
namespace Lk85
open PySem PySem.Spec PyProof.Rows L2 Ah
def top (i : Nat) : Stmt := PySem.Challenge.pw_aheadseen_k85_other_texts.main.body.getD i (.Pass ⟨0, 0, 0, 0⟩)
def clsB (s : Stmt) : List Stmt := match s with
  | .ClassDef _ _ _ b _ _ _ _ _ _ _ => b
  | _ => []
def mth (i j : Nat) : Stmt := (clsB (top i)).getD j (.Pass ⟨0, 0, 0, 0⟩)
def tb : Tab := [(("BadLore", "AheadError"), true), (("BadLore", "BadLine"), false), (("BadLore", "BadLore"), true), (("BadLore", "BadText"), false), (("BadText", "AheadError"), true), (("BadText", "BadLine"), false), (("BadText", "BadLore"), false), (("BadText", "BadText"), true)]
def N_deed_of_words : List Str := ["words", "mark", "behind"]
noncomputable def s_deed_of_words : FS := (seqS (ifS (orF (tstF (opF (prF pNi) (opF ixF (varF 0) (cF (.int 0))) (tupF (consA (cF (.str "come")) (consA (cF (.str "go")) (consA (cF (.str "look")) nilA)))))) (tstF (opF (prF pNe) (callF gLen (consA (varF 0) nilA)) (opF oAdd (cF (.int 3)) (callF gInt (consA (opF (prF pEq) (opF ixF (varF 0) (cF (.int 0))) (cF (.str "come"))) nilA)))))) (retS (cF .non)) nopS) (seqS (setS 1 (cF .non)) (seqS (ifS (tstF (opF (prF pNe) (opF ixF (varF 0) (unF oNeg (cF (.int 1)))) (cF (.str ".")))) (seqS (setS 1 (alF (runF Pg.f_number_of_word [.int 10] (consA (opF ixF (varF 0) (unF oNeg (cF (.int 1)))) nilA)))) (ifS (tstF (opF (prF pIsN) (varF 1) (cF .non))) (retS (cF .non)) nopS)) nopS) (seqS (ifS (notF (tstF (alF (runF Pg.f_is_name [] (consA (opF ixF (varF 0) (cF (.int 1))) nilA))))) (retS (cF .non)) nopS) (seqS (ifS (tstF (opF (prF pNe) (opF ixF (varF 0) (cF (.int 0))) (cF (.str "come")))) (retS (tupF (consA (opF ixF (varF 0) (cF (.int 0))) (consA (opF ixF (varF 0) (cF (.int 1))) (consA (varF 1) nilA))))) nopS) (seqS (setS 2 (alF (runF Pg.f_seen_of_word [] (consA (opF ixF (varF 0) (cF (.int 2))) nilA)))) (retS (ifF (tstF (opF (prF pIsN) (varF 2) (cF .non))) (cF .non) (tupF (consA (cF (.str "come")) (consA (opF ixF (varF 0) (cF (.int 1))) (consA (varF 2) (consA (varF 1) nilA)))))))))))))
noncomputable def f_deed_of_words : FF := wrapF (bodyF 3 s_deed_of_words)
def N_rows_read : List Str := ["thing", "row_of_words", "rows", "rest", "found", "at", "row", "made"]
noncomputable def b_rows_read_1 : FS := (seqS (setS 7 (alF (runL 1 [("deed_of_words", f_deed_of_words)] (consA (alF (bmF "str" gSplit (varF 6) (consA (cF (.str " ")) nilA))) nilA)))) (seqS (ifS (tstF (opF (prF pIsN) (varF 7) (cF .non))) (raiseS "BadText" "at" [] (consA (varF 5) nilA)) nopS) (exprS (bmF "list" gApp (varF 4) (consA (varF 7) nilA)))))
noncomputable def s_rows_read : FS := (seqS (ifS (notF (tstF (callF gIsi (consA (varF 0) (consA (cF (.ty "str")) nilA))))) (raiseS "BadText" "at" [] (consA (cF .non) nilA)) nopS) (seqS (asgStS 2 0 (bmF "str" gSplit (varF 0) (consA (cF (.str "\n")) nilA)) (consG (nmG 2) (consG (nmG 3) nilG))) (seqS (setS 4 (alF (lstF nilA))) (seqS (wpS [5, 6, 7] (forS (enmI (consA (varF 2) nilA)) (tupG 2 (consG (nmG 5) (consG (nmG 6) nilG))) (gcS [5, 6, 7] b_rows_read_1))) (seqS (ifS (tstF (opF (prF pNe) (varF 3) (cF (.str "")))) (raiseS "BadText" "at" [] (consA (callF gLen (consA (varF 2) nilA)) nilA)) nopS) (retS (callF gTup (consA (varF 4) nilA))))))))
noncomputable def f_rows_read : FF := wrapF (bodyF 8 s_rows_read)
def N_read_history : List Str := ["thing"]
noncomputable def s_read_history : FS := (retS (alF (runF f_rows_read [] (consA (varF 0) (consA (cF (.glb "deed_of_words")) nilA)))))
noncomputable def f_read_history : FF := wrapF (bodyF 1 s_read_history)
def N_read_line : List Str := ["thing", "words", "at", "word"]
noncomputable def b_read_line_1 : FS := (ifS (notF (tstF (alF (runF Pg.f_is_name [] (consA (varF 3) nilA))))) (raiseS "BadText" "at" [] (consA (varF 2) nilA)) nopS)
noncomputable def s_read_line : FS := (seqS (ifS (notF (tstF (callF gIsi (consA (varF 0) (consA (cF (.ty "str")) nilA))))) (raiseS "BadText" "at" [] (consA (cF .non) nilA)) nopS) (seqS (ifS (tstF (opF (prF pEq) (varF 0) (cF (.str "")))) (retS (tupF nilA)) nopS) (seqS (setS 1 (alF (bmF "str" gSplit (varF 0) (consA (cF (.str " ")) nilA)))) (seqS (wpS [2, 3] (forS (enmI (consA (varF 1) nilA)) (tupG 2 (consG (nmG 2) (consG (nmG 3) nilG))) (gcS [2, 3] b_read_line_1))) (retS (callF gTup (consA (varF 1) nilA)))))))
noncomputable def f_read_line : FF := wrapF (bodyF 4 s_read_line)
def N_read_clash : List Str := ["thing", "why", "names", "name"]
noncomputable def t_read_clash_1 : FT := (notF (tstF (alF (runF Pg.f_is_name [] (consA (varF 3) nilA)))))
noncomputable def s_read_clash : FS := (seqS (ifS (notF (tstF (callF gIsi (consA (varF 0) (consA (cF (.ty "str")) nilA))))) (raiseS "BadText" "at" [] (consA (cF .non) nilA)) nopS) (seqS (asgStS 2 1 (bmF "str" gSplit (varF 0) (consA (cF (.str " ")) nilA)) (consG (nmG 1) (consG (nmG 2) nilG))) (seqS (ifS (tstF (opF (prF pNe) (lcF (seqI (varF 2)) (nmG 3) t_read_clash_1 (varF 3) [3]) (lstF nilA))) (raiseS "BadText" "at" [] (consA (cF (.int 0)) nilA)) nopS) (seqS (ifS (andF (tstF (opF (prF pEq) (varF 1) (cF (.str "late")))) (tstF (opF (prF pEq) (callF gLen (consA (varF 2) nilA)) (cF (.int 1))))) (retS (tupF (consA (cF (.str "late")) (consA (opF ixF (varF 2) (cF (.int 0))) nilA)))) nopS) (seqS (ifS (andF (tstF (opF (prF pIn) (varF 1) (tupF (consA (cF (.str "ring")) (consA (cF (.str "between")) nilA))))) (tstF (opF (prF pGt) (callF gLen (consA (varF 2) nilA)) (cF (.int 1))))) (retS (tupF (consA (varF 1) (consA (callF gTup (consA (varF 2) nilA)) nilA)))) nopS) (raiseS "BadText" "at" [] (consA (cF (.int 0)) nilA)))))))
noncomputable def f_read_clash : FF := wrapF (bodyF 4 s_read_clash)
def N__law_is_word : List Str := ["word", "sign"]
noncomputable def t__law_is_word_1 : FT := (tstF (opF (prF pNi) (varF 1) (cF (.str "abcdefghijklmnopqrstuvwxyz"))))
noncomputable def s__law_is_word : FS := (retS (andV (chF pLeA pLeA (cF (.int 1)) (callF gLen (consA (varF 0) nilA)) (cF (.int 8))) (opF (prF pEq) (lcF (seqI (varF 0)) (nmG 1) t__law_is_word_1 (varF 1) [1]) (lstF nilA))))
noncomputable def f__law_is_word : FF := wrapF (bodyF 2 s__law_is_word)
def N__law_number : List Str := ["word", "sign"]
noncomputable def s__law_number : FS := (seqS (ifS (orF (notF (tstF (chF pLeA pLeA (cF (.int 1)) (callF gLen (consA (varF 0) nilA)) (cF (.int 10))))) (tstF (opF (prF pNe) (lcF (seqI (varF 0)) (nmG 1) (tstF (opF (prF pNi) (varF 1) (cF (.str "0123456789")))) (varF 1) [1]) (lstF nilA)))) (retS (unF oNeg (cF (.int 1)))) nopS) (seqS (ifS (andF (tstF (opF (prF pEq) (opF ixF (varF 0) (cF (.int 0))) (cF (.str "0")))) (tstF (opF (prF pGt) (callF gLen (consA (varF 0) nilA)) (cF (.int 1))))) (retS (unF oNeg (cF (.int 1)))) nopS) (retS (callF gInt (consA (varF 0) nilA)))))
noncomputable def f__law_number : FF := wrapF (bodyF 2 s__law_number)
def N__law_seen : List Str := ["word"]
noncomputable def s__law_seen : FS := (seqS (ifS (tstF (opF (prF pEq) (varF 0) (cF (.str "-")))) (retS (cF (.str ""))) nopS) (retS (opF ixF (lstF (consA (cF .non) (consA (varF 0) nilA))) (callF gInt (consA (runF f__law_is_word [] (consA (varF 0) nilA)) nilA)))))
noncomputable def f__law_seen : FF := wrapF (bodyF 1 s__law_seen)
def N__law_bent : List Str := ["state", "text", "signs", "road", "at", "sign", "by", "parts", "spot", "words", "word", "two"]
noncomputable def s__law_bent : FS := (seqS (setS 2 (cF (.str "abcxyz0123456789 -.\n\nABZ_,;:+"))) (seqS (setS 3 (alF (runF La.f__law_take [] (consA (varF 0) (consA (cF (.int 9)) nilA))))) (seqS (setS 4 (alF (runF La.f__law_take [] (consA (varF 0) (consA (opF oAdd (callF gLen (consA (varF 1) nilA)) (cF (.int 1))) nilA))))) (seqS (setS 5 (opF ixF (varF 2) (runF La.f__law_take [] (consA (varF 0) (consA (callF gLen (consA (varF 2) nilA)) nilA))))) (seqS (setS 6 (opF ixF (lstF (consA (cF (.str " ")) (consA (cF (.str "\n")) nilA))) (runF La.f__law_take [] (consA (varF 0) (consA (cF (.int 2)) nilA))))) (seqS (setS 7 (alF (bmF "str" gSplit (varF 1) (consA (varF 6) nilA)))) (seqS (setS 8 (alF (runF La.f__law_take [] (consA (varF 0) (consA (callF gLen (consA (varF 7) nilA)) nilA))))) (seqS (setS 9 (alF (lstF (consA (cF (.str "")) (consA (cF (.str "-")) (consA (cF (.str ".")) (consA (cF (.str "0")) (consA (cF (.str "07")) (consA (cF (.str "1")) (consA (cF (.str "1000000000")) (consA (cF (.str "1000000001")) (consA (alF (opF oMulA (cF (.str "7")) (cF (.int 5000)))) (consA (cF (.str "abcdefghi")) (consA (cF (.str "a")) (consA (cF (.str "A")) (consA (cF (.str "come")) nilA)))))))))))))))) (seqS (setS 10 (opF ixF (opF oAddA (varF 9) (lstF (consA (cF (.str "go")) (consA (cF (.str "look")) (consA (cF (.str "ring")) (consA (cF (.str "late")) (consA (cF (.str "between")) (consA (cF (.str "zz")) nilA)))))))) (runF La.f__law_take [] (consA (varF 0) (consA (cF (.int 19)) nilA))))) (seqS (ifS (tstF (opF (prF pEq) (varF 3) (cF (.int 0)))) (retS (alF (opF oAddA (opF oAddA (slF (varF 1) noO (soO (varF 4))) (varF 5)) (slF (varF 1) (soO (varF 4)) noO)))) nopS) (seqS (ifS (tstF (opF (prF pEq) (varF 3) (cF (.int 1)))) (retS (alF (opF oAddA (slF (varF 1) noO (soO (varF 4))) (slF (varF 1) (soO (opF oAdd (varF 4) (cF (.int 1)))) noO)))) nopS) (seqS (ifS (tstF (opF (prF pEq) (varF 3) (cF (.int 2)))) (retS (alF (opF oAddA (opF oAddA (slF (varF 1) noO (soO (varF 4))) (varF 5)) (slF (varF 1) (soO (opF oAdd (varF 4) (cF (.int 1)))) noO)))) nopS) (seqS (ifS (tstF (opF (prF pEq) (varF 3) (cF (.int 3)))) (retS (alF (bmF "str" gJoin (varF 6) (consA (opF oAddA (slF (varF 7) noO (soO (varF 8))) (slF (varF 7) (soO (opF oAdd (varF 8) (cF (.int 1)))) noO)) nilA)))) nopS) (seqS (ifS (tstF (opF (prF pEq) (varF 3) (cF (.int 4)))) (retS (alF (bmF "str" gJoin (varF 6) (consA (opF oAddA (slF (varF 7) noO (soO (opF oAdd (varF 8) (cF (.int 1))))) (slF (varF 7) (soO (varF 8)) noO)) nilA)))) nopS) (seqS (ifS (tstF (opF (prF pLtA) (varF 3) (cF (.int 7)))) (retS (alF (bmF "str" gJoin (varF 6) (consA (opF oAddA (opF oAddA (slF (varF 7) noO (soO (varF 8))) (lstF (consA (varF 10) nilA))) (slF (varF 7) (soO (opF oSub (opF oAddA (varF 8) (varF 3)) (cF (.int 5)))) noO)) nilA)))) nopS) (seqS (ifS (tstF (opF (prF pEq) (varF 3) (cF (.int 7)))) (seqS (setS 11 (alF (slF (varF 7) (soO (varF 8)) (soO (opF oAdd (varF 8) (cF (.int 2))))))) (retS (alF (bmF "str" gJoin (varF 6) (consA (opF oAddA (opF oAddA (slF (varF 7) noO (soO (varF 8))) (revF (varF 11))) (slF (varF 7) (soO (opF oAdd (varF 8) (cF (.int 2)))) noO)) nilA))))) nopS) (retS (alF (slF (varF 1) (soO (varF 4)) noO)))))))))))))))))))
noncomputable def f__law_bent : FF := wrapF (bodyF 12 s__law_bent)
def N__law_deeds : List Str := ["state", "names", "found", "k", "one", "other", "mark", "word"]
noncomputable def b__law_deeds_1 : FS := (seqS (parS 4 5 (consA (opF ixF (varF 1) (runF La.f__law_take [] (consA (varF 0) (consA (callF gLen (consA (varF 1) nilA)) nilA)))) (consA (opF ixF (opF oAddA (lstF (consA (cF (.str "")) nilA)) (varF 1)) (runF La.f__law_take [] (consA (varF 0) (consA (opF oAdd (callF gLen (consA (varF 1) nilA)) (cF (.int 1))) nilA)))) nilA))) (seqS (setS 6 (opF ixF (lstF (consA (cF .non) (consA (opF oAdd (cF (.int 1)) (runF La.f__law_take [] (consA (varF 0) (consA (opF oPow (cF (.int 10)) (cF (.int 9))) nilA)))) (consA (opF oPow (cF (.int 10)) (cF (.int 9))) nilA)))) (runF La.f__law_take [] (consA (varF 0) (consA (cF (.int 3)) nilA))))) (seqS (setS 7 (opF ixF (lstF (consA (cF (.str "come")) (consA (cF (.str "go")) (consA (cF (.str "look")) nilA)))) (runF La.f__law_take [] (consA (varF 0) (consA (cF (.int 3)) nilA))))) (exprS (bmF "list" gApp (varF 2) (consA (opF ixF (lstF (consA (tupF (consA (varF 7) (consA (varF 4) (consA (varF 6) nilA)))) (consA (tupF (consA (cF (.str "come")) (consA (varF 4) (consA (varF 5) (consA (varF 6) nilA))))) nilA))) (callF gInt (consA (opF (prF pEq) (varF 7) (cF (.str "come"))) nilA))) nilA))))))
noncomputable def s__law_deeds : FS := (seqS (setS 2 (alF (lstF nilA))) (seqS (wpS [3, 4, 5, 6, 7] (forS (rngI1 (consA (alF (runF La.f__law_take [] (consA (varF 0) (consA (cF (.int 11)) nilA)))) nilA)) (nmG 3) (gcS [3, 4, 5, 6, 7] b__law_deeds_1))) (retS (callF gTup (consA (varF 2) nilA)))))
noncomputable def f__law_deeds : FF := wrapF (bodyF 8 s__law_deeds)
def N__law_word_of : List Str := ["thing"]
noncomputable def s__law_word_of : FS := (seqS (ifS (tstF (opF (prF pIsN) (varF 0) (cF .non))) (retS (cF (.str "."))) nopS) (seqS (ifS (tstF (opF (prF pEq) (varF 0) (cF (.str "")))) (retS (cF (.str "-"))) nopS) (retS (callF gStrA (consA (varF 0) nilA)))))
noncomputable def f__law_word_of : FF := wrapF (bodyF 1 s__law_word_of)
def N__law_rows_text : List Str := ["rows", "row", "thing"]
noncomputable def e__law_rows_text_1 : FE := (alF (opF oAddA (bmF "str" gJoin (cF (.str " ")) (consA (lcF (seqI (varF 1)) (nmG 2) yesF (alF (runF f__law_word_of [] (consA (varF 2) nilA))) [2]) nilA)) (cF (.str "\n"))))
noncomputable def s__law_rows_text : FS := (retS (alF (bmF "str" gJoin (cF (.str "")) (consA (lcF (seqI (varF 0)) (nmG 1) yesF e__law_rows_text_1 [1]) nilA))))
noncomputable def f__law_rows_text : FF := wrapF (bodyF 3 s__law_rows_text)
def N__law_clash : List Str := ["state", "names", "some", "k"]
noncomputable def e__law_clash_1 : FE := (opF ixF (varF 1) (runF La.f__law_take [] (consA (varF 0) (consA (callF gLen (consA (varF 1) nilA)) nilA))))
noncomputable def s__law_clash : FS := (seqS (setS 2 (callF gTup (consA (lcF (rngI1 (consA (opF oAdd (cF (.int 2)) (runF La.f__law_take [] (consA (varF 0) (consA (cF (.int 4)) nilA)))) nilA)) (nmG 3) yesF e__law_clash_1 [3]) nilA))) (retS (opF ixF (lstF (consA (tupF (consA (cF (.str "late")) (consA (opF ixF (varF 2) (cF (.int 0))) nilA))) (consA (tupF (consA (cF (.str "ring")) (consA (varF 2) nilA))) (consA (tupF (consA (cF (.str "between")) (consA (varF 2) nilA))) nilA)))) (runF La.f__law_take [] (consA (varF 0) (consA (cF (.int 3)) nilA))))))
noncomputable def f__law_clash : FF := wrapF (bodyF 4 s__law_clash)
def N__law_clash_text : List Str := ["clash"]
noncomputable def s__law_clash_text : FS := (seqS (ifS (tstF (opF (prF pEq) (opF ixF (varF 0) (cF (.int 0))) (cF (.str "late")))) (retS (alF (opF oAddA (cF (.str "late ")) (opF ixF (varF 0) (cF (.int 1)))))) nopS) (retS (alF (bmF "str" gJoin (cF (.str " ")) (consA (opF oAddA (tupF (consA (opF ixF (varF 0) (cF (.int 0))) nilA)) (opF ixF (varF 0) (cF (.int 1)))) nilA)))))
noncomputable def f__law_clash_text : FF := wrapF (bodyF 1 s__law_clash_text)
def N__law_deed : List Str := ["words", "mark"]
noncomputable def s__law_deed : FS := (seqS (ifS (orF (tstF (opF (prF pNi) (opF ixF (varF 0) (cF (.int 0))) (lstF (consA (cF (.str "come")) (consA (cF (.str "go")) (consA (cF (.str "look")) nilA)))))) (tstF (opF (prF pNe) (callF gLen (consA (varF 0) nilA)) (opF oAdd (cF (.int 3)) (callF gInt (consA (opF (prF pEq) (opF ixF (varF 0) (cF (.int 0))) (cF (.str "come"))) nilA)))))) (retS (cF .non)) nopS) (seqS (setS 1 (alF (runF f__law_number [] (consA (opF ixF (varF 0) (unF oNeg (cF (.int 1)))) nilA)))) (seqS (ifS (tstF (opF (prF pEq) (opF ixF (varF 0) (unF oNeg (cF (.int 1)))) (cF (.str ".")))) (setS 1 (cF .non)) nopS) (seqS (ifS (orF (tstF (opF (prF pEq) (varF 1) (unF oNeg (cF (.int 1))))) (notF (tstF (alF (runF f__law_is_word [] (consA (opF ixF (varF 0) (cF (.int 1))) nilA)))))) (retS (cF .non)) nopS) (seqS (ifS (tstF (opF (prF pNe) (opF ixF (varF 0) (cF (.int 0))) (cF (.str "come")))) (retS (tupF (consA (opF ixF (varF 0) (cF (.int 0))) (consA (opF ixF (varF 0) (cF (.int 1))) (consA (varF 1) nilA))))) nopS) (retS (opF ixF (lstF (consA (tupF (consA (cF (.str "come")) (consA (opF ixF (varF 0) (cF (.int 1))) (consA (alF (runF f__law_seen [] (consA (opF ixF (varF 0) (cF (.int 2))) nilA))) (consA (varF 1) nilA))))) (consA (cF .non) nilA))) (callF gInt (consA (opF (prF pIsN) (runF f__law_seen [] (consA (opF ixF (varF 0) (cF (.int 2))) nilA)) (cF .non)) nilA)))))))))
noncomputable def f__law_deed : FF := wrapF (bodyF 2 s__law_deed)
def N__law_due_history : List Str := ["text", "found", "parts", "at", "part", "deed"]
noncomputable def b__law_due_history_1 : FS := (seqS (ifS (andF (tstF (opF (prF pEq) (opF oAdd (varF 3) (cF (.int 1))) (callF gLen (consA (varF 2) nilA)))) (tstF (opF (prF pEq) (varF 4) (cF (.str ""))))) (retS (alF (lstF (consA (cF (.str "read")) (consA (callF gTup (consA (varF 1) nilA)) nilA))))) nopS) (seqS (setS 5 (alF (runF f__law_deed [] (consA (alF (bmF "str" gSplit (varF 4) (consA (cF (.str " ")) nilA))) nilA)))) (seqS (ifS (orF (tstF (opF (prF pIsN) (varF 5) (cF .non))) (tstF (opF (prF pEq) (opF oAdd (varF 3) (cF (.int 1))) (callF gLen (consA (varF 2) nilA))))) (retS (alF (lstF (consA (cF (.str "text")) (consA (varF 3) nilA))))) nopS) (exprS (bmF "list" gApp (varF 1) (consA (varF 5) nilA))))))
noncomputable def s__law_due_history : FS := (seqS (setS 1 (alF (lstF nilA))) (seqS (setS 2 (alF (bmF "str" gSplit (varF 0) (consA (cF (.str "\n")) nilA)))) (seqS (wpS [3, 4, 5] (forS (enmI (consA (varF 2) nilA)) (tupG 2 (consG (nmG 3) (consG (nmG 4) nilG))) (gcS [3, 4, 5] b__law_due_history_1))) (retS (alF (lstF (consA (cF (.str "none")) nilA)))))))
noncomputable def f__law_due_history : FF := wrapF (bodyF 6 s__law_due_history)
def N__law_due_line : List Str := ["text", "words", "wrong", "at"]
noncomputable def t__law_due_line_1 : FT := (notF (tstF (alF (runF f__law_is_word [] (consA (opF ixF (varF 1) (varF 3)) nilA)))))
noncomputable def s__law_due_line : FS := (seqS (setS 1 (alF (opF oMulA (bmF "str" gSplit (varF 0) (consA (cF (.str " ")) nilA)) (callF gInt (consA (opF (prF pNe) (varF 0) (cF (.str ""))) nilA))))) (seqS (setS 2 (alF (lcF (rngI1 (consA (callF gLen (consA (varF 1) nilA)) nilA)) (nmG 3) t__law_due_line_1 (varF 3) [3]))) (retS (opF ixF (lstF (consA (alF (lstF (consA (cF (.str "read")) (consA (callF gTup (consA (varF 1) nilA)) nilA)))) (consA (alF (lstF (consA (cF (.str "text")) (consA (opF ixF (opF oAddA (varF 2) (lstF (consA (cF (.int 0)) nilA))) (cF (.int 0))) nilA)))) nilA))) (callF gInt (consA (opF (prF pNe) (varF 2) (lstF nilA)) nilA))))))
noncomputable def f__law_due_line : FF := wrapF (bodyF 4 s__law_due_line)
def N__law_due_clash : List Str := ["text", "words", "right", "word"]
noncomputable def t__law_due_clash_1 : FT := (notF (tstF (alF (runF f__law_is_word [] (consA (varF 3) nilA)))))
noncomputable def s__law_due_clash : FS := (seqS (setS 1 (alF (bmF "str" gSplit (varF 0) (consA (cF (.str " ")) nilA)))) (seqS (setS 2 (opF (prF pEq) (lcF (seqI (slF (varF 1) (soO (cF (.int 1))) noO)) (nmG 3) t__law_due_clash_1 (varF 3) [3]) (lstF nilA))) (seqS (ifS (andF (tstF (varF 2)) (andF (tstF (opF (prF pEq) (opF ixF (varF 1) (cF (.int 0))) (cF (.str "late")))) (tstF (opF (prF pEq) (callF gLen (consA (varF 1) nilA)) (cF (.int 2)))))) (retS (alF (lstF (consA (cF (.str "read")) (consA (tupF (consA (cF (.str "late")) (consA (opF ixF (varF 1) (cF (.int 1))) nilA))) nilA))))) nopS) (seqS (ifS (andF (tstF (varF 2)) (andF (tstF (opF (prF pIn) (opF ixF (varF 1) (cF (.int 0))) (lstF (consA (cF (.str "ring")) (consA (cF (.str "between")) nilA))))) (tstF (opF (prF pGt) (callF gLen (consA (varF 1) nilA)) (cF (.int 2)))))) (retS (alF (lstF (consA (cF (.str "read")) (consA (tupF (consA (opF ixF (varF 1) (cF (.int 0))) (consA (callF gTup (consA (slF (varF 1) (soO (cF (.int 1))) noO) nilA)) nilA))) nilA))))) nopS) (retS (alF (lstF (consA (cF (.str "text")) (consA (cF (.int 0)) nilA)))))))))
noncomputable def f__law_due_clash : FF := wrapF (bodyF 4 s__law_due_clash)
def N__law_told : List Str := ["door", "thing", "e"]
noncomputable def s__law_told : FS := (tryS tb (seqS (ifS (tstF (opF (prF pEq) (varF 0) (cF (.int 0)))) (retS (alF (lstF (consA (cF (.str "read")) (consA (alF (runF f_read_history [] (consA (varF 1) nilA))) nilA))))) nopS) (seqS (ifS (tstF (opF (prF pEq) (varF 0) (cF (.int 1)))) (retS (alF (lstF (consA (cF (.str "read")) (consA (alF (runF f_read_line [] (consA (varF 1) nilA))) nilA))))) nopS) (retS (alF (lstF (consA (cF (.str "read")) (consA (alF (runF f_read_clash [] (consA (varF 1) nilA))) nilA))))))) [⟨"BadText", some 2, fun a d C k => (retS (alF (opF oAddA (lstF (consA (cF (.str "text")) (consA (xfF 2 a d k "at") nilA))) (opF oMulA (lstF (consA (cF (.str "other")) nilA)) (callF gInt (consA (orV (notV (callF (gIsE tb a d k C) (consA (varF 2) (consA (cF (.glb "AheadError")) nilA)))) (callF (gIsE tb a d k C) (consA (varF 2) (consA (tupF (consA (cF (.glb "BadLine")) (consA (cF (.glb "BadLore")) nilA))) nilA)))) nilA))))))⟩])
noncomputable def f__law_told : FF := wrapF (bodyF 3 s__law_told)
def N__law_due : List Str := ["door", "text"]
noncomputable def s__law_due : FS := (seqS (ifS (tstF (opF (prF pEq) (varF 0) (cF (.int 0)))) (retS (alF (runF f__law_due_history [] (consA (varF 1) nilA)))) nopS) (seqS (ifS (tstF (opF (prF pEq) (varF 0) (cF (.int 1)))) (retS (alF (runF f__law_due_line [] (consA (varF 1) nilA)))) nopS) (retS (alF (runF f__law_due_clash [] (consA (varF 1) nilA))))))
noncomputable def f__law_due : FF := wrapF (bodyF 2 s__law_due)
def N_law : List Str := ["script", "state", "turn", "names", "deeds", "clash", "line", "rows", "texts", "things", "door", "bent", "k", "odd", "one"]
noncomputable def e_law_1 : FE := (opF ixF (varF 3) (runF La.f__law_take [] (consA (varF 1) (consA (cF (.int 6)) nilA))))
noncomputable def e_law_2 : FE := (tupF (consA (varF 14) (consA (opF ixF (lstF (consA (cF (.str "ahead")) (consA (cF (.str "late")) (consA (cF (.str "between")) nilA)))) (runF La.f__law_take [] (consA (varF 1) (consA (cF (.int 3)) nilA)))) (consA (opF ixF (varF 3) (runF La.f__law_take [] (consA (varF 1) (consA (cF (.int 6)) nilA)))) nilA))))
noncomputable def b_law_1 : FS := (setS 11 (alF (slF (runF f__law_bent [] (consA (varF 1) (consA (varF 11) nilA))) noO (soO (cF (.int 10000))))))
noncomputable def b_law_2 : FS := (seqS (setS 11 (opF ixF (varF 8) (varF 10))) (seqS (wpS [12] (forS (rngI1 (consA (opF oAdd (cF (.int 1)) (runF La.f__law_take [] (consA (varF 1) (consA (cF (.int 3)) nilA)))) nilA)) (nmG 12) (gcS [12] b_law_1))) (seqS (ifS (tstF (opF (prF pNe) (callF gRepr (consA (runF f__law_told [] (consA (varF 10) (consA (opF ixF (varF 8) (varF 10)) nilA))) nilA)) (callF gRepr (consA (lstF (consA (cF (.str "read")) (consA (opF ixF (varF 9) (varF 10)) nilA))) nilA)))) (retS (cF (.bl false))) nopS) (ifS (tstF (opF (prF pNe) (callF gRepr (consA (runF f__law_told [] (consA (varF 10) (consA (varF 11) nilA))) nilA)) (callF gRepr (consA (runF f__law_due [] (consA (varF 10) (consA (varF 11) nilA))) nilA)))) (retS (cF (.bl false))) nopS))))
noncomputable def b_law_3 : FS := (seqS (setS 3 (alF (runF La.f__law_names [] (consA (varF 1) (consA (cF (.int 6)) nilA))))) (seqS (parS 4 5 (consA (alF (runF f__law_deeds [] (consA (varF 1) (consA (varF 3) nilA)))) (consA (alF (runF f__law_clash [] (consA (varF 1) (consA (varF 3) nilA)))) nilA))) (seqS (setS 6 (callF gTup (consA (lcF (rngI1 (consA (alF (runF La.f__law_take [] (consA (varF 1) (consA (cF (.int 7)) nilA)))) nilA)) (nmG 12) yesF e_law_1 [12]) nilA))) (seqS (setS 7 (alF (lcF (seqI (varF 6)) (nmG 14) yesF e_law_2 [14]))) (seqS (ifS (tstF (opF (prF pNe) (callF gRepr (consA (runF Pg.f_protests_text [] (consA (callF gTup (consA (varF 7) nilA)) nilA)) nilA)) (callF gRepr (consA (runF f__law_rows_text [] (consA (varF 7) nilA)) nilA)))) (retS (cF (.bl false))) nopS) (seqS (setS 8 (alF (lstF (consA (alF (runF Pg.f_history_text [] (consA (varF 4) nilA))) (consA (alF (runF Pg.f_line_text [] (consA (varF 6) nilA))) (consA (alF (runF Pg.f_clash_text [] (consA (varF 5) nilA))) nilA)))))) (seqS (ifS (tstF (opF (prF pNe) (callF gRepr (consA (varF 8) nilA)) (callF gRepr (consA (lstF (consA (alF (runF f__law_rows_text [] (consA (varF 4) nilA))) (consA (alF (bmF "str" gJoin (cF (.str " ")) (consA (varF 6) nilA))) (consA (alF (runF f__law_clash_text [] (consA (varF 5) nilA))) nilA)))) nilA)))) (retS (cF (.bl false))) nopS) (seqS (setS 9 (alF (lstF (consA (varF 4) (consA (varF 6) (consA (varF 5) nilA)))))) (wpS [11, 12] (forS (rngI1 (consA (cF (.int 3)) nilA)) (nmG 10) (gcS [11, 12] b_law_2)))))))))))
noncomputable def t_law_1 : FT := (tstF (opF (prF pNe) (callF gRepr (consA (runF f__law_told [] (consA (varF 10) (consA (varF 13) nilA))) nilA)) (callF gRepr (consA (lstF (consA (cF (.str "text")) (consA (cF .non) nilA))) nilA))))
noncomputable def s_law : FS := (seqS (setS 1 (alF (lstF (consA (varF 0) (consA (cF (.int 0)) (consA (cF (.int 0)) (consA (cF (.int 85)) nilA))))))) (seqS (wpS [2, 3, 4, 5, 6, 7, 8, 9, 11, 12, 14] (forS (rngI1 (consA (cF (.int 4)) nilA)) (nmG 2) (gcS [2, 3, 4, 5, 6, 7, 8, 9, 11, 12, 14] b_law_3))) (seqS (setS 13 (opF ixF (lstF (consA (cF .non) (consA (cF (.int 5)) (consA (cF (.bl true)) (consA (tupF (consA (cF (.str "a")) nilA)) (consA (alF (lstF (consA (cF (.str "ring a b")) nilA))) (consA newDF nilA))))))) (runF La.f__law_take [] (consA (varF 1) (consA (cF (.int 6)) nilA))))) (retS (opF (prF pEq) (lcF (rngI1 (consA (cF (.int 3)) nilA)) (nmG 10) t_law_1 (varF 10) [10]) (lstF nilA))))))
noncomputable def f_law : FF := wrapF (bodyF 15 s_law)
theorem HL_deed_of_words {P : Program} {w : World} {K : PySem.W.Frag} {mg : Str → Option Value} {base : Heap} {k n : Nat} (h0 : HeldG P w K mg base k "deed_of_words" n f_deed_of_words) : ∀ f g, ([("deed_of_words", f_deed_of_words)] : Held).lookup f = some g → HeldG P w K mg base k f n g := fun f g h => by
  have hm := lookup_mem h
  simp only [List.mem_cons, Prod.mk.injEq, List.not_mem_nil, or_false] at hm
  rcases hm with ⟨rfl, rfl⟩
  · exact h0
structure Fx (K : PySem.W.Frag) (mg : Str → Option Value) : Prop where
  n_all : mg "all" = none
  n_enumerate : mg "enumerate" = none
  n_int : mg "int" = none
  n_isinstance : mg "isinstance" = none
  n_len : mg "len" = none
  n_range : mg "range" = none
  n_repr : mg "repr" = none
  n_str : mg "str" = none
  n_tuple : mg "tuple" = none
  v_HEAD : ∃ t, mg "HEAD" = some (.str "" t)
  v_LETTERS : ∃ t, mg "LETTERS" = some (.str "abcdefghijklmnopqrstuvwxyz" t)
  v_NOBODY : ∃ t, mg "NOBODY" = some (.str "-" t)
  v_UNMARKED : ∃ t, mg "UNMARKED" = some (.str "." t)
  g_is_name : mg "is_name" = some (.ref (He.ga K "is_name"))
  g_named : mg "named" = some (.ref (He.ga K "named"))
  g_line_text : mg "line_text" = some (.ref (He.ga K "line_text"))
  g_deed_text : mg "deed_text" = some (.ref (He.ga K "deed_text"))
  g_history_text : mg "history_text" = some (.ref (He.ga K "history_text"))
  g_clash_text : mg "clash_text" = some (.ref (He.ga K "clash_text"))
  g_protest_text : mg "protest_text" = some (.ref (He.ga K "protest_text"))
  g_protests_text : mg "protests_text" = some (.ref (He.ga K "protests_text"))
  g_number_of_word : mg "number_of_word" = some (.ref (He.ga K "number_of_word"))
  g_seen_of_word : mg "seen_of_word" = some (.ref (He.ga K "seen_of_word"))
  g_deed_of_words : mg "deed_of_words" = some (.ref (He.ga K "deed_of_words"))
  g_rows_read : mg "rows_read" = some (.ref (He.ga K "rows_read"))
  g_read_history : mg "read_history" = some (.ref (He.ga K "read_history"))
  g_read_line : mg "read_line" = some (.ref (He.ga K "read_line"))
  g_read_clash : mg "read_clash" = some (.ref (He.ga K "read_clash"))
  g__law_take : mg "_law_take" = some (.ref (He.ga K "_law_take"))
  g__law_names : mg "_law_names" = some (.ref (He.ga K "_law_names"))
  g__law_is_word : mg "_law_is_word" = some (.ref (He.ga K "_law_is_word"))
  g__law_number : mg "_law_number" = some (.ref (He.ga K "_law_number"))
  g__law_seen : mg "_law_seen" = some (.ref (He.ga K "_law_seen"))
  g__law_bent : mg "_law_bent" = some (.ref (He.ga K "_law_bent"))
  g__law_deeds : mg "_law_deeds" = some (.ref (He.ga K "_law_deeds"))
  g__law_word_of : mg "_law_word_of" = some (.ref (He.ga K "_law_word_of"))
  g__law_rows_text : mg "_law_rows_text" = some (.ref (He.ga K "_law_rows_text"))
  g__law_clash : mg "_law_clash" = some (.ref (He.ga K "_law_clash"))
  g__law_clash_text : mg "_law_clash_text" = some (.ref (He.ga K "_law_clash_text"))
  g__law_deed : mg "_law_deed" = some (.ref (He.ga K "_law_deed"))
  g__law_due_history : mg "_law_due_history" = some (.ref (He.ga K "_law_due_history"))
  g__law_due_line : mg "_law_due_line" = some (.ref (He.ga K "_law_due_line"))
  g__law_due_clash : mg "_law_due_clash" = some (.ref (He.ga K "_law_due_clash"))
  g__law_told : mg "_law_told" = some (.ref (He.ga K "_law_told"))
  g__law_due : mg "_law_due" = some (.ref (He.ga K "_law_due"))
  g_law : mg "law" = some (.ref (He.ga K "law"))
  g_AheadError : mg "AheadError" = some (.ref (He.ga K "AheadError"))
  g_BadLore : mg "BadLore" = some (.ref (He.ga K "BadLore"))
  g_BadLine : mg "BadLine" = some (.ref (He.ga K "BadLine"))
  g_BadText : mg "BadText" = some (.ref (He.ga K "BadText"))
  d_is_name : ∃ fd, FunD K "is_name" "is_name" (defArgs (top 8)) (defBody (top 8)) (defScope (top 8)) [] [] (He.ga K "is_name") fd
  d_named : ∃ fd, FunD K "named" "named" (defArgs (top 13)) (defBody (top 13)) (defScope (top 13)) [] [] (He.ga K "named") fd
  d_line_text : ∃ fd, FunD K "line_text" "line_text" (defArgs (top 14)) (defBody (top 14)) (defScope (top 14)) [] [] (He.ga K "line_text") fd
  d_deed_text : ∃ fd, FunD K "deed_text" "deed_text" (defArgs (top 15)) (defBody (top 15)) (defScope (top 15)) [] [] (He.ga K "deed_text") fd
  d_history_text : ∃ fd, FunD K "history_text" "history_text" (defArgs (top 16)) (defBody (top 16)) (defScope (top 16)) [] [] (He.ga K "history_text") fd
  d_clash_text : ∃ fd, FunD K "clash_text" "clash_text" (defArgs (top 17)) (defBody (top 17)) (defScope (top 17)) [] [] (He.ga K "clash_text") fd
  d_protest_text : ∃ fd, FunD K "protest_text" "protest_text" (defArgs (top 18)) (defBody (top 18)) (defScope (top 18)) [] [] (He.ga K "protest_text") fd
  d_protests_text : ∃ fd, FunD K "protests_text" "protests_text" (defArgs (top 19)) (defBody (top 19)) (defScope (top 19)) [] [] (He.ga K "protests_text") fd
  d_number_of_word : ∃ fd, FunD K "number_of_word" "number_of_word" (defArgs (top 20)) (defBody (top 20)) (defScope (top 20)) [] [("most", V.int 10)] (He.ga K "number_of_word") fd
  d_seen_of_word : ∃ fd, FunD K "seen_of_word" "seen_of_word" (defArgs (top 21)) (defBody (top 21)) (defScope (top 21)) [] [] (He.ga K "seen_of_word") fd
  d_deed_of_words : ∃ fd, FunD K "deed_of_words" "deed_of_words" (defArgs (top 22)) (defBody (top 22)) (defScope (top 22)) [] [] (He.ga K "deed_of_words") fd
  d_rows_read : ∃ fd, FunD K "rows_read" "rows_read" (defArgs (top 23)) (defBody (top 23)) (defScope (top 23)) [] [] (He.ga K "rows_read") fd
  d_read_history : ∃ fd, FunD K "read_history" "read_history" (defArgs (top 24)) (defBody (top 24)) (defScope (top 24)) [] [] (He.ga K "read_history") fd
  d_read_line : ∃ fd, FunD K "read_line" "read_line" (defArgs (top 25)) (defBody (top 25)) (defScope (top 25)) [] [] (He.ga K "read_line") fd
  d_read_clash : ∃ fd, FunD K "read_clash" "read_clash" (defArgs (top 26)) (defBody (top 26)) (defScope (top 26)) [] [] (He.ga K "read_clash") fd
  d__law_take : ∃ fd, FunD K "_law_take" "_law_take" (defArgs (top 28)) (defBody (top 28)) (defScope (top 28)) [] [] (He.ga K "_law_take") fd
  d__law_names : ∃ fd, FunD K "_law_names" "_law_names" (defArgs (top 29)) (defBody (top 29)) (defScope (top 29)) [] [] (He.ga K "_law_names") fd
  d__law_is_word : ∃ fd, FunD K "_law_is_word" "_law_is_word" (defArgs (top 30)) (defBody (top 30)) (defScope (top 30)) [] [] (He.ga K "_law_is_word") fd
  d__law_number : ∃ fd, FunD K "_law_number" "_law_number" (defArgs (top 31)) (defBody (top 31)) (defScope (top 31)) [] [] (He.ga K "_law_number") fd
  d__law_seen : ∃ fd, FunD K "_law_seen" "_law_seen" (defArgs (top 32)) (defBody (top 32)) (defScope (top 32)) [] [] (He.ga K "_law_seen") fd
  d__law_bent : ∃ fd, FunD K "_law_bent" "_law_bent" (defArgs (top 33)) (defBody (top 33)) (defScope (top 33)) [] [] (He.ga K "_law_bent") fd
  d__law_deeds : ∃ fd, FunD K "_law_deeds" "_law_deeds" (defArgs (top 34)) (defBody (top 34)) (defScope (top 34)) [] [] (He.ga K "_law_deeds") fd
  d__law_word_of : ∃ fd, FunD K "_law_word_of" "_law_word_of" (defArgs (top 35)) (defBody (top 35)) (defScope (top 35)) [] [] (He.ga K "_law_word_of") fd
  d__law_rows_text : ∃ fd, FunD K "_law_rows_text" "_law_rows_text" (defArgs (top 36)) (defBody (top 36)) (defScope (top 36)) [] [] (He.ga K "_law_rows_text") fd
  d__law_clash : ∃ fd, FunD K "_law_clash" "_law_clash" (defArgs (top 37)) (defBody (top 37)) (defScope (top 37)) [] [] (He.ga K "_law_clash") fd
  d__law_clash_text : ∃ fd, FunD K "_law_clash_text" "_law_clash_text" (defArgs (top 38)) (defBody (top 38)) (defScope (top 38)) [] [] (He.ga K "_law_clash_text") fd
  d__law_deed : ∃ fd, FunD K "_law_deed" "_law_deed" (defArgs (top 39)) (defBody (top 39)) (defScope (top 39)) [] [] (He.ga K "_law_deed") fd
  d__law_due_history : ∃ fd, FunD K "_law_due_history" "_law_due_history" (defArgs (top 40)) (defBody (top 40)) (defScope (top 40)) [] [] (He.ga K "_law_due_history") fd
  d__law_due_line : ∃ fd, FunD K "_law_due_line" "_law_due_line" (defArgs (top 41)) (defBody (top 41)) (defScope (top 41)) [] [] (He.ga K "_law_due_line") fd
  d__law_due_clash : ∃ fd, FunD K "_law_due_clash" "_law_due_clash" (defArgs (top 42)) (defBody (top 42)) (defScope (top 42)) [] [] (He.ga K "_law_due_clash") fd
  d__law_told : ∃ fd, FunD K "_law_told" "_law_told" (defArgs (top 43)) (defBody (top 43)) (defScope (top 43)) [] [] (He.ga K "_law_told") fd
  d__law_due : ∃ fd, FunD K "_law_due" "_law_due" (defArgs (top 44)) (defBody (top 44)) (defScope (top 44)) [] [] (He.ga K "_law_due") fd
  d_law : ∃ fd, FunD K "law" "law" (defArgs (top 45)) (defBody (top 45)) (defScope (top 45)) [] [] (He.ga K "law") fd
  e_BadLore : ErrC K "BadLore" ["at", "why"]
  i_BadLore : ∃ fd, FunD K "__init__" "BadLore.__init__" (defArgs (mth 3 0)) (defBody (mth 3 0)) (defScope (mth 3 0)) [] [] (He.ma K (He.ga K "BadLore") "__init__") fd
  e_BadText : ErrC K "BadText" ["at"]
  i_BadText : ∃ fd, FunD K "__init__" "BadText.__init__" (defArgs (mth 5 0)) (defBody (mth 5 0)) (defScope (mth 5 0)) [] [] (He.ma K (He.ga K "BadText") "__init__") fd
  b_AheadError : baseB K "AheadError" = true
  tab : TabOk K tb
theorem Fx.xf {K : PySem.W.Frag} {mg : Str → Option Value} (F : Fx K mg) (C c : Str) (ht : exmT tb C c = some true) : XfC K (He.ga K C) := by
  have e : ExcC K (He.ga K C) := by
    have hm := lookup_mem ht
    simp only [tb, List.mem_cons, Prod.mk.injEq, List.not_mem_nil, or_false] at hm
    rcases hm with ⟨⟨rfl, rfl⟩, hb⟩ | ⟨⟨rfl, rfl⟩, hb⟩ | ⟨⟨rfl, rfl⟩, hb⟩ | ⟨⟨rfl, rfl⟩, hb⟩ | ⟨⟨rfl, rfl⟩, hb⟩ | ⟨⟨rfl, rfl⟩, hb⟩ | ⟨⟨rfl, rfl⟩, hb⟩ | ⟨⟨rfl, rfl⟩, hb⟩
    · exact F.e_BadLore.isE
    · exact F.e_BadLore.isE
    · exact F.e_BadLore.isE
    · exact F.e_BadLore.isE
    · exact F.e_BadText.isE
    · exact F.e_BadText.isE
    · exact F.e_BadText.isE
    · exact F.e_BadText.isE
  exact ⟨e.hg, e.hk, e.hs, e.hd⟩
theorem Fx.isE {K : PySem.W.Frag} {mg : Str → Option Value} (F : Fx K mg) (C c : Str) (ht : exmT tb C c = some true) : ExcC K (He.ga K C) := by
  have hm := lookup_mem ht
  simp only [tb, List.mem_cons, Prod.mk.injEq, List.not_mem_nil, or_false] at hm
  rcases hm with ⟨⟨rfl, rfl⟩, hb⟩ | ⟨⟨rfl, rfl⟩, hb⟩ | ⟨⟨rfl, rfl⟩, hb⟩ | ⟨⟨rfl, rfl⟩, hb⟩ | ⟨⟨rfl, rfl⟩, hb⟩ | ⟨⟨rfl, rfl⟩, hb⟩ | ⟨⟨rfl, rfl⟩, hb⟩ | ⟨⟨rfl, rfl⟩, hb⟩
  · exact F.e_BadLore.isE
  · exact F.e_BadLore.isE
  · exact F.e_BadLore.isE
  · exact F.e_BadLore.isE
  · exact F.e_BadText.isE
  · exact F.e_BadText.isE
  · exact F.e_BadText.isE
  · exact F.e_BadText.isE
def flt : List (Str × Str) := [("AheadError", "at"), ("BadLore", "at"), ("BadLore", "why"), ("BadText", "at")]
theorem Fx.xn {K : PySem.W.Frag} {mg : Str → Option Value} (F : Fx K mg) (C c f : Str) (ht : exmT tb C c = some true) (hf : (c, f) ∈ flt) : PySem.W.findIn K (.ref (He.ga K C)) f = some none := by
  have hm := lookup_mem ht
  simp only [flt, List.mem_cons, Prod.mk.injEq, List.not_mem_nil, or_false] at hf
  simp only [tb, List.mem_cons, Prod.mk.injEq, List.not_mem_nil, or_false] at hm
  rcases hf with ⟨rfl, rfl⟩ | ⟨rfl, rfl⟩ | ⟨rfl, rfl⟩ | ⟨rfl, rfl⟩
  · rcases hm with ⟨⟨rfl, h2⟩, hb⟩ | ⟨⟨rfl, h2⟩, hb⟩ | ⟨⟨rfl, h2⟩, hb⟩ | ⟨⟨rfl, h2⟩, hb⟩ | ⟨⟨rfl, h2⟩, hb⟩ | ⟨⟨rfl, h2⟩, hb⟩ | ⟨⟨rfl, h2⟩, hb⟩ | ⟨⟨rfl, h2⟩, hb⟩
    · first | exact absurd h2 (by decide) | exact absurd hb (by decide) | exact F.e_BadLore.no _ (by decide)
    · first | exact absurd h2 (by decide) | exact absurd hb (by decide) | exact F.e_BadLore.no _ (by decide)
    · first | exact absurd h2 (by decide) | exact absurd hb (by decide) | exact F.e_BadLore.no _ (by decide)
    · first | exact absurd h2 (by decide) | exact absurd hb (by decide) | exact F.e_BadLore.no _ (by decide)
    · first | exact absurd h2 (by decide) | exact absurd hb (by decide) | exact F.e_BadText.no _ (by decide)
    · first | exact absurd h2 (by decide) | exact absurd hb (by decide) | exact F.e_BadText.no _ (by decide)
    · first | exact absurd h2 (by decide) | exact absurd hb (by decide) | exact F.e_BadText.no _ (by decide)
    · first | exact absurd h2 (by decide) | exact absurd hb (by decide) | exact F.e_BadText.no _ (by decide)
  · rcases hm with ⟨⟨rfl, h2⟩, hb⟩ | ⟨⟨rfl, h2⟩, hb⟩ | ⟨⟨rfl, h2⟩, hb⟩ | ⟨⟨rfl, h2⟩, hb⟩ | ⟨⟨rfl, h2⟩, hb⟩ | ⟨⟨rfl, h2⟩, hb⟩ | ⟨⟨rfl, h2⟩, hb⟩ | ⟨⟨rfl, h2⟩, hb⟩
    · first | exact absurd h2 (by decide) | exact absurd hb (by decide) | exact F.e_BadLore.no _ (by decide)
    · first | exact absurd h2 (by decide) | exact absurd hb (by decide) | exact F.e_BadLore.no _ (by decide)
    · first | exact absurd h2 (by decide) | exact absurd hb (by decide) | exact F.e_BadLore.no _ (by decide)
    · first | exact absurd h2 (by decide) | exact absurd hb (by decide) | exact F.e_BadLore.no _ (by decide)
    · first | exact absurd h2 (by decide) | exact absurd hb (by decide) | exact F.e_BadText.no _ (by decide)
    · first | exact absurd h2 (by decide) | exact absurd hb (by decide) | exact F.e_BadText.no _ (by decide)
    · first | exact absurd h2 (by decide) | exact absurd hb (by decide) | exact F.e_BadText.no _ (by decide)
    · first | exact absurd h2 (by decide) | exact absurd hb (by decide) | exact F.e_BadText.no _ (by decide)
  · rcases hm with ⟨⟨rfl, h2⟩, hb⟩ | ⟨⟨rfl, h2⟩, hb⟩ | ⟨⟨rfl, h2⟩, hb⟩ | ⟨⟨rfl, h2⟩, hb⟩ | ⟨⟨rfl, h2⟩, hb⟩ | ⟨⟨rfl, h2⟩, hb⟩ | ⟨⟨rfl, h2⟩, hb⟩ | ⟨⟨rfl, h2⟩, hb⟩
    · first | exact absurd h2 (by decide) | exact absurd hb (by decide) | exact F.e_BadLore.no _ (by decide)
    · first | exact absurd h2 (by decide) | exact absurd hb (by decide) | exact F.e_BadLore.no _ (by decide)
    · first | exact absurd h2 (by decide) | exact absurd hb (by decide) | exact F.e_BadLore.no _ (by decide)
    · first | exact absurd h2 (by decide) | exact absurd hb (by decide) | exact F.e_BadLore.no _ (by decide)
    · first | exact absurd h2 (by decide) | exact absurd hb (by decide) | exact F.e_BadText.no _ (by decide)
    · first | exact absurd h2 (by decide) | exact absurd hb (by decide) | exact F.e_BadText.no _ (by decide)
    · first | exact absurd h2 (by decide) | exact absurd hb (by decide) | exact F.e_BadText.no _ (by decide)
    · first | exact absurd h2 (by decide) | exact absurd hb (by decide) | exact F.e_BadText.no _ (by decide)
  · rcases hm with ⟨⟨rfl, h2⟩, hb⟩ | ⟨⟨rfl, h2⟩, hb⟩ | ⟨⟨rfl, h2⟩, hb⟩ | ⟨⟨rfl, h2⟩, hb⟩ | ⟨⟨rfl, h2⟩, hb⟩ | ⟨⟨rfl, h2⟩, hb⟩ | ⟨⟨rfl, h2⟩, hb⟩ | ⟨⟨rfl, h2⟩, hb⟩
    · first | exact absurd h2 (by decide) | exact absurd hb (by decide) | exact F.e_BadLore.no _ (by decide)
    · first | exact absurd h2 (by decide) | exact absurd hb (by decide) | exact F.e_BadLore.no _ (by decide)
    · first | exact absurd h2 (by decide) | exact absurd hb (by decide) | exact F.e_BadLore.no _ (by decide)
    · first | exact absurd h2 (by decide) | exact absurd hb (by decide) | exact F.e_BadLore.no _ (by decide)
    · first | exact absurd h2 (by decide) | exact absurd hb (by decide) | exact F.e_BadText.no _ (by decide)
    · first | exact absurd h2 (by decide) | exact absurd hb (by decide) | exact F.e_BadText.no _ (by decide)
    · first | exact absurd h2 (by decide) | exact absurd hb (by decide) | exact F.e_BadText.no _ (by decide)
    · first | exact absurd h2 (by decide) | exact absurd hb (by decide) | exact F.e_BadText.no _ (by decide)
theorem sc_BadLore : FnScope ["self", "at", "why"] ["self", "at", "why"] (defScope (mth 3 0)) := ⟨rfl, rfl, rfl, by decide +kernel, rfl, by decide +kernel, by decide +kernel⟩
noncomputable def fd_BadLore {K : PySem.W.Frag} {mg : Str → Option Value} (F : Fx K mg) : FuncData := Classical.choose F.i_BadLore
theorem IF_BadLore {P : Program} {w : World} {K : PySem.W.Frag} {mg : Str → Option Value} {base : Heap} (F : Fx K mg) : FnOk P w K mg base (L2.CX P w) 2 (He.ma K (He.ga K "BadLore") "__init__") (fd_BadLore F) ["self", "at", "why"] (spI K "BadLore" "at" ["why"]) := by
  have fn := Classical.choose_spec F.i_BadLore
  exact FunD.ok fn sc_BadLore (fun vs H Q E ⟨a, y0, ws, e, hw, _⟩ => by subst e; simp [hw]) fun cdv A outer s H vs Q E hr h => ⟨_, pss_cons (ps_expr (pe_abinit rfl F.g_AheadError F.b_AheadError (pa_cons (pv 0) (pa_cons pe_str pa_nil)))) (pss_cons (ps_ost (pv 0) (pv 1)) (pss_one (ps_ost (pv 0) (pv 2)))), ini2 (tx := "no lore") F.e_BadLore rfl h⟩
theorem IB_BadLore {K : PySem.W.Frag} {mg : Str → Option Value} (F : Fx K mg) : Binds K (fd_BadLore F) ["self", "at", "why"] [] :=
  (Classical.choose_spec F.i_BadLore).bindsN fun _ _ _ _ _ _ us hl => match us, hl with | [_, _, _], _ => rfl
theorem sc_BadText : FnScope ["self", "at"] ["self", "at"] (defScope (mth 5 0)) := ⟨rfl, rfl, rfl, by decide +kernel, rfl, by decide +kernel, by decide +kernel⟩
noncomputable def fd_BadText {K : PySem.W.Frag} {mg : Str → Option Value} (F : Fx K mg) : FuncData := Classical.choose F.i_BadText
theorem IF_BadText {P : Program} {w : World} {K : PySem.W.Frag} {mg : Str → Option Value} {base : Heap} (F : Fx K mg) : FnOk P w K mg base (L2.CX P w) 2 (He.ma K (He.ga K "BadText") "__init__") (fd_BadText F) ["self", "at"] (spI K "BadText" "at" []) := by
  have fn := Classical.choose_spec F.i_BadText
  exact FunD.ok fn sc_BadText (fun vs H Q E ⟨a, y0, ws, e, hw, _⟩ => by subst e; simp [hw]) fun cdv A outer s H vs Q E hr h => ⟨_, pss_cons (ps_expr (pe_abinit rfl F.g_AheadError F.b_AheadError (pa_cons (pv 0) (pa_cons pe_str pa_nil)))) (pss_one (ps_ost (pv 0) (pv 1))), ini1 (tx := "no text") F.e_BadText rfl h⟩
theorem IB_BadText {K : PySem.W.Frag} {mg : Str → Option Value} (F : Fx K mg) : Binds K (fd_BadText F) ["self", "at"] [] :=
  (Classical.choose_spec F.i_BadText).bindsN fun _ _ _ _ _ _ us hl => match us, hl with | [_, _], _ => rfl
theorem sc_is_name : FnScope Pg.N_is_name ["thing"] (defScope (top 8)) := ⟨rfl, rfl, rfl, by decide +kernel, rfl, by decide +kernel, by decide +kernel⟩
theorem G_is_name {P : Program} {w : World} {K : PySem.W.Frag} {mg : Str → Option Value} {base : Heap} (F : Fx K mg) {fd : FuncData} (fn : FunD K "is_name" "is_name" (defArgs (top 8)) (defBody (top 8)) (defScope (top 8)) [] [] (He.ga K "is_name") fd)  : FnG P w K mg base 1 (He.ga K "is_name") fd ["thing"] Pg.f_is_name := by
  refine (fng_of fn sc_is_name (h := Pg.s_is_name) fun cdv A outer s H E hr hg => ?_).wrap
  have tk : Takes (cxOf (L2.CX P w) P w K mg base Pg.N_is_name "is_name" (defScope (top 8)) (He.ga K "is_name") cdv A outer s H E) (fun c d _ H1 => E c d H1) := takes_of rfl rfl rfl rfl
  have hp : PassesOwn (model P w) (A.deeper (envOfC "is_name" (defScope (top 8)) s.heap.objs.size (He.ga K "is_name") cdv)) (envOfC "is_name" (defScope (top 8)) s.heap.objs.size (He.ga K "is_name") cdv) (cxOf (L2.CX P w) P w K mg base Pg.N_is_name "is_name" (defScope (top 8)) (He.ga K "is_name") cdv A outer s H E).xe := passes_of rfl
  exact (sss_one (ss_ret (se_and (se_cb call_isi ac_isi rfl F.n_isinstance b_isinstance (sb_cons (sx_of (se_var 0)) (sb_cons (sx_of (se_ty rfl F.n_str b_str)) sb_nil))) (se_and (se_chain op_leA ap_leA op_leA ap_leA (sx_of se_int) (sx_of (se_cb cr_len ac_len rfl F.n_len b_len (sb_cons (sx_of (se_var 0)) sb_nil))) (sx_of se_int)) (se_one (se_cb (cr_all rfl) ac_all rfl F.n_all b_all (sb_cons (sx_lc (own := [("sign", 1)]) rfl sc_is_name.nd (si_seq (sx_of (se_var 0))) (blkOk_by (by rfl)) (fun _ _ _ _ _ => (sg_name sc_is_name.nd rfl (Or.inl rfl))) (fun _ _ _ _ _ => sts_nil) (fun _ _ _ _ _ => (se_cmp (op_in (roomU hr)) (AdP.ad ap_in) (sx_of (se_var 1)) (sx_of (se_gstr rfl F.v_LETTERS)) (by rfl)))) sb_nil)))))))
theorem A_is_name {P : Program} {w : World} {K : PySem.W.Frag} {mg : Str → Option Value} {base : Heap} (F : Fx K mg) : Df P w K mg base 1 "is_name" 1 [] Pg.f_is_name := by
  obtain ⟨fd, fn⟩ := F.d_is_name
  have FG := G_is_name (P := P) (w := w) (base := base) F fn 
  exact ⟨fd, _, [], [], FG, fn.kp, fn.bindsN (fun _ _ _ _ _ _ us hl => match us, hl with | [_], _ => rfl), .nil, dvs_nil, rfl⟩
theorem sc_named : FnScope Pg.N_named ["name"] (defScope (top 13)) := ⟨rfl, rfl, rfl, by decide +kernel, rfl, by decide +kernel, by decide +kernel⟩
theorem G_named {P : Program} {w : World} {K : PySem.W.Frag} {mg : Str → Option Value} {base : Heap} (F : Fx K mg) {fd : FuncData} (fn : FunD K "named" "named" (defArgs (top 13)) (defBody (top 13)) (defScope (top 13)) [] [] (He.ga K "named") fd)  : FnG P w K mg base 1 (He.ga K "named") fd ["name"] Pg.f_named := by
  refine (fng_of fn sc_named (h := Pg.s_named) fun cdv A outer s H E hr hg => ?_).wrap
  have tk : Takes (cxOf (L2.CX P w) P w K mg base Pg.N_named "named" (defScope (top 13)) (He.ga K "named") cdv A outer s H E) (fun c d _ H1 => E c d H1) := takes_of rfl rfl rfl rfl
  have hp : PassesOwn (model P w) (A.deeper (envOfC "named" (defScope (top 13)) s.heap.objs.size (He.ga K "named") cdv)) (envOfC "named" (defScope (top 13)) s.heap.objs.size (He.ga K "named") cdv) (cxOf (L2.CX P w) P w K mg base Pg.N_named "named" (defScope (top 13)) (He.ga K "named") cdv A outer s H E).xe := passes_of rfl
  exact (sss_one (ss_ret (se_if (st_cmp (op_eqA (roomE hr)) (AdP.ad ap_eq) (sx_of (se_var 0)) (sx_of (se_gstr rfl F.v_HEAD)) (by rfl)) (se_gstr rfl F.v_NOBODY) (se_var 0))))
theorem A_named {P : Program} {w : World} {K : PySem.W.Frag} {mg : Str → Option Value} {base : Heap} (F : Fx K mg) : Df P w K mg base 1 "named" 1 [] Pg.f_named := by
  obtain ⟨fd, fn⟩ := F.d_named
  have FG := G_named (P := P) (w := w) (base := base) F fn 
  exact ⟨fd, _, [], [], FG, fn.kp, fn.bindsN (fun _ _ _ _ _ _ us hl => match us, hl with | [_], _ => rfl), .nil, dvs_nil, rfl⟩
theorem sc_line_text : FnScope Pg.N_line_text ["line"] (defScope (top 14)) := ⟨rfl, rfl, rfl, by decide +kernel, rfl, by decide +kernel, by decide +kernel⟩
theorem G_line_text {P : Program} {w : World} {K : PySem.W.Frag} {mg : Str → Option Value} {base : Heap} (F : Fx K mg) {fd : FuncData} (fn : FunD K "line_text" "line_text" (defArgs (top 14)) (defBody (top 14)) (defScope (top 14)) [] [] (He.ga K "line_text") fd)  : FnG P w K mg base 1 (He.ga K "line_text") fd ["line"] Pg.f_line_text := by
  refine (fng_of fn sc_line_text (h := Pg.s_line_text) fun cdv A outer s H E hr hg => ?_).wrap
  have tk : Takes (cxOf (L2.CX P w) P w K mg base Pg.N_line_text "line_text" (defScope (top 14)) (He.ga K "line_text") cdv A outer s H E) (fun c d _ H1 => E c d H1) := takes_of rfl rfl rfl rfl
  have hp : PassesOwn (model P w) (A.deeper (envOfC "line_text" (defScope (top 14)) s.heap.objs.size (He.ga K "line_text") cdv)) (envOfC "line_text" (defScope (top 14)) s.heap.objs.size (He.ga K "line_text") cdv) (cxOf (L2.CX P w) P w K mg base Pg.N_line_text "line_text" (defScope (top 14)) (He.ga K "line_text") cdv A outer s H E).xe := passes_of rfl
  exact (sss_one (ss_ret (se_al (sx_bm PySem.F.plainAttrs_str PySem.F.slot_str_join PySem.F.type_str_join mt_join am_join (sx_of se_str) (sb_cons (sx_of (se_var 0)) sb_nil)))))
theorem A_line_text {P : Program} {w : World} {K : PySem.W.Frag} {mg : Str → Option Value} {base : Heap} (F : Fx K mg) : Df P w K mg base 1 "line_text" 1 [] Pg.f_line_text := by
  obtain ⟨fd, fn⟩ := F.d_line_text
  have FG := G_line_text (P := P) (w := w) (base := base) F fn 
  exact ⟨fd, _, [], [], FG, fn.kp, fn.bindsN (fun _ _ _ _ _ _ us hl => match us, hl with | [_], _ => rfl), .nil, dvs_nil, rfl⟩
theorem sc_deed_text : FnScope Pg.N_deed_text ["deed"] (defScope (top 15)) := ⟨rfl, rfl, rfl, by decide +kernel, rfl, by decide +kernel, by decide +kernel⟩
theorem G_deed_text {P : Program} {w : World} {K : PySem.W.Frag} {mg : Str → Option Value} {base : Heap} (F : Fx K mg) {fd : FuncData} (fn : FunD K "deed_text" "deed_text" (defArgs (top 15)) (defBody (top 15)) (defScope (top 15)) [] [] (He.ga K "deed_text") fd) (D_named : Df P w K mg base 1 "named" 1 [] Pg.f_named) : FnG P w K mg base 2 (He.ga K "deed_text") fd ["deed"] Pg.f_deed_text := by
  refine (fng_of fn sc_deed_text (h := Pg.s_deed_text) fun cdv A outer s H E hr hg => ?_).wrap
  have tk : Takes (cxOf (L2.CX P w) P w K mg base Pg.N_deed_text "deed_text" (defScope (top 15)) (He.ga K "deed_text") cdv A outer s H E) (fun c d _ H1 => E c d H1) := takes_of rfl rfl rfl rfl
  have hp : PassesOwn (model P w) (A.deeper (envOfC "deed_text" (defScope (top 15)) s.heap.objs.size (He.ga K "deed_text") cdv)) (envOfC "deed_text" (defScope (top 15)) s.heap.objs.size (He.ga K "deed_text") cdv) (cxOf (L2.CX P w) P w K mg base Pg.N_deed_text "deed_text" (defScope (top 15)) (He.ga K "deed_text") cdv A outer s H E).xe := passes_of rfl
  exact (sss_cons (ss_set (i := 1) sc_deed_text.nd rfl (Or.inl rfl) (se_if (st_cmp op_isN (AdP.ad ap_isN) (sx_of (se_ix (roomU hr) (sx_of (se_var 0)) (sx_of (se_un un_neg ad_neg (sx_of se_int))))) (sx_of se_non) (by rfl)) (se_gstr rfl F.v_UNMARKED) (se_ct cr_strA ac_strA rfl F.n_str b_str (sb_cons (sx_of (se_ix (roomU hr) (sx_of (se_var 0)) (sx_of (se_un un_neg ad_neg (sx_of se_int))))) sb_nil)))) (sss_cons (ss_if (st_cmp (op_eqA (roomE hr)) (AdP.ad ap_eq) (sx_of (se_ix (roomU hr) (sx_of (se_var 0)) (sx_of se_int))) (sx_of se_str) (by rfl)) (sss_one (ss_ret (se_jn (.cons se_str (.cons (se_fmt (se_ix (roomU hr) (sx_of (se_var 0)) (sx_of se_int))) (.cons se_str (.cons (se_fmt (se_al (sx_df (D_named.mono (by decide)) hr hg rfl F.g_named tk (sa_cons (se_ix (roomU hr) (sx_of (se_var 0)) (sx_of se_int)) sa_nil) (lenA_cons lenA_nil)))) (.cons se_str (.cons (se_fmt (se_var 1)) .nil))))))))) sss_nil) (sss_one (ss_ret (se_jn (.cons (se_fmt (se_ix (roomU hr) (sx_of (se_var 0)) (sx_of se_int))) (.cons se_str (.cons (se_fmt (se_ix (roomU hr) (sx_of (se_var 0)) (sx_of se_int))) (.cons se_str (.cons (se_fmt (se_var 1)) .nil))))))))))
theorem A_deed_text {P : Program} {w : World} {K : PySem.W.Frag} {mg : Str → Option Value} {base : Heap} (F : Fx K mg) : Df P w K mg base 2 "deed_text" 1 [] Pg.f_deed_text := by
  obtain ⟨fd, fn⟩ := F.d_deed_text
  have FG := G_deed_text (P := P) (w := w) (base := base) F fn (A_named F)
  exact ⟨fd, _, [], [], FG, fn.kp, fn.bindsN (fun _ _ _ _ _ _ us hl => match us, hl with | [_], _ => rfl), .nil, dvs_nil, rfl⟩
theorem sc_history_text : FnScope Pg.N_history_text ["history"] (defScope (top 16)) := ⟨rfl, rfl, rfl, by decide +kernel, rfl, by decide +kernel, by decide +kernel⟩
theorem G_history_text {P : Program} {w : World} {K : PySem.W.Frag} {mg : Str → Option Value} {base : Heap} (F : Fx K mg) {fd : FuncData} (fn : FunD K "history_text" "history_text" (defArgs (top 16)) (defBody (top 16)) (defScope (top 16)) [] [] (He.ga K "history_text") fd) (D_deed_text : Df P w K mg base 2 "deed_text" 1 [] Pg.f_deed_text) : FnG P w K mg base 3 (He.ga K "history_text") fd ["history"] Pg.f_history_text := by
  refine (fng_of fn sc_history_text (h := Pg.s_history_text) fun cdv A outer s H E hr hg => ?_).wrap
  have tk : Takes (cxOf (L2.CX P w) P w K mg base Pg.N_history_text "history_text" (defScope (top 16)) (He.ga K "history_text") cdv A outer s H E) (fun c d _ H1 => E c d H1) := takes_of rfl rfl rfl rfl
  have hp : PassesOwn (model P w) (A.deeper (envOfC "history_text" (defScope (top 16)) s.heap.objs.size (He.ga K "history_text") cdv)) (envOfC "history_text" (defScope (top 16)) s.heap.objs.size (He.ga K "history_text") cdv) (cxOf (L2.CX P w) P w K mg base Pg.N_history_text "history_text" (defScope (top 16)) (He.ga K "history_text") cdv A outer s H E).xe := passes_of rfl
  exact (sss_one (ss_ret (se_al (sx_bm PySem.F.plainAttrs_str PySem.F.slot_str_join PySem.F.type_str_join mt_join am_join (sx_of se_str) (sb_cons (sx_lc (own := [("deed", 1)]) rfl sc_history_text.nd (si_seq (sx_of (se_var 0))) (blkOk_by (by rfl)) (fun _ _ _ _ _ => (sg_name sc_history_text.nd rfl (Or.inl rfl))) (fun _ _ _ _ _ => sts_nil) (fun _ _ _ _ _ => (se_al (sx_op op_addA ad_addA (sx_df (D_deed_text.mono (by decide)) hr hg rfl F.g_deed_text takes_none5 (sa_cons (se_var 1) sa_nil) (lenA_cons lenA_nil)) (sx_of se_str))))) sb_nil)))))
theorem A_history_text {P : Program} {w : World} {K : PySem.W.Frag} {mg : Str → Option Value} {base : Heap} (F : Fx K mg) : Df P w K mg base 3 "history_text" 1 [] Pg.f_history_text := by
  obtain ⟨fd, fn⟩ := F.d_history_text
  have FG := G_history_text (P := P) (w := w) (base := base) F fn (A_deed_text F)
  exact ⟨fd, _, [], [], FG, fn.kp, fn.bindsN (fun _ _ _ _ _ _ us hl => match us, hl with | [_], _ => rfl), .nil, dvs_nil, rfl⟩
theorem sc_clash_text : FnScope Pg.N_clash_text ["clash"] (defScope (top 17)) := ⟨rfl, rfl, rfl, by decide +kernel, rfl, by decide +kernel, by decide +kernel⟩
theorem G_clash_text {P : Program} {w : World} {K : PySem.W.Frag} {mg : Str → Option Value} {base : Heap} (F : Fx K mg) {fd : FuncData} (fn : FunD K "clash_text" "clash_text" (defArgs (top 17)) (defBody (top 17)) (defScope (top 17)) [] [] (He.ga K "clash_text") fd)  : FnG P w K mg base 1 (He.ga K "clash_text") fd ["clash"] Pg.f_clash_text := by
  refine (fng_of fn sc_clash_text (h := Pg.s_clash_text) fun cdv A outer s H E hr hg => ?_).wrap
  have tk : Takes (cxOf (L2.CX P w) P w K mg base Pg.N_clash_text "clash_text" (defScope (top 17)) (He.ga K "clash_text") cdv A outer s H E) (fun c d _ H1 => E c d H1) := takes_of rfl rfl rfl rfl
  have hp : PassesOwn (model P w) (A.deeper (envOfC "clash_text" (defScope (top 17)) s.heap.objs.size (He.ga K "clash_text") cdv)) (envOfC "clash_text" (defScope (top 17)) s.heap.objs.size (He.ga K "clash_text") cdv) (cxOf (L2.CX P w) P w K mg base Pg.N_clash_text "clash_text" (defScope (top 17)) (He.ga K "clash_text") cdv A outer s H E).xe := passes_of rfl
  exact (sss_cons (ss_if (st_cmp (op_eqA (roomE hr)) (AdP.ad ap_eq) (sx_of (se_ix (roomU hr) (sx_of (se_var 0)) (sx_of se_int))) (sx_of se_str) (by rfl)) (sss_one (ss_ret (se_al (sx_op op_addA ad_addA (sx_of se_str) (sx_of (se_ix (roomU hr) (sx_of (se_var 0)) (sx_of se_int))))))) sss_nil) (sss_one (ss_ret (se_al (sx_bm PySem.F.plainAttrs_str PySem.F.slot_str_join PySem.F.type_str_join mt_join am_join (sx_of se_str) (sb_cons (sx_op op_addA ad_addA (sx_of (se_tup (sa_cons (se_ix (roomU hr) (sx_of (se_var 0)) (sx_of se_int)) sa_nil) (lenA_cons lenA_nil))) (sx_of (se_ix (roomU hr) (sx_of (se_var 0)) (sx_of se_int)))) sb_nil))))))
theorem A_clash_text {P : Program} {w : World} {K : PySem.W.Frag} {mg : Str → Option Value} {base : Heap} (F : Fx K mg) : Df P w K mg base 1 "clash_text" 1 [] Pg.f_clash_text := by
  obtain ⟨fd, fn⟩ := F.d_clash_text
  have FG := G_clash_text (P := P) (w := w) (base := base) F fn 
  exact ⟨fd, _, [], [], FG, fn.kp, fn.bindsN (fun _ _ _ _ _ _ us hl => match us, hl with | [_], _ => rfl), .nil, dvs_nil, rfl⟩
theorem sc_protest_text : FnScope Pg.N_protest_text ["row"] (defScope (top 18)) := ⟨rfl, rfl, rfl, by decide +kernel, rfl, by decide +kernel, by decide +kernel⟩
theorem G_protest_text {P : Program} {w : World} {K : PySem.W.Frag} {mg : Str → Option Value} {base : Heap} (F : Fx K mg) {fd : FuncData} (fn : FunD K "protest_text" "protest_text" (defArgs (top 18)) (defBody (top 18)) (defScope (top 18)) [] [] (He.ga K "protest_text") fd)  : FnG P w K mg base 1 (He.ga K "protest_text") fd ["row"] Pg.f_protest_text := by
  refine (fng_of fn sc_protest_text (h := Pg.s_protest_text) fun cdv A outer s H E hr hg => ?_).wrap
  have tk : Takes (cxOf (L2.CX P w) P w K mg base Pg.N_protest_text "protest_text" (defScope (top 18)) (He.ga K "protest_text") cdv A outer s H E) (fun c d _ H1 => E c d H1) := takes_of rfl rfl rfl rfl
  have hp : PassesOwn (model P w) (A.deeper (envOfC "protest_text" (defScope (top 18)) s.heap.objs.size (He.ga K "protest_text") cdv)) (envOfC "protest_text" (defScope (top 18)) s.heap.objs.size (He.ga K "protest_text") cdv) (cxOf (L2.CX P w) P w K mg base Pg.N_protest_text "protest_text" (defScope (top 18)) (He.ga K "protest_text") cdv A outer s H E).xe := passes_of rfl
  exact (sss_one (ss_ret (se_al (sx_bm PySem.F.plainAttrs_str PySem.F.slot_str_join PySem.F.type_str_join mt_join am_join (sx_of se_str) (sb_cons (sx_of (se_var 0)) sb_nil)))))
theorem A_protest_text {P : Program} {w : World} {K : PySem.W.Frag} {mg : Str → Option Value} {base : Heap} (F : Fx K mg) : Df P w K mg base 1 "protest_text" 1 [] Pg.f_protest_text := by
  obtain ⟨fd, fn⟩ := F.d_protest_text
  have FG := G_protest_text (P := P) (w := w) (base := base) F fn 
  exact ⟨fd, _, [], [], FG, fn.kp, fn.bindsN (fun _ _ _ _ _ _ us hl => match us, hl with | [_], _ => rfl), .nil, dvs_nil, rfl⟩
theorem sc_protests_text : FnScope Pg.N_protests_text ["rows"] (defScope (top 19)) := ⟨rfl, rfl, rfl, by decide +kernel, rfl, by decide +kernel, by decide +kernel⟩
theorem G_protests_text {P : Program} {w : World} {K : PySem.W.Frag} {mg : Str → Option Value} {base : Heap} (F : Fx K mg) {fd : FuncData} (fn : FunD K "protests_text" "protests_text" (defArgs (top 19)) (defBody (top 19)) (defScope (top 19)) [] [] (He.ga K "protests_text") fd) (D_protest_text : Df P w K mg base 1 "protest_text" 1 [] Pg.f_protest_text) : FnG P w K mg base 2 (He.ga K "protests_text") fd ["rows"] Pg.f_protests_text := by
  refine (fng_of fn sc_protests_text (h := Pg.s_protests_text) fun cdv A outer s H E hr hg => ?_).wrap
  have tk : Takes (cxOf (L2.CX P w) P w K mg base Pg.N_protests_text "protests_text" (defScope (top 19)) (He.ga K "protests_text") cdv A outer s H E) (fun c d _ H1 => E c d H1) := takes_of rfl rfl rfl rfl
  have hp : PassesOwn (model P w) (A.deeper (envOfC "protests_text" (defScope (top 19)) s.heap.objs.size (He.ga K "protests_text") cdv)) (envOfC "protests_text" (defScope (top 19)) s.heap.objs.size (He.ga K "protests_text") cdv) (cxOf (L2.CX P w) P w K mg base Pg.N_protests_text "protests_text" (defScope (top 19)) (He.ga K "protests_text") cdv A outer s H E).xe := passes_of rfl
  exact (sss_one (ss_ret (se_al (sx_bm PySem.F.plainAttrs_str PySem.F.slot_str_join PySem.F.type_str_join mt_join am_join (sx_of se_str) (sb_cons (sx_lc (own := [("row", 1)]) rfl sc_protests_text.nd (si_seq (sx_of (se_var 0))) (blkOk_by (by rfl)) (fun _ _ _ _ _ => (sg_name sc_protests_text.nd rfl (Or.inl rfl))) (fun _ _ _ _ _ => sts_nil) (fun _ _ _ _ _ => (se_al (sx_op op_addA ad_addA (sx_df (D_protest_text.mono (by decide)) hr hg rfl F.g_protest_text takes_none5 (sa_cons (se_var 1) sa_nil) (lenA_cons lenA_nil)) (sx_of se_str))))) sb_nil)))))
theorem A_protests_text {P : Program} {w : World} {K : PySem.W.Frag} {mg : Str → Option Value} {base : Heap} (F : Fx K mg) : Df P w K mg base 2 "protests_text" 1 [] Pg.f_protests_text := by
  obtain ⟨fd, fn⟩ := F.d_protests_text
  have FG := G_protests_text (P := P) (w := w) (base := base) F fn (A_protest_text F)
  exact ⟨fd, _, [], [], FG, fn.kp, fn.bindsN (fun _ _ _ _ _ _ us hl => match us, hl with | [_], _ => rfl), .nil, dvs_nil, rfl⟩
theorem sc_number_of_word : FnScope Pg.N_number_of_word ["word", "most"] (defScope (top 20)) := ⟨rfl, rfl, rfl, by decide +kernel, rfl, by decide +kernel, by decide +kernel⟩
theorem G_number_of_word {P : Program} {w : World} {K : PySem.W.Frag} {mg : Str → Option Value} {base : Heap} (F : Fx K mg) {fd : FuncData} (fn : FunD K "number_of_word" "number_of_word" (defArgs (top 20)) (defBody (top 20)) (defScope (top 20)) [] [("most", V.int 10)] (He.ga K "number_of_word") fd)  : FnG P w K mg base 1 (He.ga K "number_of_word") fd ["word", "most"] Pg.f_number_of_word := by
  refine (fng_of fn sc_number_of_word (h := Pg.s_number_of_word) fun cdv A outer s H E hr hg => ?_).wrap
  have tk : Takes (cxOf (L2.CX P w) P w K mg base Pg.N_number_of_word "number_of_word" (defScope (top 20)) (He.ga K "number_of_word") cdv A outer s H E) (fun c d _ H1 => E c d H1) := takes_of rfl rfl rfl rfl
  have hp : PassesOwn (model P w) (A.deeper (envOfC "number_of_word" (defScope (top 20)) s.heap.objs.size (He.ga K "number_of_word") cdv)) (envOfC "number_of_word" (defScope (top 20)) s.heap.objs.size (He.ga K "number_of_word") cdv) (cxOf (L2.CX P w) P w K mg base Pg.N_number_of_word "number_of_word" (defScope (top 20)) (He.ga K "number_of_word") cdv A outer s H E).xe := passes_of rfl
  exact (sss_cons (ss_if (st_w (sw_or (st_cmp op_ltA (AdP.ad ap_ltA) (sx_of (se_cb cr_len ac_len rfl F.n_len b_len (sb_cons (sx_of (se_var 0)) sb_nil))) (sx_of se_int) (by rfl)) (sw_or (st_cmp op_gt (AdP.ad ap_gt) (sx_of (se_cb cr_len ac_len rfl F.n_len b_len (sb_cons (sx_of (se_var 0)) sb_nil))) (sx_of (se_var 1)) (by rfl)) (sw_or1 (st_cmp (op_neA (roomE hr)) (AdP.ad ap_ne) (sx_lc (own := [("sign", 2)]) rfl sc_number_of_word.nd (si_seq (sx_of (se_var 0))) (blkOk_by (by rfl)) (fun _ _ _ _ _ => (sg_name sc_number_of_word.nd rfl (Or.inl rfl))) (fun _ _ _ _ _ => (sts_one (st_cmp (op_ni (roomU hr)) (AdP.ad ap_ni) (sx_of (se_var 2)) (sx_of se_str) (by rfl)))) (fun _ _ _ _ _ => (se_var 2))) (sx_lst sa_nil lenA_nil) (by rfl)))))) (sss_one (ss_ret se_non)) sss_nil) (sss_cons (ss_if (st_w (sw_and (st_cmp (op_eqA (roomE hr)) (AdP.ad ap_eq) (sx_of (se_ix (roomU hr) (sx_of (se_var 0)) (sx_of se_int))) (sx_of se_str) (by rfl)) (sw_and1 (st_cmp op_gt (AdP.ad ap_gt) (sx_of (se_cb cr_len ac_len rfl F.n_len b_len (sb_cons (sx_of (se_var 0)) sb_nil))) (sx_of se_int) (by rfl))))) (sss_one (ss_ret se_non)) sss_nil) (sss_one (ss_ret (se_ct cr_int ac_int rfl F.n_int b_int (sb_cons (sx_of (se_var 0)) sb_nil))))))
theorem A_number_of_word {P : Program} {w : World} {K : PySem.W.Frag} {mg : Str → Option Value} {base : Heap} (F : Fx K mg) : Df P w K mg base 1 "number_of_word" 1 [.int 10] Pg.f_number_of_word := by
  obtain ⟨fd, fn⟩ := F.d_number_of_word
  have FG := G_number_of_word (P := P) (w := w) (base := base) F fn 
  obtain ⟨ds, hd, hb⟩ := fn.binds0 (ps := ["word", "most"]) 1 (by decide) rfl (fun D doc pm an cdv ct us ks hu hk => match us, hu, ks, hk with | [u0], _, [k0], _ => ⟨_, _, _, _, _, _, rfl, rfl, by show _ = _; kernel_rfl⟩)
  exact ⟨fd, _, ds, _, FG, fn.kp, hb, hd, (fun m H => VRs.one (by unfold VR; rfl)), rfl⟩
theorem sc_seen_of_word : FnScope Pg.N_seen_of_word ["word"] (defScope (top 21)) := ⟨rfl, rfl, rfl, by decide +kernel, rfl, by decide +kernel, by decide +kernel⟩
theorem G_seen_of_word {P : Program} {w : World} {K : PySem.W.Frag} {mg : Str → Option Value} {base : Heap} (F : Fx K mg) {fd : FuncData} (fn : FunD K "seen_of_word" "seen_of_word" (defArgs (top 21)) (defBody (top 21)) (defScope (top 21)) [] [] (He.ga K "seen_of_word") fd) (D_is_name : Df P w K mg base 1 "is_name" 1 [] Pg.f_is_name) : FnG P w K mg base 2 (He.ga K "seen_of_word") fd ["word"] Pg.f_seen_of_word := by
  refine (fng_of fn sc_seen_of_word (h := Pg.s_seen_of_word) fun cdv A outer s H E hr hg => ?_).wrap
  have tk : Takes (cxOf (L2.CX P w) P w K mg base Pg.N_seen_of_word "seen_of_word" (defScope (top 21)) (He.ga K "seen_of_word") cdv A outer s H E) (fun c d _ H1 => E c d H1) := takes_of rfl rfl rfl rfl
  have hp : PassesOwn (model P w) (A.deeper (envOfC "seen_of_word" (defScope (top 21)) s.heap.objs.size (He.ga K "seen_of_word") cdv)) (envOfC "seen_of_word" (defScope (top 21)) s.heap.objs.size (He.ga K "seen_of_word") cdv) (cxOf (L2.CX P w) P w K mg base Pg.N_seen_of_word "seen_of_word" (defScope (top 21)) (He.ga K "seen_of_word") cdv A outer s H E).xe := passes_of rfl
  exact (sss_cons (ss_if (st_cmp (op_eqA (roomE hr)) (AdP.ad ap_eq) (sx_of (se_var 0)) (sx_of (se_gstr rfl F.v_NOBODY)) (by rfl)) (sss_one (ss_ret (se_gstr rfl F.v_HEAD))) sss_nil) (sss_one (ss_ret (se_if (st_val (se_al (sx_df (D_is_name.mono (by decide)) hr hg rfl F.g_is_name tk (sa_cons (se_var 0) sa_nil) (lenA_cons lenA_nil)))) (se_var 0) se_non))))
theorem A_seen_of_word {P : Program} {w : World} {K : PySem.W.Frag} {mg : Str → Option Value} {base : Heap} (F : Fx K mg) : Df P w K mg base 2 "seen_of_word" 1 [] Pg.f_seen_of_word := by
  obtain ⟨fd, fn⟩ := F.d_seen_of_word
  have FG := G_seen_of_word (P := P) (w := w) (base := base) F fn (A_is_name F)
  exact ⟨fd, _, [], [], FG, fn.kp, fn.bindsN (fun _ _ _ _ _ _ us hl => match us, hl with | [_], _ => rfl), .nil, dvs_nil, rfl⟩
theorem sc_deed_of_words : FnScope N_deed_of_words ["words"] (defScope (top 22)) := ⟨rfl, rfl, rfl, by decide +kernel, rfl, by decide +kernel, by decide +kernel⟩
theorem G_deed_of_words {P : Program} {w : World} {K : PySem.W.Frag} {mg : Str → Option Value} {base : Heap} (F : Fx K mg) {fd : FuncData} (fn : FunD K "deed_of_words" "deed_of_words" (defArgs (top 22)) (defBody (top 22)) (defScope (top 22)) [] [] (He.ga K "deed_of_words") fd) (D_number_of_word : Df P w K mg base 1 "number_of_word" 1 [.int 10] Pg.f_number_of_word) (D_is_name : Df P w K mg base 1 "is_name" 1 [] Pg.f_is_name) (D_seen_of_word : Df P w K mg base 2 "seen_of_word" 1 [] Pg.f_seen_of_word) : FnG P w K mg base 3 (He.ga K "deed_of_words") fd ["words"] f_deed_of_words := by
  refine (fng_of fn sc_deed_of_words (h := s_deed_of_words) fun cdv A outer s H E hr hg => ?_).wrap
  have tk : Takes (cxOf (L2.CX P w) P w K mg base N_deed_of_words "deed_of_words" (defScope (top 22)) (He.ga K "deed_of_words") cdv A outer s H E) (fun c d _ H1 => E c d H1) := takes_of rfl rfl rfl rfl
  have hp : PassesOwn (model P w) (A.deeper (envOfC "deed_of_words" (defScope (top 22)) s.heap.objs.size (He.ga K "deed_of_words") cdv)) (envOfC "deed_of_words" (defScope (top 22)) s.heap.objs.size (He.ga K "deed_of_words") cdv) (cxOf (L2.CX P w) P w K mg base N_deed_of_words "deed_of_words" (defScope (top 22)) (He.ga K "deed_of_words") cdv A outer s H E).xe := passes_of rfl
  exact (sss_cons (ss_if (st_w (sw_or (st_cmp (op_ni (roomU hr)) (AdP.ad ap_ni) (sx_of (se_ix (roomU hr) (sx_of (se_var 0)) (sx_of se_int))) (sx_of (se_tup (sa_cons se_str (sa_cons se_str (sa_cons se_str sa_nil))) (lenA_cons (lenA_cons (lenA_cons lenA_nil))))) (by rfl)) (sw_or1 (st_cmp (op_neA (roomE hr)) (AdP.ad ap_ne) (sx_of (se_cb cr_len ac_len rfl F.n_len b_len (sb_cons (sx_of (se_var 0)) sb_nil))) (sx_of (se_op op_add ad_add (sx_of se_int) (sx_of (se_ct cr_int ac_int rfl F.n_int b_int (sb_cons (sx_of (se_cmp (op_eqA (roomE hr)) (AdP.ad ap_eq) (sx_of (se_ix (roomU hr) (sx_of (se_var 0)) (sx_of se_int))) (sx_of se_str) (by rfl))) sb_nil))))) (by rfl))))) (sss_one (ss_ret se_non)) sss_nil) (sss_cons (ss_set (i := 1) sc_deed_of_words.nd rfl (Or.inl rfl) se_non) (sss_cons (ss_if (st_cmp (op_neA (roomE hr)) (AdP.ad ap_ne) (sx_of (se_ix (roomU hr) (sx_of (se_var 0)) (sx_of (se_un un_neg ad_neg (sx_of se_int))))) (sx_of (se_gstr rfl F.v_UNMARKED)) (by rfl)) (sss_cons (ss_set (i := 1) sc_deed_of_words.nd rfl (Or.inl rfl) (se_al (sx_df (D_number_of_word.mono (by decide)) hr hg rfl F.g_number_of_word tk (sa_cons (se_ix (roomU hr) (sx_of (se_var 0)) (sx_of (se_un un_neg ad_neg (sx_of se_int)))) sa_nil) (lenA_cons lenA_nil)))) (sss_one (ss_if (st_cmp op_isN (AdP.ad ap_isN) (sx_of (se_var 1)) (sx_of se_non) (by rfl)) (sss_one (ss_ret se_non)) sss_nil))) sss_nil) (sss_cons (ss_if (st_not (st_val (se_al (sx_df (D_is_name.mono (by decide)) hr hg rfl F.g_is_name tk (sa_cons (se_ix (roomU hr) (sx_of (se_var 0)) (sx_of se_int)) sa_nil) (lenA_cons lenA_nil))))) (sss_one (ss_ret se_non)) sss_nil) (sss_cons (ss_if (st_cmp (op_neA (roomE hr)) (AdP.ad ap_ne) (sx_of (se_ix (roomU hr) (sx_of (se_var 0)) (sx_of se_int))) (sx_of se_str) (by rfl)) (sss_one (ss_ret (se_tup (sa_cons (se_ix (roomU hr) (sx_of (se_var 0)) (sx_of se_int)) (sa_cons (se_ix (roomU hr) (sx_of (se_var 0)) (sx_of se_int)) (sa_cons (se_var 1) sa_nil))) (lenA_cons (lenA_cons (lenA_cons lenA_nil)))))) sss_nil) (sss_cons (ss_set (i := 2) sc_deed_of_words.nd rfl (Or.inl rfl) (se_al (sx_df (D_seen_of_word.mono (by decide)) hr hg rfl F.g_seen_of_word tk (sa_cons (se_ix (roomU hr) (sx_of (se_var 0)) (sx_of se_int)) sa_nil) (lenA_cons lenA_nil)))) (sss_one (ss_ret (se_if (st_cmp op_isN (AdP.ad ap_isN) (sx_of (se_var 2)) (sx_of se_non) (by rfl)) se_non (se_tup (sa_cons se_str (sa_cons (se_ix (roomU hr) (sx_of (se_var 0)) (sx_of se_int)) (sa_cons (se_var 2) (sa_cons (se_var 1) sa_nil)))) (lenA_cons (lenA_cons (lenA_cons (lenA_cons lenA_nil))))))))))))))
theorem A_deed_of_words {P : Program} {w : World} {K : PySem.W.Frag} {mg : Str → Option Value} {base : Heap} (F : Fx K mg) : Df P w K mg base 3 "deed_of_words" 1 [] f_deed_of_words := by
  obtain ⟨fd, fn⟩ := F.d_deed_of_words
  have FG := G_deed_of_words (P := P) (w := w) (base := base) F fn (A_number_of_word F) (A_is_name F) (A_seen_of_word F)
  exact ⟨fd, _, [], [], FG, fn.kp, fn.bindsN (fun _ _ _ _ _ _ us hl => match us, hl with | [_], _ => rfl), .nil, dvs_nil, rfl⟩
theorem sc_rows_read : FnScope N_rows_read ["thing", "row_of_words"] (defScope (top 23)) := ⟨rfl, rfl, rfl, by decide +kernel, rfl, by decide +kernel, by decide +kernel⟩
theorem G_rows_read {P : Program} {w : World} {K : PySem.W.Frag} {mg : Str → Option Value} {base : Heap} (F : Fx K mg) {fd : FuncData} (fn : FunD K "rows_read" "rows_read" (defArgs (top 23)) (defBody (top 23)) (defScope (top 23)) [] [] (He.ga K "rows_read") fd) (D_deed_of_words : Df P w K mg base 3 "deed_of_words" 1 [] f_deed_of_words) : FnG P w K mg base 4 (He.ga K "rows_read") fd ["thing", "row_of_words"] f_rows_read := by
  refine (fng_of fn sc_rows_read (h := s_rows_read) fun cdv A outer s H E hr hg => ?_).wrap
  have tk : Takes (cxOf (L2.CX P w) P w K mg base N_rows_read "rows_read" (defScope (top 23)) (He.ga K "rows_read") cdv A outer s H E) (fun c d _ H1 => E c d H1) := takes_of rfl rfl rfl rfl
  have hp : PassesOwn (model P w) (A.deeper (envOfC "rows_read" (defScope (top 23)) s.heap.objs.size (He.ga K "rows_read") cdv)) (envOfC "rows_read" (defScope (top 23)) s.heap.objs.size (He.ga K "rows_read") cdv) (cxOf (L2.CX P w) P w K mg base N_rows_read "rows_read" (defScope (top 23)) (He.ga K "rows_read") cdv A outer s H E).xe := passes_of rfl
  exact (sss_cons (ss_if (st_not (st_val (se_cb call_isi ac_isi rfl F.n_isinstance b_isinstance (sb_cons (sx_of (se_var 0)) (sb_cons (sx_of (se_ty rfl F.n_str b_str)) sb_nil))))) (sss_one (ss_raise (C := "BadText") (f0 := "at") (flds := []) rfl tk F.e_BadText (IF_BadText F) (hr.mono (by decide)) (IB_BadText F) rfl F.g_BadText (sa_cons se_non sa_nil))) sss_nil) (sss_cons (ss_asgSt rfl (sx_bm PySem.F.plainAttrs_str PySem.F.slot_str_split PySem.F.type_str_split mt_split am_split (sx_of (se_var 0)) (sb_cons (sx_of se_str) sb_nil)) (sgs_star (sg_name sc_rows_read.nd rfl (Or.inl rfl)) (sgs_cons (sg_name sc_rows_read.nd rfl (Or.inl rfl)) sgs_nil))) (sss_cons (ss_set (i := 4) sc_rows_read.nd rfl (Or.inl rfl) (se_al (sx_lst sa_nil lenA_nil))) (sss_cons (ss_wp (ss_for hp rfl (si_enm rfl F.n_enumerate (sb_cons (sx_of (se_var 2)) sb_nil)) (sg_tup rfl (sgs_cons (sg_name sc_rows_read.nd rfl (Or.inl rfl)) (sgs_cons (sg_name sc_rows_read.nd rfl (Or.inl rfl)) sgs_nil))) (sss_gc (b := b_rows_read_1) (sss_cons (ss_set (i := 7) sc_rows_read.nd rfl (Or.inl rfl) (se_al (sx_callL (HL_deed_of_words (D_deed_of_words.mono (by decide)).held) hr hg rfl (by first | exact Or.inl rfl | exact Or.inr (Or.inl rfl) | exact Or.inr (Or.inr rfl)) tk (sa_cons (se_al (sx_bm PySem.F.plainAttrs_str PySem.F.slot_str_split PySem.F.type_str_split mt_split am_split (sx_of (se_var 6)) (sb_cons (sx_of se_str) sb_nil))) sa_nil) (lenA_cons lenA_nil)))) (sss_cons (ss_if (st_cmp op_isN (AdP.ad ap_isN) (sx_of (se_var 7)) (sx_of se_non) (by rfl)) (sss_one (ss_raise (C := "BadText") (f0 := "at") (flds := []) rfl tk F.e_BadText (IF_BadText F) (hr.mono (by decide)) (IB_BadText F) rfl F.g_BadText (sa_cons (se_var 5) sa_nil))) sss_nil) (sss_one (ss_expr (sx_bm PySem.F.plainAttrs_list PySem.F.slot_list_append PySem.F.type_list_append mt_append am_app (sx_of (se_var 4)) (sb_of (sa_cons (se_var 7) sa_nil)))))))))) (sss_cons (ss_if (st_cmp (op_neA (roomE hr)) (AdP.ad ap_ne) (sx_of (se_var 3)) (sx_of se_str) (by rfl)) (sss_one (ss_raise (C := "BadText") (f0 := "at") (flds := []) rfl tk F.e_BadText (IF_BadText F) (hr.mono (by decide)) (IB_BadText F) rfl F.g_BadText (sa_cons (se_cb cr_len ac_len rfl F.n_len b_len (sb_cons (sx_of (se_var 2)) sb_nil)) sa_nil))) sss_nil) (sss_one (ss_ret (se_ct call_tuple_of ac_tup rfl F.n_tuple b_tuple (sb_cons (sx_of (se_var 4)) sb_nil)))))))))
theorem A_rows_read {P : Program} {w : World} {K : PySem.W.Frag} {mg : Str → Option Value} {base : Heap} (F : Fx K mg) : Df P w K mg base 4 "rows_read" 2 [] f_rows_read := by
  obtain ⟨fd, fn⟩ := F.d_rows_read
  have FG := G_rows_read (P := P) (w := w) (base := base) F fn (A_deed_of_words F)
  exact ⟨fd, _, [], [], FG, fn.kp, fn.bindsN (fun _ _ _ _ _ _ us hl => match us, hl with | [_, _], _ => rfl), .nil, dvs_nil, rfl⟩
theorem sc_read_history : FnScope N_read_history ["thing"] (defScope (top 24)) := ⟨rfl, rfl, rfl, by decide +kernel, rfl, by decide +kernel, by decide +kernel⟩
theorem G_read_history {P : Program} {w : World} {K : PySem.W.Frag} {mg : Str → Option Value} {base : Heap} (F : Fx K mg) {fd : FuncData} (fn : FunD K "read_history" "read_history" (defArgs (top 24)) (defBody (top 24)) (defScope (top 24)) [] [] (He.ga K "read_history") fd) (D_rows_read : Df P w K mg base 4 "rows_read" 2 [] f_rows_read) : FnG P w K mg base 5 (He.ga K "read_history") fd ["thing"] f_read_history := by
  refine (fng_of fn sc_read_history (h := s_read_history) fun cdv A outer s H E hr hg => ?_).wrap
  have tk : Takes (cxOf (L2.CX P w) P w K mg base N_read_history "read_history" (defScope (top 24)) (He.ga K "read_history") cdv A outer s H E) (fun c d _ H1 => E c d H1) := takes_of rfl rfl rfl rfl
  have hp : PassesOwn (model P w) (A.deeper (envOfC "read_history" (defScope (top 24)) s.heap.objs.size (He.ga K "read_history") cdv)) (envOfC "read_history" (defScope (top 24)) s.heap.objs.size (He.ga K "read_history") cdv) (cxOf (L2.CX P w) P w K mg base N_read_history "read_history" (defScope (top 24)) (He.ga K "read_history") cdv A outer s H E).xe := passes_of rfl
  exact (sss_one (ss_ret (se_al (sx_df (D_rows_read.mono (by decide)) hr hg rfl F.g_rows_read tk (sa_cons (se_var 0) (sa_cons (se_gref rfl F.g_deed_of_words) sa_nil)) (lenA_cons (lenA_cons lenA_nil))))))
theorem A_read_history {P : Program} {w : World} {K : PySem.W.Frag} {mg : Str → Option Value} {base : Heap} (F : Fx K mg) : Df P w K mg base 5 "read_history" 1 [] f_read_history := by
  obtain ⟨fd, fn⟩ := F.d_read_history
  have FG := G_read_history (P := P) (w := w) (base := base) F fn (A_rows_read F)
  exact ⟨fd, _, [], [], FG, fn.kp, fn.bindsN (fun _ _ _ _ _ _ us hl => match us, hl with | [_], _ => rfl), .nil, dvs_nil, rfl⟩
theorem sc_read_line : FnScope N_read_line ["thing"] (defScope (top 25)) := ⟨rfl, rfl, rfl, by decide +kernel, rfl, by decide +kernel, by decide +kernel⟩
theorem G_read_line {P : Program} {w : World} {K : PySem.W.Frag} {mg : Str → Option Value} {base : Heap} (F : Fx K mg) {fd : FuncData} (fn : FunD K "read_line" "read_line" (defArgs (top 25)) (defBody (top 25)) (defScope (top 25)) [] [] (He.ga K "read_line") fd) (D_is_name : Df P w K mg base 1 "is_name" 1 [] Pg.f_is_name) : FnG P w K mg base 4 (He.ga K "read_line") fd ["thing"] f_read_line := by
  refine (fng_of fn sc_read_line (h := s_read_line) fun cdv A outer s H E hr hg => ?_).wrap
  have tk : Takes (cxOf (L2.CX P w) P w K mg base N_read_line "read_line" (defScope (top 25)) (He.ga K "read_line") cdv A outer s H E) (fun c d _ H1 => E c d H1) := takes_of rfl rfl rfl rfl
  have hp : PassesOwn (model P w) (A.deeper (envOfC "read_line" (defScope (top 25)) s.heap.objs.size (He.ga K "read_line") cdv)) (envOfC "read_line" (defScope (top 25)) s.heap.objs.size (He.ga K "read_line") cdv) (cxOf (L2.CX P w) P w K mg base N_read_line "read_line" (defScope (top 25)) (He.ga K "read_line") cdv A outer s H E).xe := passes_of rfl
  exact (sss_cons (ss_if (st_not (st_val (se_cb call_isi ac_isi rfl F.n_isinstance b_isinstance (sb_cons (sx_of (se_var 0)) (sb_cons (sx_of (se_ty rfl F.n_str b_str)) sb_nil))))) (sss_one (ss_raise (C := "BadText") (f0 := "at") (flds := []) rfl tk F.e_BadText (IF_BadText F) (hr.mono (by decide)) (IB_BadText F) rfl F.g_BadText (sa_cons se_non sa_nil))) sss_nil) (sss_cons (ss_if (st_cmp (op_eqA (roomE hr)) (AdP.ad ap_eq) (sx_of (se_var 0)) (sx_of se_str) (by rfl)) (sss_one (ss_ret (se_tup sa_nil lenA_nil))) sss_nil) (sss_cons (ss_set (i := 1) sc_read_line.nd rfl (Or.inl rfl) (se_al (sx_bm PySem.F.plainAttrs_str PySem.F.slot_str_split PySem.F.type_str_split mt_split am_split (sx_of (se_var 0)) (sb_cons (sx_of se_str) sb_nil)))) (sss_cons (ss_wp (ss_for hp rfl (si_enm rfl F.n_enumerate (sb_cons (sx_of (se_var 1)) sb_nil)) (sg_tup rfl (sgs_cons (sg_name sc_read_line.nd rfl (Or.inl rfl)) (sgs_cons (sg_name sc_read_line.nd rfl (Or.inl rfl)) sgs_nil))) (sss_gc (b := b_read_line_1) (sss_one (ss_if (st_not (st_val (se_al (sx_df (D_is_name.mono (by decide)) hr hg rfl F.g_is_name tk (sa_cons (se_var 3) sa_nil) (lenA_cons lenA_nil))))) (sss_one (ss_raise (C := "BadText") (f0 := "at") (flds := []) rfl tk F.e_BadText (IF_BadText F) (hr.mono (by decide)) (IB_BadText F) rfl F.g_BadText (sa_cons (se_var 2) sa_nil))) sss_nil))))) (sss_one (ss_ret (se_ct call_tuple_of ac_tup rfl F.n_tuple b_tuple (sb_cons (sx_of (se_var 1)) sb_nil))))))))
theorem A_read_line {P : Program} {w : World} {K : PySem.W.Frag} {mg : Str → Option Value} {base : Heap} (F : Fx K mg) : Df P w K mg base 4 "read_line" 1 [] f_read_line := by
  obtain ⟨fd, fn⟩ := F.d_read_line
  have FG := G_read_line (P := P) (w := w) (base := base) F fn (A_is_name F)
  exact ⟨fd, _, [], [], FG, fn.kp, fn.bindsN (fun _ _ _ _ _ _ us hl => match us, hl with | [_], _ => rfl), .nil, dvs_nil, rfl⟩
theorem sc_read_clash : FnScope N_read_clash ["thing"] (defScope (top 26)) := ⟨rfl, rfl, rfl, by decide +kernel, rfl, by decide +kernel, by decide +kernel⟩
theorem G_read_clash {P : Program} {w : World} {K : PySem.W.Frag} {mg : Str → Option Value} {base : Heap} (F : Fx K mg) {fd : FuncData} (fn : FunD K "read_clash" "read_clash" (defArgs (top 26)) (defBody (top 26)) (defScope (top 26)) [] [] (He.ga K "read_clash") fd) (D_is_name : Df P w K mg base 1 "is_name" 1 [] Pg.f_is_name) : FnG P w K mg base 4 (He.ga K "read_clash") fd ["thing"] f_read_clash := by
  refine (fng_of fn sc_read_clash (h := s_read_clash) fun cdv A outer s H E hr hg => ?_).wrap
  have tk : Takes (cxOf (L2.CX P w) P w K mg base N_read_clash "read_clash" (defScope (top 26)) (He.ga K "read_clash") cdv A outer s H E) (fun c d _ H1 => E c d H1) := takes_of rfl rfl rfl rfl
  have hp : PassesOwn (model P w) (A.deeper (envOfC "read_clash" (defScope (top 26)) s.heap.objs.size (He.ga K "read_clash") cdv)) (envOfC "read_clash" (defScope (top 26)) s.heap.objs.size (He.ga K "read_clash") cdv) (cxOf (L2.CX P w) P w K mg base N_read_clash "read_clash" (defScope (top 26)) (He.ga K "read_clash") cdv A outer s H E).xe := passes_of rfl
  exact (sss_cons (ss_if (st_not (st_val (se_cb call_isi ac_isi rfl F.n_isinstance b_isinstance (sb_cons (sx_of (se_var 0)) (sb_cons (sx_of (se_ty rfl F.n_str b_str)) sb_nil))))) (sss_one (ss_raise (C := "BadText") (f0 := "at") (flds := []) rfl tk F.e_BadText (IF_BadText F) (hr.mono (by decide)) (IB_BadText F) rfl F.g_BadText (sa_cons se_non sa_nil))) sss_nil) (sss_cons (ss_asgSt rfl (sx_bm PySem.F.plainAttrs_str PySem.F.slot_str_split PySem.F.type_str_split mt_split am_split (sx_of (se_var 0)) (sb_cons (sx_of se_str) sb_nil)) (sgs_cons (sg_name sc_read_clash.nd rfl (Or.inl rfl)) (sgs_star (sg_name sc_read_clash.nd rfl (Or.inl rfl)) sgs_nil))) (sss_cons (ss_if (st_cmp (op_neA (roomE hr)) (AdP.ad ap_ne) (sx_lc (own := [("name", 3)]) rfl sc_read_clash.nd (si_seq (sx_of (se_var 2))) (blkOk_by (by rfl)) (fun _ _ _ _ _ => (sg_name sc_read_clash.nd rfl (Or.inl rfl))) (fun _ _ _ _ _ => (sts_one (st_not (st_val (se_al (sx_df (D_is_name.mono (by decide)) hr hg rfl F.g_is_name takes_none5 (sa_cons (se_var 3) sa_nil) (lenA_cons lenA_nil))))))) (fun _ _ _ _ _ => (se_var 3))) (sx_lst sa_nil lenA_nil) (by rfl)) (sss_one (ss_raise (C := "BadText") (f0 := "at") (flds := []) rfl tk F.e_BadText (IF_BadText F) (hr.mono (by decide)) (IB_BadText F) rfl F.g_BadText (sa_cons se_int sa_nil))) sss_nil) (sss_cons (ss_if (st_w (sw_and (st_cmp (op_eqA (roomE hr)) (AdP.ad ap_eq) (sx_of (se_var 1)) (sx_of se_str) (by rfl)) (sw_and1 (st_cmp (op_eqA (roomE hr)) (AdP.ad ap_eq) (sx_of (se_cb cr_len ac_len rfl F.n_len b_len (sb_cons (sx_of (se_var 2)) sb_nil))) (sx_of se_int) (by rfl))))) (sss_one (ss_ret (se_tup (sa_cons se_str (sa_cons (se_ix (roomU hr) (sx_of (se_var 2)) (sx_of se_int)) sa_nil)) (lenA_cons (lenA_cons lenA_nil))))) sss_nil) (sss_cons (ss_if (st_w (sw_and (st_cmp (op_in (roomU hr)) (AdP.ad ap_in) (sx_of (se_var 1)) (sx_of (se_tup (sa_cons se_str (sa_cons se_str sa_nil)) (lenA_cons (lenA_cons lenA_nil)))) (by rfl)) (sw_and1 (st_cmp op_gt (AdP.ad ap_gt) (sx_of (se_cb cr_len ac_len rfl F.n_len b_len (sb_cons (sx_of (se_var 2)) sb_nil))) (sx_of se_int) (by rfl))))) (sss_one (ss_ret (se_tup (sa_cons (se_var 1) (sa_cons (se_ct call_tuple_of ac_tup rfl F.n_tuple b_tuple (sb_cons (sx_of (se_var 2)) sb_nil)) sa_nil)) (lenA_cons (lenA_cons lenA_nil))))) sss_nil) (sss_one (ss_raise (C := "BadText") (f0 := "at") (flds := []) rfl tk F.e_BadText (IF_BadText F) (hr.mono (by decide)) (IB_BadText F) rfl F.g_BadText (sa_cons se_int sa_nil))))))))
theorem A_read_clash {P : Program} {w : World} {K : PySem.W.Frag} {mg : Str → Option Value} {base : Heap} (F : Fx K mg) : Df P w K mg base 4 "read_clash" 1 [] f_read_clash := by
  obtain ⟨fd, fn⟩ := F.d_read_clash
  have FG := G_read_clash (P := P) (w := w) (base := base) F fn (A_is_name F)
  exact ⟨fd, _, [], [], FG, fn.kp, fn.bindsN (fun _ _ _ _ _ _ us hl => match us, hl with | [_], _ => rfl), .nil, dvs_nil, rfl⟩
theorem sc__law_take : FnScope La.N__law_take ["state", "below"] (defScope (top 28)) := ⟨rfl, rfl, rfl, by decide +kernel, rfl, by decide +kernel, by decide +kernel⟩
theorem G__law_take {P : Program} {w : World} {K : PySem.W.Frag} {mg : Str → Option Value} {base : Heap} (F : Fx K mg) {fd : FuncData} (fn : FunD K "_law_take" "_law_take" (defArgs (top 28)) (defBody (top 28)) (defScope (top 28)) [] [] (He.ga K "_law_take") fd)  : FnG P w K mg base 1 (He.ga K "_law_take") fd ["state", "below"] La.f__law_take := by
  refine (fng_of fn sc__law_take (h := La.s__law_take) fun cdv A outer s H E hr hg => ?_).wrap
  have tk : Takes (cxOf (L2.CX P w) P w K mg base La.N__law_take "_law_take" (defScope (top 28)) (He.ga K "_law_take") cdv A outer s H E) (fun c d _ H1 => E c d H1) := takes_of rfl rfl rfl rfl
  have hp : PassesOwn (model P w) (A.deeper (envOfC "_law_take" (defScope (top 28)) s.heap.objs.size (He.ga K "_law_take") cdv)) (envOfC "_law_take" (defScope (top 28)) s.heap.objs.size (He.ga K "_law_take") cdv) (cxOf (L2.CX P w) P w K mg base La.N__law_take "_law_take" (defScope (top 28)) (He.ga K "_law_take") cdv A outer s H E).xe := passes_of rfl
  exact (sss_cons (ss_if (st_cmp op_gt (AdP.ad ap_gt) (sx_of (se_ix (roomU hr) (sx_of (se_var 0)) (sx_of se_int))) (sx_of se_int) (by rfl)) (sss_cons (ss_set (i := 2) sc__law_take.nd rfl (Or.inl rfl) (se_op op_mod ad_mod (sx_of (se_ix (roomU hr) (sx_of (se_var 0)) (sx_of se_int))) (sx_of (se_var 1)))) (sss_cons (ss_st (roomU hr) (se_op op_fdiv ad_div (sx_of (se_ix (roomU hr) (sx_of (se_var 0)) (sx_of se_int))) (sx_of (se_var 1))) (se_var 0) se_int) (sss_one (ss_ret (se_var 2))))) sss_nil) (sss_cons (ss_set (i := 3) sc__law_take.nd rfl (Or.inl rfl) (se_ix (roomU hr) (sx_of (se_var 0)) (sx_of se_int))) (sss_cons (ss_if (st_cmp (op_neA (roomE hr)) (AdP.ad ap_ne) (sx_of (se_ix (roomU hr) (sx_of (se_var 0)) (sx_of se_int))) (sx_lst sa_nil lenA_nil) (by rfl)) (sss_one (ss_set (i := 3) sc__law_take.nd rfl (Or.inl rfl) (se_ix (roomU hr) (sx_of (se_ix (roomU hr) (sx_of (se_var 0)) (sx_of se_int))) (sx_of (se_op op_mod ad_mod (sx_of (se_ix (roomU hr) (sx_of (se_var 0)) (sx_of se_int))) (sx_of (se_cb cr_len ac_len rfl F.n_len b_len (sb_cons (sx_of (se_ix (roomU hr) (sx_of (se_var 0)) (sx_of se_int))) sb_nil)))))))) sss_nil) (sss_cons (ss_st (roomU hr) (se_op op_add ad_add (sx_of (se_ix (roomU hr) (sx_of (se_var 0)) (sx_of se_int))) (sx_of se_int)) (se_var 0) se_int) (sss_cons (ss_if (st_w (sw_and (st_cmp op_ge (AdP.ad ap_ge) (sx_of (se_var 3)) (sx_of (se_op op_pow ad_pow (sx_of se_int) (sx_of se_int))) (by rfl)) (sw_and1 (st_cmp op_leA (AdP.ad ap_leA) (sx_of (se_ix (roomU hr) (sx_of (se_var 0)) (sx_of se_int))) (sx_of (se_cb cr_len ac_len rfl F.n_len b_len (sb_cons (sx_of (se_ix (roomU hr) (sx_of (se_var 0)) (sx_of se_int))) sb_nil))) (by rfl))))) (sss_cons (ss_st (roomU hr) (se_op op_fdiv ad_div (sx_of (se_var 3)) (sx_of (se_var 1))) (se_var 0) se_int) (sss_one (ss_ret (se_op op_mod ad_mod (sx_of (se_var 3)) (sx_of (se_var 1)))))) sss_nil) (sss_cons (ss_set (i := 3) sc__law_take.nd rfl (Or.inl rfl) (se_op op_mod ad_mod (sx_of (se_var 3)) (sx_of se_int))) (sss_cons (ss_st (roomU hr) (se_op op_mod ad_mod (sx_op op_addA ad_addA (sx_op op_addA ad_addA (sx_op op_mulA ad_mulA (sx_of (se_ix (roomU hr) (sx_of (se_var 0)) (sx_of se_int))) (sx_of se_int)) (sx_op op_mulA ad_mulA (sx_of (se_var 3)) (sx_of se_int))) (sx_of (se_ix (roomU hr) (sx_of (se_var 0)) (sx_of se_int)))) (sx_of se_int)) (se_var 0) se_int) (sss_one (ss_ret (se_op op_mod ad_mod (sx_of (se_op op_fdiv ad_div (sx_of (se_op op_mod ad_mod (sx_op op_mulA ad_mulA (sx_of (se_ix (roomU hr) (sx_of (se_var 0)) (sx_of se_int))) (sx_of (se_ix (roomU hr) (sx_of (se_var 0)) (sx_of se_int)))) (sx_of se_int))) (sx_of se_int))) (sx_of (se_var 1))))))))))))
theorem A__law_take {P : Program} {w : World} {K : PySem.W.Frag} {mg : Str → Option Value} {base : Heap} (F : Fx K mg) : Df P w K mg base 1 "_law_take" 2 [] La.f__law_take := by
  obtain ⟨fd, fn⟩ := F.d__law_take
  have FG := G__law_take (P := P) (w := w) (base := base) F fn 
  exact ⟨fd, _, [], [], FG, fn.kp, fn.bindsN (fun _ _ _ _ _ _ us hl => match us, hl with | [_, _], _ => rfl), .nil, dvs_nil, rfl⟩
theorem sc__law_names : FnScope La.N__law_names ["state", "many"] (defScope (top 29)) := ⟨rfl, rfl, rfl, by decide +kernel, rfl, by decide +kernel, by decide +kernel⟩
theorem G__law_names {P : Program} {w : World} {K : PySem.W.Frag} {mg : Str → Option Value} {base : Heap} (F : Fx K mg) {fd : FuncData} (fn : FunD K "_law_names" "_law_names" (defArgs (top 29)) (defBody (top 29)) (defScope (top 29)) [] [] (He.ga K "_law_names") fd) (D__law_take : Df P w K mg base 1 "_law_take" 2 [] La.f__law_take) : FnG P w K mg base 2 (He.ga K "_law_names") fd ["state", "many"] La.f__law_names := by
  refine (fng_of fn sc__law_names (h := La.s__law_names) fun cdv A outer s H E hr hg => ?_).wrap
  have tk : Takes (cxOf (L2.CX P w) P w K mg base La.N__law_names "_law_names" (defScope (top 29)) (He.ga K "_law_names") cdv A outer s H E) (fun c d _ H1 => E c d H1) := takes_of rfl rfl rfl rfl
  have hp : PassesOwn (model P w) (A.deeper (envOfC "_law_names" (defScope (top 29)) s.heap.objs.size (He.ga K "_law_names") cdv)) (envOfC "_law_names" (defScope (top 29)) s.heap.objs.size (He.ga K "_law_names") cdv) (cxOf (L2.CX P w) P w K mg base La.N__law_names "_law_names" (defScope (top 29)) (He.ga K "_law_names") cdv A outer s H E).xe := passes_of rfl
  exact (sss_cons (ss_set (i := 2) sc__law_names.nd rfl (Or.inr rfl) se_str) (sss_cons (ss_set (i := 3) sc__law_names.nd rfl (Or.inr rfl) (se_al (sx_bm PySem.F.plainAttrs_str PySem.F.slot_str_join PySem.F.type_str_join mt_join am_join (sx_of se_str) (sb_cons (sx_lc (own := [("k", 7)]) rfl sc__law_names.nd (si_rng1 rfl F.n_range (sa_cons (se_al (sx_df (D__law_take.mono (by decide)) hr hg rfl F.g__law_take tk (sa_cons (se_var 0) (sa_cons se_int sa_nil)) (lenA_cons (lenA_cons lenA_nil)))) sa_nil)) (blkOk_by (by rfl)) (fun _ _ _ _ _ => (sg_name sc__law_names.nd rfl (Or.inl rfl))) (fun _ _ _ _ _ => sts_nil) (fun _ _ _ _ _ => (se_ix (roomU hr) (sx_of (se_var 2)) (sx_df (D__law_take.mono (by decide)) hr hg rfl F.g__law_take takes_none5 (sa_cons (se_var 0) (sa_cons se_int sa_nil)) (lenA_cons (lenA_cons lenA_nil)))))) sb_nil)))) (sss_cons (ss_set (i := 4) sc__law_names.nd rfl (Or.inr rfl) (se_al (sx_df (D__law_take.mono (by decide)) hr hg rfl F.g__law_take tk (sa_cons (se_var 0) (sa_cons (se_op op_add ad_add (sx_of (se_cb cr_len ac_len rfl F.n_len b_len (sb_cons (sx_of (se_var 3)) sb_nil))) (sx_of se_int)) sa_nil)) (lenA_cons (lenA_cons lenA_nil))))) (sss_cons (ss_set (i := 5) sc__law_names.nd rfl (Or.inr rfl) (se_al (sx_df (D__law_take.mono (by decide)) hr hg rfl F.g__law_take tk (sa_cons (se_var 0) (sa_cons se_int sa_nil)) (lenA_cons (lenA_cons lenA_nil))))) (sss_cons (ss_set (i := 6) sc__law_names.nd rfl (Or.inr rfl) (se_ix (roomU hr) (sx_lst (sa_cons se_int (sa_cons se_int (sa_cons se_int (sa_cons se_int sa_nil)))) (lenA_cons (lenA_cons (lenA_cons (lenA_cons lenA_nil))))) (sx_df (D__law_take.mono (by decide)) hr hg rfl F.g__law_take tk (sa_cons (se_var 0) (sa_cons se_int sa_nil)) (lenA_cons (lenA_cons lenA_nil))))) (sss_one (ss_ret (se_al (sx_lc (own := [("k", 7)]) rfl sc__law_names.nd (si_rng1 rfl F.n_range (sa_cons (se_var 1) sa_nil)) (blkOk_by (by rfl)) (fun _ _ _ _ _ => (sg_name sc__law_names.nd rfl (Or.inl rfl))) (fun _ _ _ _ _ => sts_nil) (fun _ _ _ _ _ => (se_al (sx_op op_addA ad_addA (sx_op op_addA ad_addA (sx_sl (sx_of (se_var 3)) to_none (to_some (se_var 4))) (sx_of (se_ix (roomU hr) (sx_of (se_var 2)) (sx_of (se_op op_mod ad_mod (sx_op op_addA ad_addA (sx_of (se_var 5)) (sx_op op_mulA ad_mulA (sx_of (se_var 6)) (sx_of (se_var 7)))) (sx_of se_int)))))) (sx_sl (sx_of (se_var 3)) (to_some (se_var 4)) to_none)))))))))))))
theorem A__law_names {P : Program} {w : World} {K : PySem.W.Frag} {mg : Str → Option Value} {base : Heap} (F : Fx K mg) : Df P w K mg base 2 "_law_names" 2 [] La.f__law_names := by
  obtain ⟨fd, fn⟩ := F.d__law_names
  have FG := G__law_names (P := P) (w := w) (base := base) F fn (A__law_take F)
  exact ⟨fd, _, [], [], FG, fn.kp, fn.bindsN (fun _ _ _ _ _ _ us hl => match us, hl with | [_, _], _ => rfl), .nil, dvs_nil, rfl⟩
theorem sc__law_is_word : FnScope N__law_is_word ["word"] (defScope (top 30)) := ⟨rfl, rfl, rfl, by decide +kernel, rfl, by decide +kernel, by decide +kernel⟩
theorem G__law_is_word {P : Program} {w : World} {K : PySem.W.Frag} {mg : Str → Option Value} {base : Heap} (F : Fx K mg) {fd : FuncData} (fn : FunD K "_law_is_word" "_law_is_word" (defArgs (top 30)) (defBody (top 30)) (defScope (top 30)) [] [] (He.ga K "_law_is_word") fd)  : FnG P w K mg base 1 (He.ga K "_law_is_word") fd ["word"] f__law_is_word := by
  refine (fng_of fn sc__law_is_word (h := s__law_is_word) fun cdv A outer s H E hr hg => ?_).wrap
  have tk : Takes (cxOf (L2.CX P w) P w K mg base N__law_is_word "_law_is_word" (defScope (top 30)) (He.ga K "_law_is_word") cdv A outer s H E) (fun c d _ H1 => E c d H1) := takes_of rfl rfl rfl rfl
  have hp : PassesOwn (model P w) (A.deeper (envOfC "_law_is_word" (defScope (top 30)) s.heap.objs.size (He.ga K "_law_is_word") cdv)) (envOfC "_law_is_word" (defScope (top 30)) s.heap.objs.size (He.ga K "_law_is_word") cdv) (cxOf (L2.CX P w) P w K mg base N__law_is_word "_law_is_word" (defScope (top 30)) (He.ga K "_law_is_word") cdv A outer s H E).xe := passes_of rfl
  exact (sss_one (ss_ret (se_and (se_chain op_leA ap_leA op_leA ap_leA (sx_of se_int) (sx_of (se_cb cr_len ac_len rfl F.n_len b_len (sb_cons (sx_of (se_var 0)) sb_nil))) (sx_of se_int)) (se_one (se_cmp (op_eqA (roomE hr)) (AdP.ad ap_eq) (sx_lc (own := [("sign", 1)]) rfl sc__law_is_word.nd (si_seq (sx_of (se_var 0))) (blkOk_by (by rfl)) (fun _ _ _ _ _ => (sg_name sc__law_is_word.nd rfl (Or.inl rfl))) (fun _ _ _ _ _ => (sts_one (st_cmp (op_ni (roomU hr)) (AdP.ad ap_ni) (sx_of (se_var 1)) (sx_of se_str) (by rfl)))) (fun _ _ _ _ _ => (se_var 1))) (sx_lst sa_nil lenA_nil) (by rfl))))))
theorem A__law_is_word {P : Program} {w : World} {K : PySem.W.Frag} {mg : Str → Option Value} {base : Heap} (F : Fx K mg) : Df P w K mg base 1 "_law_is_word" 1 [] f__law_is_word := by
  obtain ⟨fd, fn⟩ := F.d__law_is_word
  have FG := G__law_is_word (P := P) (w := w) (base := base) F fn 
  exact ⟨fd, _, [], [], FG, fn.kp, fn.bindsN (fun _ _ _ _ _ _ us hl => match us, hl with | [_], _ => rfl), .nil, dvs_nil, rfl⟩
theorem sc__law_number : FnScope N__law_number ["word"] (defScope (top 31)) := ⟨rfl, rfl, rfl, by decide +kernel, rfl, by decide +kernel, by decide +kernel⟩
theorem G__law_number {P : Program} {w : World} {K : PySem.W.Frag} {mg : Str → Option Value} {base : Heap} (F : Fx K mg) {fd : FuncData} (fn : FunD K "_law_number" "_law_number" (defArgs (top 31)) (defBody (top 31)) (defScope (top 31)) [] [] (He.ga K "_law_number") fd)  : FnG P w K mg base 1 (He.ga K "_law_number") fd ["word"] f__law_number := by
  refine (fng_of fn sc__law_number (h := s__law_number) fun cdv A outer s H E hr hg => ?_).wrap
  have tk : Takes (cxOf (L2.CX P w) P w K mg base N__law_number "_law_number" (defScope (top 31)) (He.ga K "_law_number") cdv A outer s H E) (fun c d _ H1 => E c d H1) := takes_of rfl rfl rfl rfl
  have hp : PassesOwn (model P w) (A.deeper (envOfC "_law_number" (defScope (top 31)) s.heap.objs.size (He.ga K "_law_number") cdv)) (envOfC "_law_number" (defScope (top 31)) s.heap.objs.size (He.ga K "_law_number") cdv) (cxOf (L2.CX P w) P w K mg base N__law_number "_law_number" (defScope (top 31)) (He.ga K "_law_number") cdv A outer s H E).xe := passes_of rfl
  exact (sss_cons (ss_if (st_w (sw_or (st_not (st_chain op_leA ap_leA op_leA ap_leA (sx_of se_int) (sx_of (se_cb cr_len ac_len rfl F.n_len b_len (sb_cons (sx_of (se_var 0)) sb_nil))) (sx_of se_int))) (sw_or1 (st_cmp (op_neA (roomE hr)) (AdP.ad ap_ne) (sx_lc (own := [("sign", 1)]) rfl sc__law_number.nd (si_seq (sx_of (se_var 0))) (blkOk_by (by rfl)) (fun _ _ _ _ _ => (sg_name sc__law_number.nd rfl (Or.inl rfl))) (fun _ _ _ _ _ => (sts_one (st_cmp (op_ni (roomU hr)) (AdP.ad ap_ni) (sx_of (se_var 1)) (sx_of se_str) (by rfl)))) (fun _ _ _ _ _ => (se_var 1))) (sx_lst sa_nil lenA_nil) (by rfl))))) (sss_one (ss_ret (se_un un_neg ad_neg (sx_of se_int)))) sss_nil) (sss_cons (ss_if (st_w (sw_and (st_cmp (op_eqA (roomE hr)) (AdP.ad ap_eq) (sx_of (se_ix (roomU hr) (sx_of (se_var 0)) (sx_of se_int))) (sx_of se_str) (by rfl)) (sw_and1 (st_cmp op_gt (AdP.ad ap_gt) (sx_of (se_cb cr_len ac_len rfl F.n_len b_len (sb_cons (sx_of (se_var 0)) sb_nil))) (sx_of se_int) (by rfl))))) (sss_one (ss_ret (se_un un_neg ad_neg (sx_of se_int)))) sss_nil) (sss_one (ss_ret (se_ct cr_int ac_int rfl F.n_int b_int (sb_cons (sx_of (se_var 0)) sb_nil))))))
theorem A__law_number {P : Program} {w : World} {K : PySem.W.Frag} {mg : Str → Option Value} {base : Heap} (F : Fx K mg) : Df P w K mg base 1 "_law_number" 1 [] f__law_number := by
  obtain ⟨fd, fn⟩ := F.d__law_number
  have FG := G__law_number (P := P) (w := w) (base := base) F fn 
  exact ⟨fd, _, [], [], FG, fn.kp, fn.bindsN (fun _ _ _ _ _ _ us hl => match us, hl with | [_], _ => rfl), .nil, dvs_nil, rfl⟩
theorem sc__law_seen : FnScope N__law_seen ["word"] (defScope (top 32)) := ⟨rfl, rfl, rfl, by decide +kernel, rfl, by decide +kernel, by decide +kernel⟩
theorem G__law_seen {P : Program} {w : World} {K : PySem.W.Frag} {mg : Str → Option Value} {base : Heap} (F : Fx K mg) {fd : FuncData} (fn : FunD K "_law_seen" "_law_seen" (defArgs (top 32)) (defBody (top 32)) (defScope (top 32)) [] [] (He.ga K "_law_seen") fd) (D__law_is_word : Df P w K mg base 1 "_law_is_word" 1 [] f__law_is_word) : FnG P w K mg base 2 (He.ga K "_law_seen") fd ["word"] f__law_seen := by
  refine (fng_of fn sc__law_seen (h := s__law_seen) fun cdv A outer s H E hr hg => ?_).wrap
  have tk : Takes (cxOf (L2.CX P w) P w K mg base N__law_seen "_law_seen" (defScope (top 32)) (He.ga K "_law_seen") cdv A outer s H E) (fun c d _ H1 => E c d H1) := takes_of rfl rfl rfl rfl
  have hp : PassesOwn (model P w) (A.deeper (envOfC "_law_seen" (defScope (top 32)) s.heap.objs.size (He.ga K "_law_seen") cdv)) (envOfC "_law_seen" (defScope (top 32)) s.heap.objs.size (He.ga K "_law_seen") cdv) (cxOf (L2.CX P w) P w K mg base N__law_seen "_law_seen" (defScope (top 32)) (He.ga K "_law_seen") cdv A outer s H E).xe := passes_of rfl
  exact (sss_cons (ss_if (st_cmp (op_eqA (roomE hr)) (AdP.ad ap_eq) (sx_of (se_var 0)) (sx_of se_str) (by rfl)) (sss_one (ss_ret se_str)) sss_nil) (sss_one (ss_ret (se_ix (roomU hr) (sx_lst (sa_cons se_non (sa_cons (se_var 0) sa_nil)) (lenA_cons (lenA_cons lenA_nil))) (sx_of (se_ct cr_int ac_int rfl F.n_int b_int (sb_cons (sx_df (D__law_is_word.mono (by decide)) hr hg rfl F.g__law_is_word tk (sa_cons (se_var 0) sa_nil) (lenA_cons lenA_nil)) sb_nil)))))))
theorem A__law_seen {P : Program} {w : World} {K : PySem.W.Frag} {mg : Str → Option Value} {base : Heap} (F : Fx K mg) : Df P w K mg base 2 "_law_seen" 1 [] f__law_seen := by
  obtain ⟨fd, fn⟩ := F.d__law_seen
  have FG := G__law_seen (P := P) (w := w) (base := base) F fn (A__law_is_word F)
  exact ⟨fd, _, [], [], FG, fn.kp, fn.bindsN (fun _ _ _ _ _ _ us hl => match us, hl with | [_], _ => rfl), .nil, dvs_nil, rfl⟩
theorem sc__law_bent : FnScope N__law_bent ["state", "text"] (defScope (top 33)) := ⟨rfl, rfl, rfl, by decide +kernel, rfl, by decide +kernel, by decide +kernel⟩
theorem G__law_bent {P : Program} {w : World} {K : PySem.W.Frag} {mg : Str → Option Value} {base : Heap} (F : Fx K mg) {fd : FuncData} (fn : FunD K "_law_bent" "_law_bent" (defArgs (top 33)) (defBody (top 33)) (defScope (top 33)) [] [] (He.ga K "_law_bent") fd) (D__law_take : Df P w K mg base 1 "_law_take" 2 [] La.f__law_take) : FnG P w K mg base 2 (He.ga K "_law_bent") fd ["state", "text"] f__law_bent := by
  refine (fng_of fn sc__law_bent (h := s__law_bent) fun cdv A outer s H E hr hg => ?_).wrap
  have tk : Takes (cxOf (L2.CX P w) P w K mg base N__law_bent "_law_bent" (defScope (top 33)) (He.ga K "_law_bent") cdv A outer s H E) (fun c d _ H1 => E c d H1) := takes_of rfl rfl rfl rfl
  have hp : PassesOwn (model P w) (A.deeper (envOfC "_law_bent" (defScope (top 33)) s.heap.objs.size (He.ga K "_law_bent") cdv)) (envOfC "_law_bent" (defScope (top 33)) s.heap.objs.size (He.ga K "_law_bent") cdv) (cxOf (L2.CX P w) P w K mg base N__law_bent "_law_bent" (defScope (top 33)) (He.ga K "_law_bent") cdv A outer s H E).xe := passes_of rfl
  exact (sss_cons (ss_set (i := 2) sc__law_bent.nd rfl (Or.inl rfl) se_str) (sss_cons (ss_set (i := 3) sc__law_bent.nd rfl (Or.inl rfl) (se_al (sx_df (D__law_take.mono (by decide)) hr hg rfl F.g__law_take tk (sa_cons (se_var 0) (sa_cons se_int sa_nil)) (lenA_cons (lenA_cons lenA_nil))))) (sss_cons (ss_set (i := 4) sc__law_bent.nd rfl (Or.inl rfl) (se_al (sx_df (D__law_take.mono (by decide)) hr hg rfl F.g__law_take tk (sa_cons (se_var 0) (sa_cons (se_op op_add ad_add (sx_of (se_cb cr_len ac_len rfl F.n_len b_len (sb_cons (sx_of (se_var 1)) sb_nil))) (sx_of se_int)) sa_nil)) (lenA_cons (lenA_cons lenA_nil))))) (sss_cons (ss_set (i := 5) sc__law_bent.nd rfl (Or.inl rfl) (se_ix (roomU hr) (sx_of (se_var 2)) (sx_df (D__law_take.mono (by decide)) hr hg rfl F.g__law_take tk (sa_cons (se_var 0) (sa_cons (se_cb cr_len ac_len rfl F.n_len b_len (sb_cons (sx_of (se_var 2)) sb_nil)) sa_nil)) (lenA_cons (lenA_cons lenA_nil))))) (sss_cons (ss_set (i := 6) sc__law_bent.nd rfl (Or.inl rfl) (se_ix (roomU hr) (sx_lst (sa_cons se_str (sa_cons se_str sa_nil)) (lenA_cons (lenA_cons lenA_nil))) (sx_df (D__law_take.mono (by decide)) hr hg rfl F.g__law_take tk (sa_cons (se_var 0) (sa_cons se_int sa_nil)) (lenA_cons (lenA_cons lenA_nil))))) (sss_cons (ss_set (i := 7) sc__law_bent.nd rfl (Or.inl rfl) (se_al (sx_bm PySem.F.plainAttrs_str PySem.F.slot_str_split PySem.F.type_str_split mt_split am_split (sx_of (se_var 1)) (sb_cons (sx_of (se_var 6)) sb_nil)))) (sss_cons (ss_set (i := 8) sc__law_bent.nd rfl (Or.inl rfl) (se_al (sx_df (D__law_take.mono (by decide)) hr hg rfl F.g__law_take tk (sa_cons (se_var 0) (sa_cons (se_cb cr_len ac_len rfl F.n_len b_len (sb_cons (sx_of (se_var 7)) sb_nil)) sa_nil)) (lenA_cons (lenA_cons lenA_nil))))) (sss_cons (ss_set (i := 9) sc__law_bent.nd rfl (Or.inl rfl) (se_al (sx_lst (sa_cons se_str (sa_cons se_str (sa_cons se_str (sa_cons se_str (sa_cons se_str (sa_cons se_str (sa_cons se_str (sa_cons se_str (sa_cons (se_al (sx_op op_mulA ad_mulA (sx_of se_str) (sx_of se_int))) (sa_cons se_str (sa_cons se_str (sa_cons se_str (sa_cons se_str sa_nil))))))))))))) (lenA_cons (lenA_cons (lenA_cons (lenA_cons (lenA_cons (lenA_cons (lenA_cons (lenA_cons (lenA_cons (lenA_cons (lenA_cons (lenA_cons (lenA_cons lenA_nil)))))))))))))))) (sss_cons (ss_set (i := 10) sc__law_bent.nd rfl (Or.inl rfl) (se_ix (roomU hr) (sx_op op_addA ad_addA (sx_of (se_var 9)) (sx_lst (sa_cons se_str (sa_cons se_str (sa_cons se_str (sa_cons se_str (sa_cons se_str (sa_cons se_str sa_nil)))))) (lenA_cons (lenA_cons (lenA_cons (lenA_cons (lenA_cons (lenA_cons lenA_nil)))))))) (sx_df (D__law_take.mono (by decide)) hr hg rfl F.g__law_take tk (sa_cons (se_var 0) (sa_cons se_int sa_nil)) (lenA_cons (lenA_cons lenA_nil))))) (sss_cons (ss_if (st_cmp (op_eqA (roomE hr)) (AdP.ad ap_eq) (sx_of (se_var 3)) (sx_of se_int) (by rfl)) (sss_one (ss_ret (se_al (sx_op op_addA ad_addA (sx_op op_addA ad_addA (sx_sl (sx_of (se_var 1)) to_none (to_some (se_var 4))) (sx_of (se_var 5))) (sx_sl (sx_of (se_var 1)) (to_some (se_var 4)) to_none))))) sss_nil) (sss_cons (ss_if (st_cmp (op_eqA (roomE hr)) (AdP.ad ap_eq) (sx_of (se_var 3)) (sx_of se_int) (by rfl)) (sss_one (ss_ret (se_al (sx_op op_addA ad_addA (sx_sl (sx_of (se_var 1)) to_none (to_some (se_var 4))) (sx_sl (sx_of (se_var 1)) (to_some (se_op op_add ad_add (sx_of (se_var 4)) (sx_of se_int))) to_none))))) sss_nil) (sss_cons (ss_if (st_cmp (op_eqA (roomE hr)) (AdP.ad ap_eq) (sx_of (se_var 3)) (sx_of se_int) (by rfl)) (sss_one (ss_ret (se_al (sx_op op_addA ad_addA (sx_op op_addA ad_addA (sx_sl (sx_of (se_var 1)) to_none (to_some (se_var 4))) (sx_of (se_var 5))) (sx_sl (sx_of (se_var 1)) (to_some (se_op op_add ad_add (sx_of (se_var 4)) (sx_of se_int))) to_none))))) sss_nil) (sss_cons (ss_if (st_cmp (op_eqA (roomE hr)) (AdP.ad ap_eq) (sx_of (se_var 3)) (sx_of se_int) (by rfl)) (sss_one (ss_ret (se_al (sx_bm PySem.F.plainAttrs_str PySem.F.slot_str_join PySem.F.type_str_join mt_join am_join (sx_of (se_var 6)) (sb_cons (sx_op op_addA ad_addA (sx_sl (sx_of (se_var 7)) to_none (to_some (se_var 8))) (sx_sl (sx_of (se_var 7)) (to_some (se_op op_add ad_add (sx_of (se_var 8)) (sx_of se_int))) to_none)) sb_nil))))) sss_nil) (sss_cons (ss_if (st_cmp (op_eqA (roomE hr)) (AdP.ad ap_eq) (sx_of (se_var 3)) (sx_of se_int) (by rfl)) (sss_one (ss_ret (se_al (sx_bm PySem.F.plainAttrs_str PySem.F.slot_str_join PySem.F.type_str_join mt_join am_join (sx_of (se_var 6)) (sb_cons (sx_op op_addA ad_addA (sx_sl (sx_of (se_var 7)) to_none (to_some (se_op op_add ad_add (sx_of (se_var 8)) (sx_of se_int)))) (sx_sl (sx_of (se_var 7)) (to_some (se_var 8)) to_none)) sb_nil))))) sss_nil) (sss_cons (ss_if (st_cmp op_ltA (AdP.ad ap_ltA) (sx_of (se_var 3)) (sx_of se_int) (by rfl)) (sss_one (ss_ret (se_al (sx_bm PySem.F.plainAttrs_str PySem.F.slot_str_join PySem.F.type_str_join mt_join am_join (sx_of (se_var 6)) (sb_cons (sx_op op_addA ad_addA (sx_op op_addA ad_addA (sx_sl (sx_of (se_var 7)) to_none (to_some (se_var 8))) (sx_lst (sa_cons (se_var 10) sa_nil) (lenA_cons lenA_nil))) (sx_sl (sx_of (se_var 7)) (to_some (se_op op_sub ad_sub (sx_op op_addA ad_addA (sx_of (se_var 8)) (sx_of (se_var 3))) (sx_of se_int))) to_none)) sb_nil))))) sss_nil) (sss_cons (ss_if (st_cmp (op_eqA (roomE hr)) (AdP.ad ap_eq) (sx_of (se_var 3)) (sx_of se_int) (by rfl)) (sss_cons (ss_set (i := 11) sc__law_bent.nd rfl (Or.inl rfl) (se_al (sx_sl (sx_of (se_var 7)) (to_some (se_var 8)) (to_some (se_op op_add ad_add (sx_of (se_var 8)) (sx_of se_int)))))) (sss_one (ss_ret (se_al (sx_bm PySem.F.plainAttrs_str PySem.F.slot_str_join PySem.F.type_str_join mt_join am_join (sx_of (se_var 6)) (sb_cons (sx_op op_addA ad_addA (sx_op op_addA ad_addA (sx_sl (sx_of (se_var 7)) to_none (to_some (se_var 8))) (sx_rev (sx_of (se_var 11)))) (sx_sl (sx_of (se_var 7)) (to_some (se_op op_add ad_add (sx_of (se_var 8)) (sx_of se_int))) to_none)) sb_nil)))))) sss_nil) (sss_one (ss_ret (se_al (sx_sl (sx_of (se_var 1)) (to_some (se_var 4)) to_none))))))))))))))))))))
theorem A__law_bent {P : Program} {w : World} {K : PySem.W.Frag} {mg : Str → Option Value} {base : Heap} (F : Fx K mg) : Df P w K mg base 2 "_law_bent" 2 [] f__law_bent := by
  obtain ⟨fd, fn⟩ := F.d__law_bent
  have FG := G__law_bent (P := P) (w := w) (base := base) F fn (A__law_take F)
  exact ⟨fd, _, [], [], FG, fn.kp, fn.bindsN (fun _ _ _ _ _ _ us hl => match us, hl with | [_, _], _ => rfl), .nil, dvs_nil, rfl⟩
theorem sc__law_deeds : FnScope N__law_deeds ["state", "names"] (defScope (top 34)) := ⟨rfl, rfl, rfl, by decide +kernel, rfl, by decide +kernel, by decide +kernel⟩
theorem G__law_deeds {P : Program} {w : World} {K : PySem.W.Frag} {mg : Str → Option Value} {base : Heap} (F : Fx K mg) {fd : FuncData} (fn : FunD K "_law_deeds" "_law_deeds" (defArgs (top 34)) (defBody (top 34)) (defScope (top 34)) [] [] (He.ga K "_law_deeds") fd) (D__law_take : Df P w K mg base 1 "_law_take" 2 [] La.f__law_take) : FnG P w K mg base 2 (He.ga K "_law_deeds") fd ["state", "names"] f__law_deeds := by
  refine (fng_of fn sc__law_deeds (h := s__law_deeds) fun cdv A outer s H E hr hg => ?_).wrap
  have tk : Takes (cxOf (L2.CX P w) P w K mg base N__law_deeds "_law_deeds" (defScope (top 34)) (He.ga K "_law_deeds") cdv A outer s H E) (fun c d _ H1 => E c d H1) := takes_of rfl rfl rfl rfl
  have hp : PassesOwn (model P w) (A.deeper (envOfC "_law_deeds" (defScope (top 34)) s.heap.objs.size (He.ga K "_law_deeds") cdv)) (envOfC "_law_deeds" (defScope (top 34)) s.heap.objs.size (He.ga K "_law_deeds") cdv) (cxOf (L2.CX P w) P w K mg base N__law_deeds "_law_deeds" (defScope (top 34)) (He.ga K "_law_deeds") cdv A outer s H E).xe := passes_of rfl
  exact (sss_cons (ss_set (i := 2) sc__law_deeds.nd rfl (Or.inl rfl) (se_al (sx_lst sa_nil lenA_nil))) (sss_cons (ss_wp (ss_for hp rfl (si_rng1 rfl F.n_range (sa_cons (se_al (sx_df (D__law_take.mono (by decide)) hr hg rfl F.g__law_take tk (sa_cons (se_var 0) (sa_cons se_int sa_nil)) (lenA_cons (lenA_cons lenA_nil)))) sa_nil)) (sg_name sc__law_deeds.nd rfl (Or.inl rfl)) (sss_gc (b := b__law_deeds_1) (sss_cons (ss_par (i := 4) (j := 5) rfl sc__law_deeds.nd rfl rfl (by decide) rfl rfl (sa_cons (se_ix (roomU hr) (sx_of (se_var 1)) (sx_df (D__law_take.mono (by decide)) hr hg rfl F.g__law_take tk (sa_cons (se_var 0) (sa_cons (se_cb cr_len ac_len rfl F.n_len b_len (sb_cons (sx_of (se_var 1)) sb_nil)) sa_nil)) (lenA_cons (lenA_cons lenA_nil)))) (sa_cons (se_ix (roomU hr) (sx_op op_addA ad_addA (sx_lst (sa_cons se_str sa_nil) (lenA_cons lenA_nil)) (sx_of (se_var 1))) (sx_df (D__law_take.mono (by decide)) hr hg rfl F.g__law_take tk (sa_cons (se_var 0) (sa_cons (se_op op_add ad_add (sx_of (se_cb cr_len ac_len rfl F.n_len b_len (sb_cons (sx_of (se_var 1)) sb_nil))) (sx_of se_int)) sa_nil)) (lenA_cons (lenA_cons lenA_nil)))) sa_nil)) (by rfl)) (sss_cons (ss_set (i := 6) sc__law_deeds.nd rfl (Or.inl rfl) (se_ix (roomU hr) (sx_lst (sa_cons se_non (sa_cons (se_op op_add ad_add (sx_of se_int) (sx_df (D__law_take.mono (by decide)) hr hg rfl F.g__law_take tk (sa_cons (se_var 0) (sa_cons (se_op op_pow ad_pow (sx_of se_int) (sx_of se_int)) sa_nil)) (lenA_cons (lenA_cons lenA_nil)))) (sa_cons (se_op op_pow ad_pow (sx_of se_int) (sx_of se_int)) sa_nil))) (lenA_cons (lenA_cons (lenA_cons lenA_nil)))) (sx_df (D__law_take.mono (by decide)) hr hg rfl F.g__law_take tk (sa_cons (se_var 0) (sa_cons se_int sa_nil)) (lenA_cons (lenA_cons lenA_nil))))) (sss_cons (ss_set (i := 7) sc__law_deeds.nd rfl (Or.inl rfl) (se_ix (roomU hr) (sx_lst (sa_cons se_str (sa_cons se_str (sa_cons se_str sa_nil))) (lenA_cons (lenA_cons (lenA_cons lenA_nil)))) (sx_df (D__law_take.mono (by decide)) hr hg rfl F.g__law_take tk (sa_cons (se_var 0) (sa_cons se_int sa_nil)) (lenA_cons (lenA_cons lenA_nil))))) (sss_one (ss_expr (sx_bm PySem.F.plainAttrs_list PySem.F.slot_list_append PySem.F.type_list_append mt_append am_app (sx_of (se_var 2)) (sb_of (sa_cons (se_ix (roomU hr) (sx_lst (sa_cons (se_tup (sa_cons (se_var 7) (sa_cons (se_var 4) (sa_cons (se_var 6) sa_nil))) (lenA_cons (lenA_cons (lenA_cons lenA_nil)))) (sa_cons (se_tup (sa_cons se_str (sa_cons (se_var 4) (sa_cons (se_var 5) (sa_cons (se_var 6) sa_nil)))) (lenA_cons (lenA_cons (lenA_cons (lenA_cons lenA_nil))))) sa_nil)) (lenA_cons (lenA_cons lenA_nil))) (sx_of (se_ct cr_int ac_int rfl F.n_int b_int (sb_cons (sx_of (se_cmp (op_eqA (roomE hr)) (AdP.ad ap_eq) (sx_of (se_var 7)) (sx_of se_str) (by rfl))) sb_nil)))) sa_nil))))))))))) (sss_one (ss_ret (se_ct call_tuple_of ac_tup rfl F.n_tuple b_tuple (sb_cons (sx_of (se_var 2)) sb_nil))))))
theorem A__law_deeds {P : Program} {w : World} {K : PySem.W.Frag} {mg : Str → Option Value} {base : Heap} (F : Fx K mg) : Df P w K mg base 2 "_law_deeds" 2 [] f__law_deeds := by
  obtain ⟨fd, fn⟩ := F.d__law_deeds
  have FG := G__law_deeds (P := P) (w := w) (base := base) F fn (A__law_take F)
  exact ⟨fd, _, [], [], FG, fn.kp, fn.bindsN (fun _ _ _ _ _ _ us hl => match us, hl with | [_, _], _ => rfl), .nil, dvs_nil, rfl⟩
theorem sc__law_word_of : FnScope N__law_word_of ["thing"] (defScope (top 35)) := ⟨rfl, rfl, rfl, by decide +kernel, rfl, by decide +kernel, by decide +kernel⟩
theorem G__law_word_of {P : Program} {w : World} {K : PySem.W.Frag} {mg : Str → Option Value} {base : Heap} (F : Fx K mg) {fd : FuncData} (fn : FunD K "_law_word_of" "_law_word_of" (defArgs (top 35)) (defBody (top 35)) (defScope (top 35)) [] [] (He.ga K "_law_word_of") fd)  : FnG P w K mg base 1 (He.ga K "_law_word_of") fd ["thing"] f__law_word_of := by
  refine (fng_of fn sc__law_word_of (h := s__law_word_of) fun cdv A outer s H E hr hg => ?_).wrap
  have tk : Takes (cxOf (L2.CX P w) P w K mg base N__law_word_of "_law_word_of" (defScope (top 35)) (He.ga K "_law_word_of") cdv A outer s H E) (fun c d _ H1 => E c d H1) := takes_of rfl rfl rfl rfl
  have hp : PassesOwn (model P w) (A.deeper (envOfC "_law_word_of" (defScope (top 35)) s.heap.objs.size (He.ga K "_law_word_of") cdv)) (envOfC "_law_word_of" (defScope (top 35)) s.heap.objs.size (He.ga K "_law_word_of") cdv) (cxOf (L2.CX P w) P w K mg base N__law_word_of "_law_word_of" (defScope (top 35)) (He.ga K "_law_word_of") cdv A outer s H E).xe := passes_of rfl
  exact (sss_cons (ss_if (st_cmp op_isN (AdP.ad ap_isN) (sx_of (se_var 0)) (sx_of se_non) (by rfl)) (sss_one (ss_ret se_str)) sss_nil) (sss_cons (ss_if (st_cmp (op_eqA (roomE hr)) (AdP.ad ap_eq) (sx_of (se_var 0)) (sx_of se_str) (by rfl)) (sss_one (ss_ret se_str)) sss_nil) (sss_one (ss_ret (se_ct cr_strA ac_strA rfl F.n_str b_str (sb_cons (sx_of (se_var 0)) sb_nil))))))
theorem A__law_word_of {P : Program} {w : World} {K : PySem.W.Frag} {mg : Str → Option Value} {base : Heap} (F : Fx K mg) : Df P w K mg base 1 "_law_word_of" 1 [] f__law_word_of := by
  obtain ⟨fd, fn⟩ := F.d__law_word_of
  have FG := G__law_word_of (P := P) (w := w) (base := base) F fn 
  exact ⟨fd, _, [], [], FG, fn.kp, fn.bindsN (fun _ _ _ _ _ _ us hl => match us, hl with | [_], _ => rfl), .nil, dvs_nil, rfl⟩
theorem sc__law_rows_text : FnScope N__law_rows_text ["rows"] (defScope (top 36)) := ⟨rfl, rfl, rfl, by decide +kernel, rfl, by decide +kernel, by decide +kernel⟩
theorem G__law_rows_text {P : Program} {w : World} {K : PySem.W.Frag} {mg : Str → Option Value} {base : Heap} (F : Fx K mg) {fd : FuncData} (fn : FunD K "_law_rows_text" "_law_rows_text" (defArgs (top 36)) (defBody (top 36)) (defScope (top 36)) [] [] (He.ga K "_law_rows_text") fd) (D__law_word_of : Df P w K mg base 1 "_law_word_of" 1 [] f__law_word_of) : FnG P w K mg base 2 (He.ga K "_law_rows_text") fd ["rows"] f__law_rows_text := by
  refine (fng_of fn sc__law_rows_text (h := s__law_rows_text) fun cdv A outer s H E hr hg => ?_).wrap
  have tk : Takes (cxOf (L2.CX P w) P w K mg base N__law_rows_text "_law_rows_text" (defScope (top 36)) (He.ga K "_law_rows_text") cdv A outer s H E) (fun c d _ H1 => E c d H1) := takes_of rfl rfl rfl rfl
  have hp : PassesOwn (model P w) (A.deeper (envOfC "_law_rows_text" (defScope (top 36)) s.heap.objs.size (He.ga K "_law_rows_text") cdv)) (envOfC "_law_rows_text" (defScope (top 36)) s.heap.objs.size (He.ga K "_law_rows_text") cdv) (cxOf (L2.CX P w) P w K mg base N__law_rows_text "_law_rows_text" (defScope (top 36)) (He.ga K "_law_rows_text") cdv A outer s H E).xe := passes_of rfl
  exact (sss_one (ss_ret (se_al (sx_bm PySem.F.plainAttrs_str PySem.F.slot_str_join PySem.F.type_str_join mt_join am_join (sx_of se_str) (sb_cons (sx_lc (own := [("row", 1)]) rfl sc__law_rows_text.nd (si_seq (sx_of (se_var 0))) (blkOk_by (by rfl)) (fun _ _ _ _ _ => (sg_name sc__law_rows_text.nd rfl (Or.inl rfl))) (fun _ _ _ _ _ => sts_nil) (fun _ _ _ _ _ => (se_al (sx_op op_addA ad_addA (sx_bm PySem.F.plainAttrs_str PySem.F.slot_str_join PySem.F.type_str_join mt_join am_join (sx_of se_str) (sb_cons (sx_lc (own := [("thing", 2)]) rfl sc__law_rows_text.nd (si_seq (sx_of (se_var 1))) (blkOk_by (by rfl)) (fun _ _ _ _ _ => (sg_name sc__law_rows_text.nd rfl (Or.inl rfl))) (fun _ _ _ _ _ => sts_nil) (fun _ _ _ _ _ => (se_al (sx_df (D__law_word_of.mono (by decide)) hr hg rfl F.g__law_word_of takes_none5 (sa_cons (se_var 2) sa_nil) (lenA_cons lenA_nil))))) sb_nil)) (sx_of se_str))))) sb_nil)))))
theorem A__law_rows_text {P : Program} {w : World} {K : PySem.W.Frag} {mg : Str → Option Value} {base : Heap} (F : Fx K mg) : Df P w K mg base 2 "_law_rows_text" 1 [] f__law_rows_text := by
  obtain ⟨fd, fn⟩ := F.d__law_rows_text
  have FG := G__law_rows_text (P := P) (w := w) (base := base) F fn (A__law_word_of F)
  exact ⟨fd, _, [], [], FG, fn.kp, fn.bindsN (fun _ _ _ _ _ _ us hl => match us, hl with | [_], _ => rfl), .nil, dvs_nil, rfl⟩
theorem sc__law_clash : FnScope N__law_clash ["state", "names"] (defScope (top 37)) := ⟨rfl, rfl, rfl, by decide +kernel, rfl, by decide +kernel, by decide +kernel⟩
theorem G__law_clash {P : Program} {w : World} {K : PySem.W.Frag} {mg : Str → Option Value} {base : Heap} (F : Fx K mg) {fd : FuncData} (fn : FunD K "_law_clash" "_law_clash" (defArgs (top 37)) (defBody (top 37)) (defScope (top 37)) [] [] (He.ga K "_law_clash") fd) (D__law_take : Df P w K mg base 1 "_law_take" 2 [] La.f__law_take) : FnG P w K mg base 2 (He.ga K "_law_clash") fd ["state", "names"] f__law_clash := by
  refine (fng_of fn sc__law_clash (h := s__law_clash) fun cdv A outer s H E hr hg => ?_).wrap
  have tk : Takes (cxOf (L2.CX P w) P w K mg base N__law_clash "_law_clash" (defScope (top 37)) (He.ga K "_law_clash") cdv A outer s H E) (fun c d _ H1 => E c d H1) := takes_of rfl rfl rfl rfl
  have hp : PassesOwn (model P w) (A.deeper (envOfC "_law_clash" (defScope (top 37)) s.heap.objs.size (He.ga K "_law_clash") cdv)) (envOfC "_law_clash" (defScope (top 37)) s.heap.objs.size (He.ga K "_law_clash") cdv) (cxOf (L2.CX P w) P w K mg base N__law_clash "_law_clash" (defScope (top 37)) (He.ga K "_law_clash") cdv A outer s H E).xe := passes_of rfl
  exact (sss_cons (ss_set (i := 2) sc__law_clash.nd rfl (Or.inl rfl) (se_ct call_tuple_of ac_tup rfl F.n_tuple b_tuple (sb_cons (sx_lc (own := [("k", 3)]) rfl sc__law_clash.nd (si_rng1 rfl F.n_range (sa_cons (se_op op_add ad_add (sx_of se_int) (sx_df (D__law_take.mono (by decide)) hr hg rfl F.g__law_take tk (sa_cons (se_var 0) (sa_cons se_int sa_nil)) (lenA_cons (lenA_cons lenA_nil)))) sa_nil)) (blkOk_by (by rfl)) (fun _ _ _ _ _ => (sg_name sc__law_clash.nd rfl (Or.inl rfl))) (fun _ _ _ _ _ => sts_nil) (fun _ _ _ _ _ => (se_ix (roomU hr) (sx_of (se_var 1)) (sx_df (D__law_take.mono (by decide)) hr hg rfl F.g__law_take takes_none5 (sa_cons (se_var 0) (sa_cons (se_cb cr_len ac_len rfl F.n_len b_len (sb_cons (sx_of (se_var 1)) sb_nil)) sa_nil)) (lenA_cons (lenA_cons lenA_nil)))))) sb_nil))) (sss_one (ss_ret (se_ix (roomU hr) (sx_lst (sa_cons (se_tup (sa_cons se_str (sa_cons (se_ix (roomU hr) (sx_of (se_var 2)) (sx_of se_int)) sa_nil)) (lenA_cons (lenA_cons lenA_nil))) (sa_cons (se_tup (sa_cons se_str (sa_cons (se_var 2) sa_nil)) (lenA_cons (lenA_cons lenA_nil))) (sa_cons (se_tup (sa_cons se_str (sa_cons (se_var 2) sa_nil)) (lenA_cons (lenA_cons lenA_nil))) sa_nil))) (lenA_cons (lenA_cons (lenA_cons lenA_nil)))) (sx_df (D__law_take.mono (by decide)) hr hg rfl F.g__law_take tk (sa_cons (se_var 0) (sa_cons se_int sa_nil)) (lenA_cons (lenA_cons lenA_nil)))))))
theorem A__law_clash {P : Program} {w : World} {K : PySem.W.Frag} {mg : Str → Option Value} {base : Heap} (F : Fx K mg) : Df P w K mg base 2 "_law_clash" 2 [] f__law_clash := by
  obtain ⟨fd, fn⟩ := F.d__law_clash
  have FG := G__law_clash (P := P) (w := w) (base := base) F fn (A__law_take F)
  exact ⟨fd, _, [], [], FG, fn.kp, fn.bindsN (fun _ _ _ _ _ _ us hl => match us, hl with | [_, _], _ => rfl), .nil, dvs_nil, rfl⟩
theorem sc__law_clash_text : FnScope N__law_clash_text ["clash"] (defScope (top 38)) := ⟨rfl, rfl, rfl, by decide +kernel, rfl, by decide +kernel, by decide +kernel⟩
theorem G__law_clash_text {P : Program} {w : World} {K : PySem.W.Frag} {mg : Str → Option Value} {base : Heap} (F : Fx K mg) {fd : FuncData} (fn : FunD K "_law_clash_text" "_law_clash_text" (defArgs (top 38)) (defBody (top 38)) (defScope (top 38)) [] [] (He.ga K "_law_clash_text") fd)  : FnG P w K mg base 1 (He.ga K "_law_clash_text") fd ["clash"] f__law_clash_text := by
  refine (fng_of fn sc__law_clash_text (h := s__law_clash_text) fun cdv A outer s H E hr hg => ?_).wrap
  have tk : Takes (cxOf (L2.CX P w) P w K mg base N__law_clash_text "_law_clash_text" (defScope (top 38)) (He.ga K "_law_clash_text") cdv A outer s H E) (fun c d _ H1 => E c d H1) := takes_of rfl rfl rfl rfl
  have hp : PassesOwn (model P w) (A.deeper (envOfC "_law_clash_text" (defScope (top 38)) s.heap.objs.size (He.ga K "_law_clash_text") cdv)) (envOfC "_law_clash_text" (defScope (top 38)) s.heap.objs.size (He.ga K "_law_clash_text") cdv) (cxOf (L2.CX P w) P w K mg base N__law_clash_text "_law_clash_text" (defScope (top 38)) (He.ga K "_law_clash_text") cdv A outer s H E).xe := passes_of rfl
  exact (sss_cons (ss_if (st_cmp (op_eqA (roomE hr)) (AdP.ad ap_eq) (sx_of (se_ix (roomU hr) (sx_of (se_var 0)) (sx_of se_int))) (sx_of se_str) (by rfl)) (sss_one (ss_ret (se_al (sx_op op_addA ad_addA (sx_of se_str) (sx_of (se_ix (roomU hr) (sx_of (se_var 0)) (sx_of se_int))))))) sss_nil) (sss_one (ss_ret (se_al (sx_bm PySem.F.plainAttrs_str PySem.F.slot_str_join PySem.F.type_str_join mt_join am_join (sx_of se_str) (sb_cons (sx_op op_addA ad_addA (sx_of (se_tup (sa_cons (se_ix (roomU hr) (sx_of (se_var 0)) (sx_of se_int)) sa_nil) (lenA_cons lenA_nil))) (sx_of (se_ix (roomU hr) (sx_of (se_var 0)) (sx_of se_int)))) sb_nil))))))
theorem A__law_clash_text {P : Program} {w : World} {K : PySem.W.Frag} {mg : Str → Option Value} {base : Heap} (F : Fx K mg) : Df P w K mg base 1 "_law_clash_text" 1 [] f__law_clash_text := by
  obtain ⟨fd, fn⟩ := F.d__law_clash_text
  have FG := G__law_clash_text (P := P) (w := w) (base := base) F fn 
  exact ⟨fd, _, [], [], FG, fn.kp, fn.bindsN (fun _ _ _ _ _ _ us hl => match us, hl with | [_], _ => rfl), .nil, dvs_nil, rfl⟩
theorem sc__law_deed : FnScope N__law_deed ["words"] (defScope (top 39)) := ⟨rfl, rfl, rfl, by decide +kernel, rfl, by decide +kernel, by decide +kernel⟩
theorem G__law_deed {P : Program} {w : World} {K : PySem.W.Frag} {mg : Str → Option Value} {base : Heap} (F : Fx K mg) {fd : FuncData} (fn : FunD K "_law_deed" "_law_deed" (defArgs (top 39)) (defBody (top 39)) (defScope (top 39)) [] [] (He.ga K "_law_deed") fd) (D__law_number : Df P w K mg base 1 "_law_number" 1 [] f__law_number) (D__law_is_word : Df P w K mg base 1 "_law_is_word" 1 [] f__law_is_word) (D__law_seen : Df P w K mg base 2 "_law_seen" 1 [] f__law_seen) : FnG P w K mg base 3 (He.ga K "_law_deed") fd ["words"] f__law_deed := by
  refine (fng_of fn sc__law_deed (h := s__law_deed) fun cdv A outer s H E hr hg => ?_).wrap
  have tk : Takes (cxOf (L2.CX P w) P w K mg base N__law_deed "_law_deed" (defScope (top 39)) (He.ga K "_law_deed") cdv A outer s H E) (fun c d _ H1 => E c d H1) := takes_of rfl rfl rfl rfl
  have hp : PassesOwn (model P w) (A.deeper (envOfC "_law_deed" (defScope (top 39)) s.heap.objs.size (He.ga K "_law_deed") cdv)) (envOfC "_law_deed" (defScope (top 39)) s.heap.objs.size (He.ga K "_law_deed") cdv) (cxOf (L2.CX P w) P w K mg base N__law_deed "_law_deed" (defScope (top 39)) (He.ga K "_law_deed") cdv A outer s H E).xe := passes_of rfl
  exact (sss_cons (ss_if (st_w (sw_or (st_cmp (op_ni (roomU hr)) (AdP.ad ap_ni) (sx_of (se_ix (roomU hr) (sx_of (se_var 0)) (sx_of se_int))) (sx_lst (sa_cons se_str (sa_cons se_str (sa_cons se_str sa_nil))) (lenA_cons (lenA_cons (lenA_cons lenA_nil)))) (by rfl)) (sw_or1 (st_cmp (op_neA (roomE hr)) (AdP.ad ap_ne) (sx_of (se_cb cr_len ac_len rfl F.n_len b_len (sb_cons (sx_of (se_var 0)) sb_nil))) (sx_of (se_op op_add ad_add (sx_of se_int) (sx_of (se_ct cr_int ac_int rfl F.n_int b_int (sb_cons (sx_of (se_cmp (op_eqA (roomE hr)) (AdP.ad ap_eq) (sx_of (se_ix (roomU hr) (sx_of (se_var 0)) (sx_of se_int))) (sx_of se_str) (by rfl))) sb_nil))))) (by rfl))))) (sss_one (ss_ret se_non)) sss_nil) (sss_cons (ss_set (i := 1) sc__law_deed.nd rfl (Or.inl rfl) (se_al (sx_df (D__law_number.mono (by decide)) hr hg rfl F.g__law_number tk (sa_cons (se_ix (roomU hr) (sx_of (se_var 0)) (sx_of (se_un un_neg ad_neg (sx_of se_int)))) sa_nil) (lenA_cons lenA_nil)))) (sss_cons (ss_if (st_cmp (op_eqA (roomE hr)) (AdP.ad ap_eq) (sx_of (se_ix (roomU hr) (sx_of (se_var 0)) (sx_of (se_un un_neg ad_neg (sx_of se_int))))) (sx_of se_str) (by rfl)) (sss_one (ss_set (i := 1) sc__law_deed.nd rfl (Or.inl rfl) se_non)) sss_nil) (sss_cons (ss_if (st_w (sw_or (st_cmp (op_eqA (roomE hr)) (AdP.ad ap_eq) (sx_of (se_var 1)) (sx_of (se_un un_neg ad_neg (sx_of se_int))) (by rfl)) (sw_or1 (st_not (st_val (se_al (sx_df (D__law_is_word.mono (by decide)) hr hg rfl F.g__law_is_word tk (sa_cons (se_ix (roomU hr) (sx_of (se_var 0)) (sx_of se_int)) sa_nil) (lenA_cons lenA_nil)))))))) (sss_one (ss_ret se_non)) sss_nil) (sss_cons (ss_if (st_cmp (op_neA (roomE hr)) (AdP.ad ap_ne) (sx_of (se_ix (roomU hr) (sx_of (se_var 0)) (sx_of se_int))) (sx_of se_str) (by rfl)) (sss_one (ss_ret (se_tup (sa_cons (se_ix (roomU hr) (sx_of (se_var 0)) (sx_of se_int)) (sa_cons (se_ix (roomU hr) (sx_of (se_var 0)) (sx_of se_int)) (sa_cons (se_var 1) sa_nil))) (lenA_cons (lenA_cons (lenA_cons lenA_nil)))))) sss_nil) (sss_one (ss_ret (se_ix (roomU hr) (sx_lst (sa_cons (se_tup (sa_cons se_str (sa_cons (se_ix (roomU hr) (sx_of (se_var 0)) (sx_of se_int)) (sa_cons (se_al (sx_df (D__law_seen.mono (by decide)) hr hg rfl F.g__law_seen tk (sa_cons (se_ix (roomU hr) (sx_of (se_var 0)) (sx_of se_int)) sa_nil) (lenA_cons lenA_nil))) (sa_cons (se_var 1) sa_nil)))) (lenA_cons (lenA_cons (lenA_cons (lenA_cons lenA_nil))))) (sa_cons se_non sa_nil)) (lenA_cons (lenA_cons lenA_nil))) (sx_of (se_ct cr_int ac_int rfl F.n_int b_int (sb_cons (sx_of (se_cmp op_isN (AdP.ad ap_isN) (sx_df (D__law_seen.mono (by decide)) hr hg rfl F.g__law_seen tk (sa_cons (se_ix (roomU hr) (sx_of (se_var 0)) (sx_of se_int)) sa_nil) (lenA_cons lenA_nil)) (sx_of se_non) (by rfl))) sb_nil)))))))))))
theorem A__law_deed {P : Program} {w : World} {K : PySem.W.Frag} {mg : Str → Option Value} {base : Heap} (F : Fx K mg) : Df P w K mg base 3 "_law_deed" 1 [] f__law_deed := by
  obtain ⟨fd, fn⟩ := F.d__law_deed
  have FG := G__law_deed (P := P) (w := w) (base := base) F fn (A__law_number F) (A__law_is_word F) (A__law_seen F)
  exact ⟨fd, _, [], [], FG, fn.kp, fn.bindsN (fun _ _ _ _ _ _ us hl => match us, hl with | [_], _ => rfl), .nil, dvs_nil, rfl⟩
theorem sc__law_due_history : FnScope N__law_due_history ["text"] (defScope (top 40)) := ⟨rfl, rfl, rfl, by decide +kernel, rfl, by decide +kernel, by decide +kernel⟩
theorem G__law_due_history {P : Program} {w : World} {K : PySem.W.Frag} {mg : Str → Option Value} {base : Heap} (F : Fx K mg) {fd : FuncData} (fn : FunD K "_law_due_history" "_law_due_history" (defArgs (top 40)) (defBody (top 40)) (defScope (top 40)) [] [] (He.ga K "_law_due_history") fd) (D__law_deed : Df P w K mg base 3 "_law_deed" 1 [] f__law_deed) : FnG P w K mg base 4 (He.ga K "_law_due_history") fd ["text"] f__law_due_history := by
  refine (fng_of fn sc__law_due_history (h := s__law_due_history) fun cdv A outer s H E hr hg => ?_).wrap
  have tk : Takes (cxOf (L2.CX P w) P w K mg base N__law_due_history "_law_due_history" (defScope (top 40)) (He.ga K "_law_due_history") cdv A outer s H E) (fun c d _ H1 => E c d H1) := takes_of rfl rfl rfl rfl
  have hp : PassesOwn (model P w) (A.deeper (envOfC "_law_due_history" (defScope (top 40)) s.heap.objs.size (He.ga K "_law_due_history") cdv)) (envOfC "_law_due_history" (defScope (top 40)) s.heap.objs.size (He.ga K "_law_due_history") cdv) (cxOf (L2.CX P w) P w K mg base N__law_due_history "_law_due_history" (defScope (top 40)) (He.ga K "_law_due_history") cdv A outer s H E).xe := passes_of rfl
  exact (sss_cons (ss_set (i := 1) sc__law_due_history.nd rfl (Or.inl rfl) (se_al (sx_lst sa_nil lenA_nil))) (sss_cons (ss_set (i := 2) sc__law_due_history.nd rfl (Or.inl rfl) (se_al (sx_bm PySem.F.plainAttrs_str PySem.F.slot_str_split PySem.F.type_str_split mt_split am_split (sx_of (se_var 0)) (sb_cons (sx_of se_str) sb_nil)))) (sss_cons (ss_wp (ss_for hp rfl (si_enm rfl F.n_enumerate (sb_cons (sx_of (se_var 2)) sb_nil)) (sg_tup rfl (sgs_cons (sg_name sc__law_due_history.nd rfl (Or.inl rfl)) (sgs_cons (sg_name sc__law_due_history.nd rfl (Or.inl rfl)) sgs_nil))) (sss_gc (b := b__law_due_history_1) (sss_cons (ss_if (st_w (sw_and (st_cmp (op_eqA (roomE hr)) (AdP.ad ap_eq) (sx_of (se_op op_add ad_add (sx_of (se_var 3)) (sx_of se_int))) (sx_of (se_cb cr_len ac_len rfl F.n_len b_len (sb_cons (sx_of (se_var 2)) sb_nil))) (by rfl)) (sw_and1 (st_cmp (op_eqA (roomE hr)) (AdP.ad ap_eq) (sx_of (se_var 4)) (sx_of se_str) (by rfl))))) (sss_one (ss_ret (se_al (sx_lst (sa_cons se_str (sa_cons (se_ct call_tuple_of ac_tup rfl F.n_tuple b_tuple (sb_cons (sx_of (se_var 1)) sb_nil)) sa_nil)) (lenA_cons (lenA_cons lenA_nil)))))) sss_nil) (sss_cons (ss_set (i := 5) sc__law_due_history.nd rfl (Or.inl rfl) (se_al (sx_df (D__law_deed.mono (by decide)) hr hg rfl F.g__law_deed tk (sa_cons (se_al (sx_bm PySem.F.plainAttrs_str PySem.F.slot_str_split PySem.F.type_str_split mt_split am_split (sx_of (se_var 4)) (sb_cons (sx_of se_str) sb_nil))) sa_nil) (lenA_cons lenA_nil)))) (sss_cons (ss_if (st_w (sw_or (st_cmp op_isN (AdP.ad ap_isN) (sx_of (se_var 5)) (sx_of se_non) (by rfl)) (sw_or1 (st_cmp (op_eqA (roomE hr)) (AdP.ad ap_eq) (sx_of (se_op op_add ad_add (sx_of (se_var 3)) (sx_of se_int))) (sx_of (se_cb cr_len ac_len rfl F.n_len b_len (sb_cons (sx_of (se_var 2)) sb_nil))) (by rfl))))) (sss_one (ss_ret (se_al (sx_lst (sa_cons se_str (sa_cons (se_var 3) sa_nil)) (lenA_cons (lenA_cons lenA_nil)))))) sss_nil) (sss_one (ss_expr (sx_bm PySem.F.plainAttrs_list PySem.F.slot_list_append PySem.F.type_list_append mt_append am_app (sx_of (se_var 1)) (sb_of (sa_cons (se_var 5) sa_nil))))))))))) (sss_one (ss_ret (se_al (sx_lst (sa_cons se_str sa_nil) (lenA_cons lenA_nil))))))))
theorem A__law_due_history {P : Program} {w : World} {K : PySem.W.Frag} {mg : Str → Option Value} {base : Heap} (F : Fx K mg) : Df P w K mg base 4 "_law_due_history" 1 [] f__law_due_history := by
  obtain ⟨fd, fn⟩ := F.d__law_due_history
  have FG := G__law_due_history (P := P) (w := w) (base := base) F fn (A__law_deed F)
  exact ⟨fd, _, [], [], FG, fn.kp, fn.bindsN (fun _ _ _ _ _ _ us hl => match us, hl with | [_], _ => rfl), .nil, dvs_nil, rfl⟩
theorem sc__law_due_line : FnScope N__law_due_line ["text"] (defScope (top 41)) := ⟨rfl, rfl, rfl, by decide +kernel, rfl, by decide +kernel, by decide +kernel⟩
theorem G__law_due_line {P : Program} {w : World} {K : PySem.W.Frag} {mg : Str → Option Value} {base : Heap} (F : Fx K mg) {fd : FuncData} (fn : FunD K "_law_due_line" "_law_due_line" (defArgs (top 41)) (defBody (top 41)) (defScope (top 41)) [] [] (He.ga K "_law_due_line") fd) (D__law_is_word : Df P w K mg base 1 "_law_is_word" 1 [] f__law_is_word) : FnG P w K mg base 2 (He.ga K "_law_due_line") fd ["text"] f__law_due_line := by
  refine (fng_of fn sc__law_due_line (h := s__law_due_line) fun cdv A outer s H E hr hg => ?_).wrap
  have tk : Takes (cxOf (L2.CX P w) P w K mg base N__law_due_line "_law_due_line" (defScope (top 41)) (He.ga K "_law_due_line") cdv A outer s H E) (fun c d _ H1 => E c d H1) := takes_of rfl rfl rfl rfl
  have hp : PassesOwn (model P w) (A.deeper (envOfC "_law_due_line" (defScope (top 41)) s.heap.objs.size (He.ga K "_law_due_line") cdv)) (envOfC "_law_due_line" (defScope (top 41)) s.heap.objs.size (He.ga K "_law_due_line") cdv) (cxOf (L2.CX P w) P w K mg base N__law_due_line "_law_due_line" (defScope (top 41)) (He.ga K "_law_due_line") cdv A outer s H E).xe := passes_of rfl
  exact (sss_cons (ss_set (i := 1) sc__law_due_line.nd rfl (Or.inr rfl) (se_al (sx_op op_mulA ad_mulA (sx_bm PySem.F.plainAttrs_str PySem.F.slot_str_split PySem.F.type_str_split mt_split am_split (sx_of (se_var 0)) (sb_cons (sx_of se_str) sb_nil)) (sx_of (se_ct cr_int ac_int rfl F.n_int b_int (sb_cons (sx_of (se_cmp (op_neA (roomE hr)) (AdP.ad ap_ne) (sx_of (se_var 0)) (sx_of se_str) (by rfl))) sb_nil)))))) (sss_cons (ss_setLc (own := [("at", 3)]) rfl sc__law_due_line.nd rfl rfl (si_rng1 rfl F.n_range (sa_cons (se_cb cr_len ac_len rfl F.n_len b_len (sb_cons (sx_of (se_var 1)) sb_nil)) sa_nil)) (blkOk_by (by rfl)) (fun _ _ _ _ _ => (sg_name sc__law_due_line.nd rfl (Or.inl rfl))) (fun _ _ _ _ _ => (sts_one (st_not (st_val (se_al (sx_df (D__law_is_word.mono (by decide)) hr hg rfl F.g__law_is_word takes_none5 (sa_cons (se_ix (roomU hr) (sx_of (se_var 1)) (sx_of (se_var 3))) sa_nil) (lenA_cons lenA_nil))))))) (fun _ _ _ _ _ => (se_var 3))) (sss_one (ss_ret (se_ix (roomU hr) (sx_lst (sa_cons (se_al (sx_lst (sa_cons se_str (sa_cons (se_ct call_tuple_of ac_tup rfl F.n_tuple b_tuple (sb_cons (sx_of (se_var 1)) sb_nil)) sa_nil)) (lenA_cons (lenA_cons lenA_nil)))) (sa_cons (se_al (sx_lst (sa_cons se_str (sa_cons (se_ix (roomU hr) (sx_op op_addA ad_addA (sx_of (se_var 2)) (sx_lst (sa_cons se_int sa_nil) (lenA_cons lenA_nil))) (sx_of se_int)) sa_nil)) (lenA_cons (lenA_cons lenA_nil)))) sa_nil)) (lenA_cons (lenA_cons lenA_nil))) (sx_of (se_ct cr_int ac_int rfl F.n_int b_int (sb_cons (sx_of (se_cmp (op_neA (roomE hr)) (AdP.ad ap_ne) (sx_of (se_var 2)) (sx_lst sa_nil lenA_nil) (by rfl))) sb_nil))))))))
theorem A__law_due_line {P : Program} {w : World} {K : PySem.W.Frag} {mg : Str → Option Value} {base : Heap} (F : Fx K mg) : Df P w K mg base 2 "_law_due_line" 1 [] f__law_due_line := by
  obtain ⟨fd, fn⟩ := F.d__law_due_line
  have FG := G__law_due_line (P := P) (w := w) (base := base) F fn (A__law_is_word F)
  exact ⟨fd, _, [], [], FG, fn.kp, fn.bindsN (fun _ _ _ _ _ _ us hl => match us, hl with | [_], _ => rfl), .nil, dvs_nil, rfl⟩
theorem sc__law_due_clash : FnScope N__law_due_clash ["text"] (defScope (top 42)) := ⟨rfl, rfl, rfl, by decide +kernel, rfl, by decide +kernel, by decide +kernel⟩
theorem G__law_due_clash {P : Program} {w : World} {K : PySem.W.Frag} {mg : Str → Option Value} {base : Heap} (F : Fx K mg) {fd : FuncData} (fn : FunD K "_law_due_clash" "_law_due_clash" (defArgs (top 42)) (defBody (top 42)) (defScope (top 42)) [] [] (He.ga K "_law_due_clash") fd) (D__law_is_word : Df P w K mg base 1 "_law_is_word" 1 [] f__law_is_word) : FnG P w K mg base 2 (He.ga K "_law_due_clash") fd ["text"] f__law_due_clash := by
  refine (fng_of fn sc__law_due_clash (h := s__law_due_clash) fun cdv A outer s H E hr hg => ?_).wrap
  have tk : Takes (cxOf (L2.CX P w) P w K mg base N__law_due_clash "_law_due_clash" (defScope (top 42)) (He.ga K "_law_due_clash") cdv A outer s H E) (fun c d _ H1 => E c d H1) := takes_of rfl rfl rfl rfl
  have hp : PassesOwn (model P w) (A.deeper (envOfC "_law_due_clash" (defScope (top 42)) s.heap.objs.size (He.ga K "_law_due_clash") cdv)) (envOfC "_law_due_clash" (defScope (top 42)) s.heap.objs.size (He.ga K "_law_due_clash") cdv) (cxOf (L2.CX P w) P w K mg base N__law_due_clash "_law_due_clash" (defScope (top 42)) (He.ga K "_law_due_clash") cdv A outer s H E).xe := passes_of rfl
  exact (sss_cons (ss_set (i := 1) sc__law_due_clash.nd rfl (Or.inl rfl) (se_al (sx_bm PySem.F.plainAttrs_str PySem.F.slot_str_split PySem.F.type_str_split mt_split am_split (sx_of (se_var 0)) (sb_cons (sx_of se_str) sb_nil)))) (sss_cons (ss_set (i := 2) sc__law_due_clash.nd rfl (Or.inl rfl) (se_cmp (op_eqA (roomE hr)) (AdP.ad ap_eq) (sx_lc (own := [("word", 3)]) rfl sc__law_due_clash.nd (si_seq (sx_sl (sx_of (se_var 1)) (to_some se_int) to_none)) (blkOk_by (by rfl)) (fun _ _ _ _ _ => (sg_name sc__law_due_clash.nd rfl (Or.inl rfl))) (fun _ _ _ _ _ => (sts_one (st_not (st_val (se_al (sx_df (D__law_is_word.mono (by decide)) hr hg rfl F.g__law_is_word takes_none5 (sa_cons (se_var 3) sa_nil) (lenA_cons lenA_nil))))))) (fun _ _ _ _ _ => (se_var 3))) (sx_lst sa_nil lenA_nil) (by rfl))) (sss_cons (ss_if (st_w (sw_and (st_val (se_var 2)) (sw_and (st_cmp (op_eqA (roomE hr)) (AdP.ad ap_eq) (sx_of (se_ix (roomU hr) (sx_of (se_var 1)) (sx_of se_int))) (sx_of se_str) (by rfl)) (sw_and1 (st_cmp (op_eqA (roomE hr)) (AdP.ad ap_eq) (sx_of (se_cb cr_len ac_len rfl F.n_len b_len (sb_cons (sx_of (se_var 1)) sb_nil))) (sx_of se_int) (by rfl)))))) (sss_one (ss_ret (se_al (sx_lst (sa_cons se_str (sa_cons (se_tup (sa_cons se_str (sa_cons (se_ix (roomU hr) (sx_of (se_var 1)) (sx_of se_int)) sa_nil)) (lenA_cons (lenA_cons lenA_nil))) sa_nil)) (lenA_cons (lenA_cons lenA_nil)))))) sss_nil) (sss_cons (ss_if (st_w (sw_and (st_val (se_var 2)) (sw_and (st_cmp (op_in (roomU hr)) (AdP.ad ap_in) (sx_of (se_ix (roomU hr) (sx_of (se_var 1)) (sx_of se_int))) (sx_lst (sa_cons se_str (sa_cons se_str sa_nil)) (lenA_cons (lenA_cons lenA_nil))) (by rfl)) (sw_and1 (st_cmp op_gt (AdP.ad ap_gt) (sx_of (se_cb cr_len ac_len rfl F.n_len b_len (sb_cons (sx_of (se_var 1)) sb_nil))) (sx_of se_int) (by rfl)))))) (sss_one (ss_ret (se_al (sx_lst (sa_cons se_str (sa_cons (se_tup (sa_cons (se_ix (roomU hr) (sx_of (se_var 1)) (sx_of se_int)) (sa_cons (se_ct call_tuple_of ac_tup rfl F.n_tuple b_tuple (sb_cons (sx_sl (sx_of (se_var 1)) (to_some se_int) to_none) sb_nil)) sa_nil)) (lenA_cons (lenA_cons lenA_nil))) sa_nil)) (lenA_cons (lenA_cons lenA_nil)))))) sss_nil) (sss_one (ss_ret (se_al (sx_lst (sa_cons se_str (sa_cons se_int sa_nil)) (lenA_cons (lenA_cons lenA_nil))))))))))
theorem A__law_due_clash {P : Program} {w : World} {K : PySem.W.Frag} {mg : Str → Option Value} {base : Heap} (F : Fx K mg) : Df P w K mg base 2 "_law_due_clash" 1 [] f__law_due_clash := by
  obtain ⟨fd, fn⟩ := F.d__law_due_clash
  have FG := G__law_due_clash (P := P) (w := w) (base := base) F fn (A__law_is_word F)
  exact ⟨fd, _, [], [], FG, fn.kp, fn.bindsN (fun _ _ _ _ _ _ us hl => match us, hl with | [_], _ => rfl), .nil, dvs_nil, rfl⟩
theorem sc__law_told : FnScope N__law_told ["door", "thing"] (defScope (top 43)) := ⟨rfl, rfl, rfl, by decide +kernel, rfl, by decide +kernel, by decide +kernel⟩
theorem G__law_told {P : Program} {w : World} {K : PySem.W.Frag} {mg : Str → Option Value} {base : Heap} (F : Fx K mg) {fd : FuncData} (fn : FunD K "_law_told" "_law_told" (defArgs (top 43)) (defBody (top 43)) (defScope (top 43)) [] [] (He.ga K "_law_told") fd) (D_read_history : Df P w K mg base 5 "read_history" 1 [] f_read_history) (D_read_line : Df P w K mg base 4 "read_line" 1 [] f_read_line) (D_read_clash : Df P w K mg base 4 "read_clash" 1 [] f_read_clash) : FnG P w K mg base 6 (He.ga K "_law_told") fd ["door", "thing"] f__law_told := by
  refine (fng_of fn sc__law_told (h := s__law_told) fun cdv A outer s H E hr hg => ?_).wrap
  have tk : Takes (cxOf (L2.CX P w) P w K mg base N__law_told "_law_told" (defScope (top 43)) (He.ga K "_law_told") cdv A outer s H E) (fun c d _ H1 => E c d H1) := takes_of rfl rfl rfl rfl
  have hp : PassesOwn (model P w) (A.deeper (envOfC "_law_told" (defScope (top 43)) s.heap.objs.size (He.ga K "_law_told") cdv)) (envOfC "_law_told" (defScope (top 43)) s.heap.objs.size (He.ga K "_law_told") cdv) (cxOf (L2.CX P w) P w K mg base N__law_told "_law_told" (defScope (top 43)) (He.ga K "_law_told") cdv A outer s H E).xe := passes_of rfl
  exact (sss_one (ss_try rfl rfl sc__law_told.nd tk F.tab (fun W2 pn2 xe2 tk2 hp2 => (sss_cons (ss_if (st_cmp (op_eqA (roomE hr)) (AdP.ad ap_eq) (sx_of (se_var 0)) (sx_of se_int) (by rfl)) (sss_one (ss_ret (se_al (sx_lst (sa_cons se_str (sa_cons (se_al (sx_df (D_read_history.mono (by decide)) hr hg rfl F.g_read_history tk2 (sa_cons (se_var 1) sa_nil) (lenA_cons lenA_nil))) sa_nil)) (lenA_cons (lenA_cons lenA_nil)))))) sss_nil) (sss_cons (ss_if (st_cmp (op_eqA (roomE hr)) (AdP.ad ap_eq) (sx_of (se_var 0)) (sx_of se_int) (by rfl)) (sss_one (ss_ret (se_al (sx_lst (sa_cons se_str (sa_cons (se_al (sx_df (D_read_line.mono (by decide)) hr hg rfl F.g_read_line tk2 (sa_cons (se_var 1) sa_nil) (lenA_cons lenA_nil))) sa_nil)) (lenA_cons (lenA_cons lenA_nil)))))) sss_nil) (sss_one (ss_ret (se_al (sx_lst (sa_cons se_str (sa_cons (se_al (sx_df (D_read_clash.mono (by decide)) hr hg rfl F.g_read_clash tk2 (sa_cons (se_var 1) sa_nil) (lenA_cons lenA_nil))) sa_nil)) (lenA_cons (lenA_cons lenA_nil))))))))) (.named (i := 2) rfl F.g_BadText rfl rfl (fun a oe C d k pn ht hz hf => (sss_one (ss_ret (se_al (sx_op op_addA ad_addA (sx_lst (sa_cons se_str (sa_cons (se_xf (F.xf C "BadText" ht) (F.xn C "BadText" "at" ht (by simp [flt])) hz hf rfl (Or.inl rfl)) sa_nil)) (lenA_cons (lenA_cons lenA_nil))) (sx_op op_mulA ad_mulA (sx_lst (sa_cons se_str sa_nil) (lenA_cons lenA_nil)) (sx_of (se_ct cr_int ac_int rfl F.n_int b_int (sb_cons (sx_of (se_or (se_not (se_cb (cr_isX F.tab (F.isE C "BadText" ht) hz hf) ac_isX rfl F.n_isinstance b_isinstance (sb_cons (sx_of (se_var 2)) (sb_cons (sx_of (se_gref rfl F.g_AheadError)) sb_nil)))) (se_one (se_cb (cr_isX F.tab (F.isE C "BadText" ht) hz hf) ac_isX rfl F.n_isinstance b_isinstance (sb_cons (sx_of (se_var 2)) (sb_cons (sx_of (se_tup (sa_cons (se_gref rfl F.g_BadLine) (sa_cons (se_gref rfl F.g_BadLore) sa_nil)) (lenA_cons (lenA_cons lenA_nil)))) sb_nil)))))) sb_nil))))))))) .nil)))
theorem A__law_told {P : Program} {w : World} {K : PySem.W.Frag} {mg : Str → Option Value} {base : Heap} (F : Fx K mg) : Df P w K mg base 6 "_law_told" 2 [] f__law_told := by
  obtain ⟨fd, fn⟩ := F.d__law_told
  have FG := G__law_told (P := P) (w := w) (base := base) F fn (A_read_history F) (A_read_line F) (A_read_clash F)
  exact ⟨fd, _, [], [], FG, fn.kp, fn.bindsN (fun _ _ _ _ _ _ us hl => match us, hl with | [_, _], _ => rfl), .nil, dvs_nil, rfl⟩
theorem sc__law_due : FnScope N__law_due ["door", "text"] (defScope (top 44)) := ⟨rfl, rfl, rfl, by decide +kernel, rfl, by decide +kernel, by decide +kernel⟩
theorem G__law_due {P : Program} {w : World} {K : PySem.W.Frag} {mg : Str → Option Value} {base : Heap} (F : Fx K mg) {fd : FuncData} (fn : FunD K "_law_due" "_law_due" (defArgs (top 44)) (defBody (top 44)) (defScope (top 44)) [] [] (He.ga K "_law_due") fd) (D__law_due_history : Df P w K mg base 4 "_law_due_history" 1 [] f__law_due_history) (D__law_due_line : Df P w K mg base 2 "_law_due_line" 1 [] f__law_due_line) (D__law_due_clash : Df P w K mg base 2 "_law_due_clash" 1 [] f__law_due_clash) : FnG P w K mg base 5 (He.ga K "_law_due") fd ["door", "text"] f__law_due := by
  refine (fng_of fn sc__law_due (h := s__law_due) fun cdv A outer s H E hr hg => ?_).wrap
  have tk : Takes (cxOf (L2.CX P w) P w K mg base N__law_due "_law_due" (defScope (top 44)) (He.ga K "_law_due") cdv A outer s H E) (fun c d _ H1 => E c d H1) := takes_of rfl rfl rfl rfl
  have hp : PassesOwn (model P w) (A.deeper (envOfC "_law_due" (defScope (top 44)) s.heap.objs.size (He.ga K "_law_due") cdv)) (envOfC "_law_due" (defScope (top 44)) s.heap.objs.size (He.ga K "_law_due") cdv) (cxOf (L2.CX P w) P w K mg base N__law_due "_law_due" (defScope (top 44)) (He.ga K "_law_due") cdv A outer s H E).xe := passes_of rfl
  exact (sss_cons (ss_if (st_cmp (op_eqA (roomE hr)) (AdP.ad ap_eq) (sx_of (se_var 0)) (sx_of se_int) (by rfl)) (sss_one (ss_ret (se_al (sx_df (D__law_due_history.mono (by decide)) hr hg rfl F.g__law_due_history tk (sa_cons (se_var 1) sa_nil) (lenA_cons lenA_nil))))) sss_nil) (sss_cons (ss_if (st_cmp (op_eqA (roomE hr)) (AdP.ad ap_eq) (sx_of (se_var 0)) (sx_of se_int) (by rfl)) (sss_one (ss_ret (se_al (sx_df (D__law_due_line.mono (by decide)) hr hg rfl F.g__law_due_line tk (sa_cons (se_var 1) sa_nil) (lenA_cons lenA_nil))))) sss_nil) (sss_one (ss_ret (se_al (sx_df (D__law_due_clash.mono (by decide)) hr hg rfl F.g__law_due_clash tk (sa_cons (se_var 1) sa_nil) (lenA_cons lenA_nil)))))))
theorem A__law_due {P : Program} {w : World} {K : PySem.W.Frag} {mg : Str → Option Value} {base : Heap} (F : Fx K mg) : Df P w K mg base 5 "_law_due" 2 [] f__law_due := by
  obtain ⟨fd, fn⟩ := F.d__law_due
  have FG := G__law_due (P := P) (w := w) (base := base) F fn (A__law_due_history F) (A__law_due_line F) (A__law_due_clash F)
  exact ⟨fd, _, [], [], FG, fn.kp, fn.bindsN (fun _ _ _ _ _ _ us hl => match us, hl with | [_, _], _ => rfl), .nil, dvs_nil, rfl⟩
theorem sc_law : FnScope N_law ["script"] (defScope (top 45)) := ⟨rfl, rfl, rfl, by decide +kernel, rfl, by decide +kernel, by decide +kernel⟩
theorem G_law {P : Program} {w : World} {K : PySem.W.Frag} {mg : Str → Option Value} {base : Heap} (F : Fx K mg) {fd : FuncData} (fn : FunD K "law" "law" (defArgs (top 45)) (defBody (top 45)) (defScope (top 45)) [] [] (He.ga K "law") fd) (D__law_names : Df P w K mg base 2 "_law_names" 2 [] La.f__law_names) (D__law_clash : Df P w K mg base 2 "_law_clash" 2 [] f__law_clash) (D__law_deeds : Df P w K mg base 2 "_law_deeds" 2 [] f__law_deeds) (D__law_take : Df P w K mg base 1 "_law_take" 2 [] La.f__law_take) (D_protests_text : Df P w K mg base 2 "protests_text" 1 [] Pg.f_protests_text) (D__law_rows_text : Df P w K mg base 2 "_law_rows_text" 1 [] f__law_rows_text) (D_clash_text : Df P w K mg base 1 "clash_text" 1 [] Pg.f_clash_text) (D_line_text : Df P w K mg base 1 "line_text" 1 [] Pg.f_line_text) (D_history_text : Df P w K mg base 3 "history_text" 1 [] Pg.f_history_text) (D__law_clash_text : Df P w K mg base 1 "_law_clash_text" 1 [] f__law_clash_text) (D__law_bent : Df P w K mg base 2 "_law_bent" 2 [] f__law_bent) (D__law_told : Df P w K mg base 6 "_law_told" 2 [] f__law_told) (D__law_due : Df P w K mg base 5 "_law_due" 2 [] f__law_due) : FnG P w K mg base 7 (He.ga K "law") fd ["script"] f_law := by
  refine (fng_of fn sc_law (h := s_law) fun cdv A outer s H E hr hg => ?_).wrap
  have tk : Takes (cxOf (L2.CX P w) P w K mg base N_law "law" (defScope (top 45)) (He.ga K "law") cdv A outer s H E) (fun c d _ H1 => E c d H1) := takes_of rfl rfl rfl rfl
  have hp : PassesOwn (model P w) (A.deeper (envOfC "law" (defScope (top 45)) s.heap.objs.size (He.ga K "law") cdv)) (envOfC "law" (defScope (top 45)) s.heap.objs.size (He.ga K "law") cdv) (cxOf (L2.CX P w) P w K mg base N_law "law" (defScope (top 45)) (He.ga K "law") cdv A outer s H E).xe := passes_of rfl
  exact (sss_cons (ss_set (i := 1) sc_law.nd rfl (Or.inr rfl) (se_al (sx_lst (sa_cons (se_var 0) (sa_cons se_int (sa_cons se_int (sa_cons se_int sa_nil)))) (lenA_cons (lenA_cons (lenA_cons (lenA_cons lenA_nil))))))) (sss_cons (ss_wp (ss_for hp rfl (si_rng1 rfl F.n_range (sa_cons se_int sa_nil)) (sg_name sc_law.nd rfl (Or.inl rfl)) (sss_gc (b := b_law_3) (sss_cons (ss_set (i := 3) sc_law.nd rfl (Or.inr rfl) (se_al (sx_df (D__law_names.mono (by decide)) hr hg rfl F.g__law_names tk (sa_cons (se_var 1) (sa_cons se_int sa_nil)) (lenA_cons (lenA_cons lenA_nil))))) (sss_cons (ss_par (i := 4) (j := 5) rfl sc_law.nd rfl rfl (by decide) rfl rfl (sa_cons (se_al (sx_df (D__law_deeds.mono (by decide)) hr hg rfl F.g__law_deeds tk (sa_cons (se_var 1) (sa_cons (se_var 3) sa_nil)) (lenA_cons (lenA_cons lenA_nil)))) (sa_cons (se_al (sx_df (D__law_clash.mono (by decide)) hr hg rfl F.g__law_clash tk (sa_cons (se_var 1) (sa_cons (se_var 3) sa_nil)) (lenA_cons (lenA_cons lenA_nil)))) sa_nil)) (by rfl)) (sss_cons (ss_set (i := 6) sc_law.nd rfl (Or.inl rfl) (se_ct call_tuple_of ac_tup rfl F.n_tuple b_tuple (sb_cons (sx_lc (own := [("k", 12)]) rfl sc_law.nd (si_rng1 rfl F.n_range (sa_cons (se_al (sx_df (D__law_take.mono (by decide)) hr hg rfl F.g__law_take tk (sa_cons (se_var 1) (sa_cons se_int sa_nil)) (lenA_cons (lenA_cons lenA_nil)))) sa_nil)) (blkOk_by (by rfl)) (fun _ _ _ _ _ => (sg_name sc_law.nd rfl (Or.inl rfl))) (fun _ _ _ _ _ => sts_nil) (fun _ _ _ _ _ => (se_ix (roomU hr) (sx_of (se_var 3)) (sx_df (D__law_take.mono (by decide)) hr hg rfl F.g__law_take takes_none5 (sa_cons (se_var 1) (sa_cons se_int sa_nil)) (lenA_cons (lenA_cons lenA_nil)))))) sb_nil))) (sss_cons (ss_setLc (own := [("one", 14)]) rfl sc_law.nd rfl rfl (si_seq (sx_of (se_var 6))) (blkOk_by (by rfl)) (fun _ _ _ _ _ => (sg_name sc_law.nd rfl (Or.inl rfl))) (fun _ _ _ _ _ => sts_nil) (fun _ _ _ _ _ => (se_tup (sa_cons (se_var 14) (sa_cons (se_ix (roomU hr) (sx_lst (sa_cons se_str (sa_cons se_str (sa_cons se_str sa_nil))) (lenA_cons (lenA_cons (lenA_cons lenA_nil)))) (sx_df (D__law_take.mono (by decide)) hr hg rfl F.g__law_take takes_none5 (sa_cons (se_var 1) (sa_cons se_int sa_nil)) (lenA_cons (lenA_cons lenA_nil)))) (sa_cons (se_ix (roomU hr) (sx_of (se_var 3)) (sx_df (D__law_take.mono (by decide)) hr hg rfl F.g__law_take takes_none5 (sa_cons (se_var 1) (sa_cons se_int sa_nil)) (lenA_cons (lenA_cons lenA_nil)))) sa_nil))) (lenA_cons (lenA_cons (lenA_cons lenA_nil)))))) (sss_cons (ss_if (st_cmp (op_neA (roomE hr)) (AdP.ad ap_ne) (sx_of (se_cb (cr_reprD hg (roomV hr)) ac_reprD rfl F.n_repr b_repr (sb_cons (sx_df (D_protests_text.mono (by decide)) hr hg rfl F.g_protests_text tk (sa_cons (se_ct call_tuple_of ac_tup rfl F.n_tuple b_tuple (sb_cons (sx_of (se_var 7)) sb_nil)) sa_nil) (lenA_cons lenA_nil)) sb_nil))) (sx_of (se_cb (cr_reprD hg (roomV hr)) ac_reprD rfl F.n_repr b_repr (sb_cons (sx_df (D__law_rows_text.mono (by decide)) hr hg rfl F.g__law_rows_text tk (sa_cons (se_var 7) sa_nil) (lenA_cons lenA_nil)) sb_nil))) (by rfl)) (sss_one (ss_ret se_bl)) sss_nil) (sss_cons (ss_set (i := 8) sc_law.nd rfl (Or.inl rfl) (se_al (sx_lst (sa_cons (se_al (sx_df (D_history_text.mono (by decide)) hr hg rfl F.g_history_text tk (sa_cons (se_var 4) sa_nil) (lenA_cons lenA_nil))) (sa_cons (se_al (sx_df (D_line_text.mono (by decide)) hr hg rfl F.g_line_text tk (sa_cons (se_var 6) sa_nil) (lenA_cons lenA_nil))) (sa_cons (se_al (sx_df (D_clash_text.mono (by decide)) hr hg rfl F.g_clash_text tk (sa_cons (se_var 5) sa_nil) (lenA_cons lenA_nil))) sa_nil))) (lenA_cons (lenA_cons (lenA_cons lenA_nil)))))) (sss_cons (ss_if (st_cmp (op_neA (roomE hr)) (AdP.ad ap_ne) (sx_of (se_cb (cr_reprD hg (roomV hr)) ac_reprD rfl F.n_repr b_repr (sb_cons (sx_of (se_var 8)) sb_nil))) (sx_of (se_cb (cr_reprD hg (roomV hr)) ac_reprD rfl F.n_repr b_repr (sb_cons (sx_lst (sa_cons (se_al (sx_df (D__law_rows_text.mono (by decide)) hr hg rfl F.g__law_rows_text tk (sa_cons (se_var 4) sa_nil) (lenA_cons lenA_nil))) (sa_cons (se_al (sx_bm PySem.F.plainAttrs_str PySem.F.slot_str_join PySem.F.type_str_join mt_join am_join (sx_of se_str) (sb_cons (sx_of (se_var 6)) sb_nil))) (sa_cons (se_al (sx_df (D__law_clash_text.mono (by decide)) hr hg rfl F.g__law_clash_text tk (sa_cons (se_var 5) sa_nil) (lenA_cons lenA_nil))) sa_nil))) (lenA_cons (lenA_cons (lenA_cons lenA_nil)))) sb_nil))) (by rfl)) (sss_one (ss_ret se_bl)) sss_nil) (sss_cons (ss_set (i := 9) sc_law.nd rfl (Or.inl rfl) (se_al (sx_lst (sa_cons (se_var 4) (sa_cons (se_var 6) (sa_cons (se_var 5) sa_nil))) (lenA_cons (lenA_cons (lenA_cons lenA_nil)))))) (sss_one (ss_wp (ss_for hp rfl (si_rng1 rfl F.n_range (sa_cons se_int sa_nil)) (sg_name sc_law.nd rfl (Or.inl rfl)) (sss_gc (b := b_law_2) (sss_cons (ss_set (i := 11) sc_law.nd rfl (Or.inl rfl) (se_ix (roomU hr) (sx_of (se_var 8)) (sx_of (se_var 10)))) (sss_cons (ss_wp (ss_for hp rfl (si_rng1 rfl F.n_range (sa_cons (se_op op_add ad_add (sx_of se_int) (sx_df (D__law_take.mono (by decide)) hr hg rfl F.g__law_take tk (sa_cons (se_var 1) (sa_cons se_int sa_nil)) (lenA_cons (lenA_cons lenA_nil)))) sa_nil)) (sg_name sc_law.nd rfl (Or.inl rfl)) (sss_gc (b := b_law_1) (sss_one (ss_set (i := 11) sc_law.nd rfl (Or.inl rfl) (se_al (sx_sl (sx_df (D__law_bent.mono (by decide)) hr hg rfl F.g__law_bent tk (sa_cons (se_var 1) (sa_cons (se_var 11) sa_nil)) (lenA_cons (lenA_cons lenA_nil))) to_none (to_some se_int)))))))) (sss_cons (ss_if (st_cmp (op_neA (roomE hr)) (AdP.ad ap_ne) (sx_of (se_cb (cr_reprD hg (roomV hr)) ac_reprD rfl F.n_repr b_repr (sb_cons (sx_df (D__law_told.mono (by decide)) hr hg rfl F.g__law_told tk (sa_cons (se_var 10) (sa_cons (se_ix (roomU hr) (sx_of (se_var 8)) (sx_of (se_var 10))) sa_nil)) (lenA_cons (lenA_cons lenA_nil))) sb_nil))) (sx_of (se_cb (cr_reprD hg (roomV hr)) ac_reprD rfl F.n_repr b_repr (sb_cons (sx_lst (sa_cons se_str (sa_cons (se_ix (roomU hr) (sx_of (se_var 9)) (sx_of (se_var 10))) sa_nil)) (lenA_cons (lenA_cons lenA_nil))) sb_nil))) (by rfl)) (sss_one (ss_ret se_bl)) sss_nil) (sss_one (ss_if (st_cmp (op_neA (roomE hr)) (AdP.ad ap_ne) (sx_of (se_cb (cr_reprD hg (roomV hr)) ac_reprD rfl F.n_repr b_repr (sb_cons (sx_df (D__law_told.mono (by decide)) hr hg rfl F.g__law_told tk (sa_cons (se_var 10) (sa_cons (se_var 11) sa_nil)) (lenA_cons (lenA_cons lenA_nil))) sb_nil))) (sx_of (se_cb (cr_reprD hg (roomV hr)) ac_reprD rfl F.n_repr b_repr (sb_cons (sx_df (D__law_due.mono (by decide)) hr hg rfl F.g__law_due tk (sa_cons (se_var 10) (sa_cons (se_var 11) sa_nil)) (lenA_cons (lenA_cons lenA_nil))) sb_nil))) (by rfl)) (sss_one (ss_ret se_bl)) sss_nil)))))))))))))))))))) (sss_cons (ss_set (i := 13) sc_law.nd rfl (Or.inr rfl) (se_ix (roomU hr) (sx_lst (sa_cons se_non (sa_cons se_int (sa_cons se_bl (sa_cons (se_tup (sa_cons se_str sa_nil) (lenA_cons lenA_nil)) (sa_cons (se_al (sx_lst (sa_cons se_str sa_nil) (lenA_cons lenA_nil))) (sa_cons se_dnew sa_nil)))))) (lenA_cons (lenA_cons (lenA_cons (lenA_cons (lenA_cons (lenA_cons lenA_nil))))))) (sx_df (D__law_take.mono (by decide)) hr hg rfl F.g__law_take tk (sa_cons (se_var 1) (sa_cons se_int sa_nil)) (lenA_cons (lenA_cons lenA_nil))))) (sss_one (ss_ret (se_cmp (op_eqA (roomE hr)) (AdP.ad ap_eq) (sx_lc (own := [("door", 10)]) rfl sc_law.nd (si_rng1 rfl F.n_range (sa_cons se_int sa_nil)) (blkOk_by (by rfl)) (fun _ _ _ _ _ => (sg_name sc_law.nd rfl (Or.inl rfl))) (fun _ _ _ _ _ => (sts_one (st_cmp (op_neA (roomE hr)) (AdP.ad ap_ne) (sx_of (se_cb (cr_reprD hg (roomV hr)) ac_reprD rfl F.n_repr b_repr (sb_cons (sx_df (D__law_told.mono (by decide)) hr hg rfl F.g__law_told takes_none5 (sa_cons (se_var 10) (sa_cons (se_var 13) sa_nil)) (lenA_cons (lenA_cons lenA_nil))) sb_nil))) (sx_of (se_cb (cr_reprD hg (roomV hr)) ac_reprD rfl F.n_repr b_repr (sb_cons (sx_lst (sa_cons se_str (sa_cons se_non sa_nil)) (lenA_cons (lenA_cons lenA_nil))) sb_nil))) (by rfl)))) (fun _ _ _ _ _ => (se_var 10))) (sx_lst sa_nil lenA_nil) (by rfl)))))))
theorem A_law {P : Program} {w : World} {K : PySem.W.Frag} {mg : Str → Option Value} {base : Heap} (F : Fx K mg) : Df P w K mg base 7 "law" 1 [] f_law := by
  obtain ⟨fd, fn⟩ := F.d_law
  have FG := G_law (P := P) (w := w) (base := base) F fn (A__law_names F) (A__law_clash F) (A__law_deeds F) (A__law_take F) (A_protests_text F) (A__law_rows_text F) (A_clash_text F) (A_line_text F) (A_history_text F) (A__law_clash_text F) (A__law_bent F) (A__law_told F) (A__law_due F)
  exact ⟨fd, _, [], [], FG, fn.kp, fn.bindsN (fun _ _ _ _ _ _ us hl => match us, hl with | [_], _ => rfl), .nil, dvs_nil, rfl⟩
end Lk85

set_option maxHeartbeats 0
namespace Lk85
open PySem PySem.Spec PyProof.Rows L2 Ah
/-! ### the head -/
def d_is_name : He.DefD := ⟨("is_name", none), "is_name", "is_name", defArgs (top 8), defBody (top 8), defScope (top 8), [], []⟩
def d_named : He.DefD := ⟨("named", none), "named", "named", defArgs (top 13), defBody (top 13), defScope (top 13), [], []⟩
def d_line_text : He.DefD := ⟨("line_text", none), "line_text", "line_text", defArgs (top 14), defBody (top 14), defScope (top 14), [], []⟩
def d_deed_text : He.DefD := ⟨("deed_text", none), "deed_text", "deed_text", defArgs (top 15), defBody (top 15), defScope (top 15), [], []⟩
def d_history_text : He.DefD := ⟨("history_text", none), "history_text", "history_text", defArgs (top 16), defBody (top 16), defScope (top 16), [], []⟩
def d_clash_text : He.DefD := ⟨("clash_text", none), "clash_text", "clash_text", defArgs (top 17), defBody (top 17), defScope (top 17), [], []⟩
def d_protest_text : He.DefD := ⟨("protest_text", none), "protest_text", "protest_text", defArgs (top 18), defBody (top 18), defScope (top 18), [], []⟩
def d_protests_text : He.DefD := ⟨("protests_text", none), "protests_text", "protests_text", defArgs (top 19), defBody (top 19), defScope (top 19), [], []⟩
def d_number_of_word : He.DefD := ⟨("number_of_word", none), "number_of_word", "number_of_word", defArgs (top 20), defBody (top 20), defScope (top 20), [], [("most", He.Dv.int 10)]⟩
def d_seen_of_word : He.DefD := ⟨("seen_of_word", none), "seen_of_word", "seen_of_word", defArgs (top 21), defBody (top 21), defScope (top 21), [], []⟩
def d_deed_of_words : He.DefD := ⟨("deed_of_words", none), "deed_of_words", "deed_of_words", defArgs (top 22), defBody (top 22), defScope (top 22), [], []⟩
def d_rows_read : He.DefD := ⟨("rows_read", none), "rows_read", "rows_read", defArgs (top 23), defBody (top 23), defScope (top 23), [], []⟩
def d_read_history : He.DefD := ⟨("read_history", none), "read_history", "read_history", defArgs (top 24), defBody (top 24), defScope (top 24), [], []⟩
def d_read_line : He.DefD := ⟨("read_line", none), "read_line", "read_line", defArgs (top 25), defBody (top 25), defScope (top 25), [], []⟩
def d_read_clash : He.DefD := ⟨("read_clash", none), "read_clash", "read_clash", defArgs (top 26), defBody (top 26), defScope (top 26), [], []⟩
def d__law_take : He.DefD := ⟨("_law_take", none), "_law_take", "_law_take", defArgs (top 28), defBody (top 28), defScope (top 28), [], []⟩
def d__law_names : He.DefD := ⟨("_law_names", none), "_law_names", "_law_names", defArgs (top 29), defBody (top 29), defScope (top 29), [], []⟩
def d__law_is_word : He.DefD := ⟨("_law_is_word", none), "_law_is_word", "_law_is_word", defArgs (top 30), defBody (top 30), defScope (top 30), [], []⟩
def d__law_number : He.DefD := ⟨("_law_number", none), "_law_number", "_law_number", defArgs (top 31), defBody (top 31), defScope (top 31), [], []⟩
def d__law_seen : He.DefD := ⟨("_law_seen", none), "_law_seen", "_law_seen", defArgs (top 32), defBody (top 32), defScope (top 32), [], []⟩
def d__law_bent : He.DefD := ⟨("_law_bent", none), "_law_bent", "_law_bent", defArgs (top 33), defBody (top 33), defScope (top 33), [], []⟩
def d__law_deeds : He.DefD := ⟨("_law_deeds", none), "_law_deeds", "_law_deeds", defArgs (top 34), defBody (top 34), defScope (top 34), [], []⟩
def d__law_word_of : He.DefD := ⟨("_law_word_of", none), "_law_word_of", "_law_word_of", defArgs (top 35), defBody (top 35), defScope (top 35), [], []⟩
def d__law_rows_text : He.DefD := ⟨("_law_rows_text", none), "_law_rows_text", "_law_rows_text", defArgs (top 36), defBody (top 36), defScope (top 36), [], []⟩
def d__law_clash : He.DefD := ⟨("_law_clash", none), "_law_clash", "_law_clash", defArgs (top 37), defBody (top 37), defScope (top 37), [], []⟩
def d__law_clash_text : He.DefD := ⟨("_law_clash_text", none), "_law_clash_text", "_law_clash_text", defArgs (top 38), defBody (top 38), defScope (top 38), [], []⟩
def d__law_deed : He.DefD := ⟨("_law_deed", none), "_law_deed", "_law_deed", defArgs (top 39), defBody (top 39), defScope (top 39), [], []⟩
def d__law_due_history : He.DefD := ⟨("_law_due_history", none), "_law_due_history", "_law_due_history", defArgs (top 40), defBody (top 40), defScope (top 40), [], []⟩
def d__law_due_line : He.DefD := ⟨("_law_due_line", none), "_law_due_line", "_law_due_line", defArgs (top 41), defBody (top 41), defScope (top 41), [], []⟩
def d__law_due_clash : He.DefD := ⟨("_law_due_clash", none), "_law_due_clash", "_law_due_clash", defArgs (top 42), defBody (top 42), defScope (top 42), [], []⟩
def d__law_told : He.DefD := ⟨("_law_told", none), "_law_told", "_law_told", defArgs (top 43), defBody (top 43), defScope (top 43), [], []⟩
def d__law_due : He.DefD := ⟨("_law_due", none), "_law_due", "_law_due", defArgs (top 44), defBody (top 44), defScope (top 44), [], []⟩
def d_law : He.DefD := ⟨("law", none), "law", "law", defArgs (top 45), defBody (top 45), defScope (top 45), [], []⟩
def di_BadLore : He.DefD := ⟨("BadLore", some "__init__"), "__init__", "BadLore.__init__", defArgs (mth 3 0), defBody (mth 3 0), defScope (mth 3 0), [], []⟩
def di_BadText : He.DefD := ⟨("BadText", some "__init__"), "__init__", "BadText.__init__", defArgs (mth 5 0), defBody (mth 5 0), defScope (mth 5 0), [], []⟩
def fnl : List He.DefD := [d_is_name, d_named, d_line_text, d_deed_text, d_history_text, d_clash_text, d_protest_text, d_protests_text, d_number_of_word, d_seen_of_word, d_deed_of_words, d_rows_read, d_read_history, d_read_line, d_read_clash, d__law_take, d__law_names, d__law_is_word, d__law_number, d__law_seen, d__law_bent, d__law_deeds, d__law_word_of, d__law_rows_text, d__law_clash, d__law_clash_text, d__law_deed, d__law_due_history, d__law_due_line, d__law_due_clash, d__law_told, d__law_due, d_law, di_BadLore, di_BadText]
def fal : List He.Fa := [.glo "is_name", .glo "named", .glo "line_text", .glo "deed_text", .glo "history_text", .glo "clash_text", .glo "protest_text", .glo "protests_text", .glo "number_of_word", .glo "seen_of_word", .glo "deed_of_words", .glo "rows_read", .glo "read_history", .glo "read_line", .glo "read_clash", .glo "_law_take", .glo "_law_names", .glo "_law_is_word", .glo "_law_number", .glo "_law_seen", .glo "_law_bent", .glo "_law_deeds", .glo "_law_word_of", .glo "_law_rows_text", .glo "_law_clash", .glo "_law_clash_text", .glo "_law_deed", .glo "_law_due_history", .glo "_law_due_line", .glo "_law_due_clash", .glo "_law_told", .glo "_law_due", .glo "law", .glo "AheadError", .glo "BadLore", .glo "BadLine", .glo "BadText", .free "all", .free "enumerate", .free "int", .free "isinstance", .free "len", .free "range", .free "repr", .free "str", .free "tuple", .str "HEAD" "", .str "LETTERS" "abcdefghijklmnopqrstuvwxyz", .str "NOBODY" "-", .str "UNMARKED" "."]
def chk (K : PySem.W.Frag) : Bool := (errB K "BadLore" ["at", "why"] && (errB K "BadText" ["at"] && (baseB K "AheadError" && tabB K tb)))
abbrev R : PySem.W.OpenRow := PySem.W.OpenLaw.row PySem.Challenge.rw_aheadseen_k85_other_texts
abbrev hk : PySem.W.Hook := hookE 5 fal fnl chk
def ob (s : PySem.W.SharedT) : AlE := obsEG 5 fal fnl chk (HandSHeadRun.getT s)
theorem ob_eq (s : PySem.W.SharedT) : ob s = hk.obs s.abs := obsE_eq (HandSHeadRun.getT_eq s)
def loose0 : List PySem.Str := ["HEAD", "AheadError", "BadLore", "BadLine", "BadText", "LETTERS", "is_name", "NOBODY", "UNMARKED", "FIGURES", "named", "line_text", "deed_text", "history_text", "clash_text", "protest_text", "protests_text", "number_of_word", "seen_of_word", "deed_of_words", "rows_read", "read_history", "read_line", "read_clash", "_law_take", "_law_names", "_law_is_word", "_law_number", "_law_seen", "_law_bent"]
def loose1 : List PySem.Str := ["_law_deeds", "_law_word_of", "_law_rows_text", "_law_clash", "_law_clash_text", "_law_deed", "_law_due_history", "_law_due_line", "_law_due_clash", "_law_told", "_law_due"]
def loose : List PySem.Str := loose0 ++ loose1
theorem run (w : World) : HandSHeadRun.RunEq R (PySem.W.view R.prog [45]) hk ob 4000 loose w := by
  intro os
  kernel_rfl
theorem fx {K : PySem.W.Frag} {h : Heap} {mg : Str → Option Value} (X : K.In h) (G : h.Ns mainGlobals mg) (c : He.SaysD fal fnl K) (hc : chk K = true) : Fx K mg := by
  unfold chk at hc
  simp only [Bool.and_eq_true] at hc
  obtain ⟨c0, ⟨c1, ⟨c2, c3⟩⟩⟩ := hc
  exact {
    n_all := He.free_ok X G (c.fact 37 (f := .free "all") rfl)
    n_enumerate := He.free_ok X G (c.fact 38 (f := .free "enumerate") rfl)
    n_int := He.free_ok X G (c.fact 39 (f := .free "int") rfl)
    n_isinstance := He.free_ok X G (c.fact 40 (f := .free "isinstance") rfl)
    n_len := He.free_ok X G (c.fact 41 (f := .free "len") rfl)
    n_range := He.free_ok X G (c.fact 42 (f := .free "range") rfl)
    n_repr := He.free_ok X G (c.fact 43 (f := .free "repr") rfl)
    n_str := He.free_ok X G (c.fact 44 (f := .free "str") rfl)
    n_tuple := He.free_ok X G (c.fact 45 (f := .free "tuple") rfl)
    v_HEAD := He.str_ok X G (c.fact 46 (f := .str "HEAD" "") rfl)
    v_LETTERS := He.str_ok X G (c.fact 47 (f := .str "LETTERS" "abcdefghijklmnopqrstuvwxyz") rfl)
    v_NOBODY := He.str_ok X G (c.fact 48 (f := .str "NOBODY" "-") rfl)
    v_UNMARKED := He.str_ok X G (c.fact 49 (f := .str "UNMARKED" ".") rfl)
    g_is_name := He.glo_ok X G (c.fact 0 (f := .glo "is_name") rfl)
    g_named := He.glo_ok X G (c.fact 1 (f := .glo "named") rfl)
    g_line_text := He.glo_ok X G (c.fact 2 (f := .glo "line_text") rfl)
    g_deed_text := He.glo_ok X G (c.fact 3 (f := .glo "deed_text") rfl)
    g_history_text := He.glo_ok X G (c.fact 4 (f := .glo "history_text") rfl)
    g_clash_text := He.glo_ok X G (c.fact 5 (f := .glo "clash_text") rfl)
    g_protest_text := He.glo_ok X G (c.fact 6 (f := .glo "protest_text") rfl)
    g_protests_text := He.glo_ok X G (c.fact 7 (f := .glo "protests_text") rfl)
    g_number_of_word := He.glo_ok X G (c.fact 8 (f := .glo "number_of_word") rfl)
    g_seen_of_word := He.glo_ok X G (c.fact 9 (f := .glo "seen_of_word") rfl)
    g_deed_of_words := He.glo_ok X G (c.fact 10 (f := .glo "deed_of_words") rfl)
    g_rows_read := He.glo_ok X G (c.fact 11 (f := .glo "rows_read") rfl)
    g_read_history := He.glo_ok X G (c.fact 12 (f := .glo "read_history") rfl)
    g_read_line := He.glo_ok X G (c.fact 13 (f := .glo "read_line") rfl)
    g_read_clash := He.glo_ok X G (c.fact 14 (f := .glo "read_clash") rfl)
    g__law_take := He.glo_ok X G (c.fact 15 (f := .glo "_law_take") rfl)
    g__law_names := He.glo_ok X G (c.fact 16 (f := .glo "_law_names") rfl)
    g__law_is_word := He.glo_ok X G (c.fact 17 (f := .glo "_law_is_word") rfl)
    g__law_number := He.glo_ok X G (c.fact 18 (f := .glo "_law_number") rfl)
    g__law_seen := He.glo_ok X G (c.fact 19 (f := .glo "_law_seen") rfl)
    g__law_bent := He.glo_ok X G (c.fact 20 (f := .glo "_law_bent") rfl)
    g__law_deeds := He.glo_ok X G (c.fact 21 (f := .glo "_law_deeds") rfl)
    g__law_word_of := He.glo_ok X G (c.fact 22 (f := .glo "_law_word_of") rfl)
    g__law_rows_text := He.glo_ok X G (c.fact 23 (f := .glo "_law_rows_text") rfl)
    g__law_clash := He.glo_ok X G (c.fact 24 (f := .glo "_law_clash") rfl)
    g__law_clash_text := He.glo_ok X G (c.fact 25 (f := .glo "_law_clash_text") rfl)
    g__law_deed := He.glo_ok X G (c.fact 26 (f := .glo "_law_deed") rfl)
    g__law_due_history := He.glo_ok X G (c.fact 27 (f := .glo "_law_due_history") rfl)
    g__law_due_line := He.glo_ok X G (c.fact 28 (f := .glo "_law_due_line") rfl)
    g__law_due_clash := He.glo_ok X G (c.fact 29 (f := .glo "_law_due_clash") rfl)
    g__law_told := He.glo_ok X G (c.fact 30 (f := .glo "_law_told") rfl)
    g__law_due := He.glo_ok X G (c.fact 31 (f := .glo "_law_due") rfl)
    g_law := He.glo_ok X G (c.fact 32 (f := .glo "law") rfl)
    g_AheadError := He.glo_ok X G (c.fact 33 (f := .glo "AheadError") rfl)
    g_BadLore := He.glo_ok X G (c.fact 34 (f := .glo "BadLore") rfl)
    g_BadLine := He.glo_ok X G (c.fact 35 (f := .glo "BadLine") rfl)
    g_BadText := He.glo_ok X G (c.fact 36 (f := .glo "BadText") rfl)
    d_is_name := c.def_ 0 (d := d_is_name) rfl
    d_named := c.def_ 1 (d := d_named) rfl
    d_line_text := c.def_ 2 (d := d_line_text) rfl
    d_deed_text := c.def_ 3 (d := d_deed_text) rfl
    d_history_text := c.def_ 4 (d := d_history_text) rfl
    d_clash_text := c.def_ 5 (d := d_clash_text) rfl
    d_protest_text := c.def_ 6 (d := d_protest_text) rfl
    d_protests_text := c.def_ 7 (d := d_protests_text) rfl
    d_number_of_word := c.def_ 8 (d := d_number_of_word) rfl
    d_seen_of_word := c.def_ 9 (d := d_seen_of_word) rfl
    d_deed_of_words := c.def_ 10 (d := d_deed_of_words) rfl
    d_rows_read := c.def_ 11 (d := d_rows_read) rfl
    d_read_history := c.def_ 12 (d := d_read_history) rfl
    d_read_line := c.def_ 13 (d := d_read_line) rfl
    d_read_clash := c.def_ 14 (d := d_read_clash) rfl
    d__law_take := c.def_ 15 (d := d__law_take) rfl
    d__law_names := c.def_ 16 (d := d__law_names) rfl
    d__law_is_word := c.def_ 17 (d := d__law_is_word) rfl
    d__law_number := c.def_ 18 (d := d__law_number) rfl
    d__law_seen := c.def_ 19 (d := d__law_seen) rfl
    d__law_bent := c.def_ 20 (d := d__law_bent) rfl
    d__law_deeds := c.def_ 21 (d := d__law_deeds) rfl
    d__law_word_of := c.def_ 22 (d := d__law_word_of) rfl
    d__law_rows_text := c.def_ 23 (d := d__law_rows_text) rfl
    d__law_clash := c.def_ 24 (d := d__law_clash) rfl
    d__law_clash_text := c.def_ 25 (d := d__law_clash_text) rfl
    d__law_deed := c.def_ 26 (d := d__law_deed) rfl
    d__law_due_history := c.def_ 27 (d := d__law_due_history) rfl
    d__law_due_line := c.def_ 28 (d := d__law_due_line) rfl
    d__law_due_clash := c.def_ 29 (d := d__law_due_clash) rfl
    d__law_told := c.def_ 30 (d := d__law_told) rfl
    d__law_due := c.def_ 31 (d := d__law_due) rfl
    d_law := c.def_ 32 (d := d_law) rfl
    e_BadLore := errB_ok c0
    i_BadLore := c.def_ 33 (d := di_BadLore) rfl
    e_BadText := errB_ok c1
    i_BadText := c.def_ 34 (d := di_BadText) rfl
    b_AheadError := c2
    tab := tabB_ok c3 }
theorem facts {P : Program} {w : World} {K : PySem.W.Frag} {h : Heap} {mg : Str → Option Value} {f : Addr} (X : K.In h) (G : h.Ns mainGlobals mg) (hfa : mg ("law" : Str) = some (.ref f)) (c : He.SaysD fal fnl K) (hc : chk K = true) :
    ∃ fd : FuncData, (∀ (s : Shared) (v : Value), BindsTo s fd ⟨[v], []⟩ [("script", v)]) ∧ ∀ base : Heap, K.In base → base.Ns mainGlobals mg → FnG P w K mg base 7 f fd ["script"] f_law := by
  have F := fx X G c hc
  have e := hfa.symm.trans F.g_law
  cases e
  obtain ⟨fd, fn⟩ := F.d_law
  have b := FunD.bindsA (ps := ["script"]) fn fun _ _ _ _ _ _ us hl => match us, hl with | [_], _ => rfl
  exact ⟨fd, fun s v => b s [v] rfl, fun base _ _ => G_law F fn (A__law_names F) (A__law_clash F) (A__law_deeds F) (A__law_take F) (A_protests_text F) (A__law_rows_text F) (A_clash_text F) (A_line_text F) (A_history_text F) (A__law_clash_text F) (A__law_bent F) (A__law_told F) (A__law_due F)⟩
end Lk85

set_option maxHeartbeats 4000000
namespace Lk85
open PySem PySem.Spec PyProof.Rows L2 Ah Pg La PySem.NumText
theorem ev_is_word {S : Sto} (x : Str) (hx : x.length ≤ 16777216) (ok : PyData.strOk x = true) : f__law_is_word [.str x] S = .ok (.bl (nmB x)) S := by
  apply fn_same (hp := rfl) (hb := rfl)
  unfold s__law_is_word t__law_is_word_1
  have h : lcF (seqI (varF 0)) (nmG 1) (tstF (opF (prF pNi) (varF 1) (cF (.str "abcdefghijklmnopqrstuvwxyz")))) (varF 1) [1] [some (D.str x), none] S = .ok (.tml ((x.cps.toList.filter fun c => !ltr c).map fun c => .str ⟨#[c]⟩)) S :=
    lc_chrF _ (x := x) rfl hx (fun c => rfl) fun c => rfl
  have h2 : ((x.cps.toList.filter fun c => !ltr c).map fun c => D.str ⟨#[c]⟩) = ((x.cps.toList.filter fun c => !ltr c).map fun c => (⟨#[c]⟩ : Str)).map .str := by simp
  have h3 := fun S => pEq_strs0 (S := S) (ys := ((x.cps.toList.filter fun c => !ltr c).map fun c => (⟨#[c]⟩ : Str))) fun y hy => by
    obtain ⟨c, hc, rfl⟩ := List.mem_map.mp hy
    exact ok_chr ok (List.mem_filter.mp hc).1
  rw [h2] at h
  have h4 : ((x.cps.toList.filter fun c => !ltr c).map fun c => (⟨#[c]⟩ : Str)).isEmpty = allL x := by
    unfold allL
    rw [List.isEmpty_map]
    induction x.cps.toList with
    | nil => rfl
    | cons c l ih => cases hc : ltr c <;> simp [hc, ih]
  rw [h4] at h3
  by_cases h0 : (1:Int) ≤ x.length <;> by_cases h8 : (x.length:Int) ≤ 8 <;> simp [-List.map_map, enD, hx, nmB, h0, h8, h, h3]
theorem ev_lnumber {S : Sto} (x : Str) (hx : x.length ≤ 16777216) (ok : PyData.strOk x = true) : f__law_number [.str x] S = .ok (oI (numO x)) S := by
  have h := fun S => nfs_lc (S := S) (x := x) hx (i := 0) (j := 1) (env := [some (D.str x), none]) rfl (by simp)
  have h3 := fun S => nfs_ne (S := S) ok
  refine fn_same ?_ (plD_oI _) (noRef_oI _)
  unfold s__law_number
  by_cases h1 : (1:Int) ≤ x.length
  · by_cases h10' : (x.length:Int) ≤ 10
    · cases hf : allF x with
      | false => simp [enD, hx, h1, oI, numO, h10', h, h3, hf]
      | true =>
        cases hc : x.cps.toList with
        | nil =>
          have : x.cps.toList.length = x.length := Array.length_toList
          rw [hc] at this
          simp at this
          omega
        | cons c r =>
          have hz : zer x = decide (c = 48) := by unfold zer; rw [hc]; simp [beq_dec]
          have hi := num_int h1 h10' hf
          by_cases hc48 : c = 48 <;> by_cases hl : (1:Int) < x.length <;> simp [enD, hx, h1, oI, numO, h10', h, h3, hf, ix0 hx hc, hz, hc48, hl, str1_eq, hi]
    · simp [enD, hx, h1, oI, numO, h10']
  · simp [enD, hx, h1, oI, numO]
theorem ev_lseen {S : Sto} (x : Str) (hx : x.length ≤ 16777216) (ok : PyData.strOk x = true) : f__law_seen [.str x] S = .ok (sD (seenO x)) S := by
  refine fn_same ?_ (plD_sD _) (noRef_sD _)
  unfold s__law_seen
  by_cases h : x = "-"
  · simp [enD, h, seenO, sD]
  · cases hn : nmB x <;> simp [enD, h, seenO, sD, ev_is_word x hx ok, hn, ixF, seqD, atI, ixN]

def mkO (k : Str) : Option (Option Int) := if k = "." then some none else (numO k).map some
def dO : List Str → Option Dd
  | [w, n, k] => if (w = "go" ∨ w = "look") ∧ nmB n = true then (mkO k).map fun m => .act w n m else none
  | [w, n, b, k] => if w = "come" ∧ nmB n = true then (match mkO k, seenO b with
    | some m, some x => some (.come n x m)
    | _, _ => none) else none
  | _ => none
def oDd : Option Dd → D
  | none => .non
  | some d => ddD d
theorem plD_oDd (o : Option Dd) : plD (oDd o) = true := by cases o <;> rfl
theorem noRef_oDd (o : Option Dd) : noRef (oDd o) = true := by
  cases o with
  | none => rfl
  | some d => exact noRef_dd d
def gl (w : Str) : Bool := decide (w = "go") || decide (w = "look")
theorem ni3 (w : Str) (S : Sto) : pNi (.str w) (.tup [.str "come", .str "go", .str "look"]) S = some (!(decide (w = "come") || gl w)) := by
  unfold pNi pIn gl
  simp [seqD, flatD, eqD, beq_dec]
  simp only [eq_comm (a := w)]
theorem in3 (w : Str) (S : Sto) : pNi (.str w) (.tml [.str "come", .str "go", .str "look"]) S = some (!(decide (w = "come") || gl w)) := by
  unfold pNi pIn gl
  simp [seqD, flatD, eqD, beq_dec]
  simp only [eq_comm (a := w)]
theorem come_gl : gl "come" = false := by decide +kernel
theorem gl_or {w : Str} : gl w = true ↔ w = "go" ∨ w = "look" := by simp [gl]
theorem mkO_oD {k : Str} (h : k ≠ ".") : oD (numO k) = .non ↔ mkO k = none := by
  unfold mkO
  rw [if_neg h]
  cases numO k <;> simp [oD]
/-- the words' first checks -/
theorem ev_deed_words {S : Sto} {k : Nat} (ws : List Str) (hs : S[k]? = some (.lst (ws.map .str))) (hw : ∀ w ∈ ws, Tx w) (hn : ws ≠ []) : f_deed_of_words [.ref k] S = .ok (oDd (dO ws)) S := by
  refine fn_same ?_ (plD_oDd _) (noRef_oDd _)
  have i0 : ∀ w r, ws = w :: r → ∀ S' : Sto, S'[k]? = some (.lst (ws.map .str)) → ixF (.ref k) (.int 0) S' = .ok (.str w) S' := fun w r e S' h => by subst e; simp [ixF, seqD, h, atI, ixN]
  have hlen : gLen [.ref k] S = .ok (.int ws.length) S := by simp [gLen, seqD, hs]
  unfold s_deed_of_words
  match ws, hs, hw, hn with
  | [w], hs, _, _ =>
    have j0 := i0 w _ rfl S hs
    simp only [List.length_cons, List.length_nil] at hlen
    by_cases hc : w = "come"
    · subst hc
      have := ni3 "come" S
      rw [come_gl] at this
      simp [enD, j0, hlen, this, dO, oDd]
    · have := ni3 w S
      cases hg : gl w <;> rw [hg] at this <;> simp [enD, j0, hlen, this, hc, dO, oDd]
  | [w, n], hs, _, _ =>
    have j0 := i0 w _ rfl S hs
    simp only [List.length_cons, List.length_nil] at hlen
    by_cases hc : w = "come"
    · subst hc
      have := ni3 "come" S
      rw [come_gl] at this
      simp [enD, j0, hlen, this, dO, oDd]
    · have := ni3 w S
      cases hg : gl w <;> rw [hg] at this <;> simp [enD, j0, hlen, this, hc, dO, oDd]
  | w :: n :: a :: b :: c :: r, hs, _, _ =>
    have j0 := i0 w _ rfl S hs
    simp only [List.length_cons] at hlen
    have h1 : ¬ ((r.length : Int) + 1 + 1 + 1 + 1 + 1 = 3) := by omega
    have h2 : ¬ ((r.length : Int) + 1 + 1 + 1 + 1 + 1 = 4) := by omega
    push_cast at hlen
    by_cases hc : w = "come"
    · subst hc
      have := ni3 "come" S
      rw [come_gl] at this
      simp [enD, j0, hlen, this, dO, oDd, h2]
    · have := ni3 w S
      cases hg : gl w <;> rw [hg] at this <;> simp [enD, j0, hlen, this, hc, dO, oDd, h1]
  | [w, n, m], hs, hw, _ =>
    have j0 := i0 w _ rfl S hs
    have i1 : ixF (.ref k) (.int 1) S = .ok (.str n) S := by simp [ixF, seqD, hs, atI, ixN]
    have i2 : ixF (.ref k) (.int (-1)) S = .ok (.str m) S := by simp [ixF, seqD, hs, atI, ixN]
    simp only [List.length_cons, List.length_nil] at hlen
    have h1 := hw n (by simp)
    have h2 := hw m (by simp)
    have e1 := ev_is_name (S := S) n h1.le
    have e2 := ev_number (S := S) m h2.le h2.ok
    by_cases hc : w = "come"
    · subst hc
      have := ni3 "come" S
      rw [come_gl] at this
      have hg1 : ¬ (("come" : Str) = "go" ∨ ("come" : Str) = "look") := by decide +kernel
      simp [enD, j0, hlen, this, dO, oDd, hg1]
    · have := ni3 w S
      cases hg : gl w with
      | false =>
        have hg' : ¬ (w = "go" ∨ w = "look") := fun z => by rw [← gl_or, hg] at z; cases z
        rw [hg] at this
        simp [enD, j0, hlen, this, hc, dO, oDd, hg']
      | true =>
        have hg' := gl_or.mp hg
        rw [hg] at this
        by_cases hm : m = "."
        · subst hm
          cases hnm : nmB n <;> rw [hnm] at e1 <;> simp [enD, j0, i1, i2, hlen, this, hc, dO, oDd, hg', e1, hnm, mkO, ddD, ddI, itD, mkI]
        · cases hno : numO m <;> rw [hno] at e2 <;> cases hnm : nmB n <;> rw [hnm] at e1 <;> simp [enD, j0, i1, i2, hlen, this, hc, dO, oDd, hg', e1, e2, hnm, hm, hno, mkO, ddD, ddI, itD, mkI, oD]
  | [w, n, b, m], hs, hw, _ =>
    have j0 := i0 w _ rfl S hs
    have i1 : ixF (.ref k) (.int 1) S = .ok (.str n) S := by simp [ixF, seqD, hs, atI, ixN]
    have i2 : ixF (.ref k) (.int (-1)) S = .ok (.str m) S := by simp [ixF, seqD, hs, atI, ixN]
    have i3 : ixF (.ref k) (.int 2) S = .ok (.str b) S := by simp [ixF, seqD, hs, atI, ixN]
    simp only [List.length_cons, List.length_nil] at hlen
    have h1 := hw n (by simp)
    have h2 := hw m (by simp)
    have h3 := hw b (by simp)
    have e1 := ev_is_name (S := S) n h1.le
    have e2 := ev_number (S := S) m h2.le h2.ok
    have e3 := ev_seen (S := S) b h3.le
    by_cases hc : w = "come"
    · subst hc
      have := ni3 "come" S
      rw [come_gl] at this
      by_cases hm : m = "."
      · subst hm
        cases hnm : nmB n <;> rw [hnm] at e1 <;> cases hb : seenO b <;> rw [hb] at e3 <;> simp [enD, j0, i1, i2, i3, hlen, this, dO, oDd, e1, hnm, e3, hb, mkO, ddD, ddI, itD, mkI, sD]
      · cases hno : numO m <;> rw [hno] at e2 <;> cases hnm : nmB n <;> rw [hnm] at e1 <;> cases hb : seenO b <;> rw [hb] at e3 <;> simp [enD, j0, i1, i2, i3, hlen, this, dO, oDd, e1, e2, hnm, hm, hno, e3, hb, mkO, ddD, ddI, itD, mkI, oD, sD]
    · have := ni3 w S
      cases hg : gl w with
      | false =>
        rw [hg] at this
        simp [enD, j0, hlen, this, hc, dO, oDd]
      | true =>
        rw [hg] at this
        simp [enD, j0, hlen, this, hc, dO, oDd]
end Lk85

set_option maxHeartbeats 4000000
namespace Pg
open PySem PySem.Spec PyProof.Rows L2 Ah PySem.NumText
/-- rows by a reader of rows: the first that is none, or all -/
def goX {α : Type} (f : Str → Option α) : Nat → List Str → Nat ⊕ List α
  | _, [] => .inr []
  | k, p :: ps => match f p with
    | none => .inl k
    | some r => match goX f (k + 1) ps with
      | .inl e => .inl e
      | .inr rs => .inr (r :: rs)
def readX {α : Type} (f : Str → Option α) (ini : List Str) (l : Str) : Nat ⊕ List α := match goX f 0 ini with
  | .inl e => .inl e
  | .inr rs => if l = "" then .inr rs else .inl ini.length
def stpX {α : Type} (f : Str → Option α) (found : List α) (p : Str × Nat) : Nat ⊕ List α := match f p.1 with
  | none => .inl p.2
  | some r => .inr (found ++ [r])
theorem foldX_go {α : Type} (f : Str → Option α) : ∀ (ps : List Str) (k : Nat) (found : List α), foldX (stpX f) found (ps.zipIdx k) = match goX f k ps with
    | .inl e => .inl e
    | .inr rs => .inr (found ++ rs)
  | [], k, found => by simp [foldX, goX]
  | p :: ps, k, found => by
    rw [List.zipIdx_cons]
    unfold foldX goX stpX
    cases h : f p with
    | none => simp
    | some r =>
      dsimp only
      have ih := foldX_go f ps (k + 1) (found ++ [r])
      show foldX (stpX f) (found ++ [r]) (ps.zipIdx (k + 1)) = _
      rw [ih]
      cases hg : goX f (k + 1) ps with
      | inl e => rfl
      | inr rs => simp
end Pg
namespace Lk85
open PySem PySem.Spec PyProof.Rows L2 Ah Pg La PySem.NumText
theorem tx_words {p : Str} (hp : Tx p) : ∀ w ∈ Txt.split p " ", Tx w := by
  rw [sp_eq]
  exact fun w hw => tx_part hp hw
theorem split_ne (p by_ : Str) : Txt.split p by_ ≠ [] := fun z => by
  have := split_pos p by_
  rw [z] at this
  simp at this
theorem sp_split {p : Str} (hp : Tx p) (S : Sto) : gSplit (.str p) [.str " "] S = .ok (.tml ((Txt.split p " ").map .str)) S := by
  unfold gSplit
  simp only
  rw [if_pos ⟨by decide +kernel, by have := hp.len; omega⟩]
def rdD (p : Str) : Option Dd := dO (Txt.split p " ")
theorem bel_lst {n : Nat} {l : List D} (h : noRefs l = true) : (Ob.lst l).bel n = true := bels_of h
theorem noRefs_dd (l : List Dd) : noRefs (l.map ddD) = true := noRefs_map _ noRef_dd l
theorem b_rows_ev {S : Sto} {x : D} {l p : Str} {rows : List D} {found : List Dd} {k : Nat} (hp : Tx p) (hf : found.length < 16777216) :
    b_rows_read_1 [some x, some (.glb "deed_of_words"), some (.ref S.length), some (.str l), some (.ref (S.length + 1)), some (.int (k : Int)), some (.str p), none] (S ++ [.lst rows, .lst (found.map ddD)]) = match rdD p with
    | some d => .nx [some x, some (.glb "deed_of_words"), some (.ref S.length), some (.str l), some (.ref (S.length + 1)), some (.int (k : Int)), some (.str p), some (ddD d)] (S ++ [.lst rows, .lst ((found ++ [d]).map ddD)] ++ [.lst ((Txt.split p " ").map .str)])
    | none => .ex "BadText" [("at", .int (k : Int))] [some x, some (.glb "deed_of_words"), some (.ref S.length), some (.str l), some (.ref (S.length + 1)), some (.int (k : Int)), some (.str p), some .non] (S ++ [.lst rows, .lst (found.map ddD)] ++ [.lst ((Txt.split p " ").map .str)]) := by
  have hs := sp_split hp
  have hl : (S ++ [Ob.lst rows, Ob.lst (found.map ddD)]).length = S.length + 2 := by simp
  have hr := ev_deed_words (S := (S ++ [Ob.lst rows, Ob.lst (found.map ddD)]) ++ [.lst ((Txt.split p " ").map .str)]) (k := S.length + 2) (Txt.split p " ") (by rw [← hl]; exact at0) (tx_words hp) (split_ne p " ")
  unfold rdD
  have hlk : List.lookup (Str.ofString "deed_of_words") [(Str.ofString "deed_of_words", f_deed_of_words)] = some f_deed_of_words := by
    unfold List.lookup
    rw [show (Str.ofString "deed_of_words" == Str.ofString "deed_of_words") = true from by decide +kernel]
  unfold b_rows_read_1
  simp only [List.append_assoc, List.cons_append, List.nil_append] at hr
  cases hd : dO (Txt.split p " ") with
  | none =>
    rw [hd] at hr
    simp [hs, runL, hlk, hr, oDd]
  | some d =>
    rw [hd] at hr
    obtain ⟨tt, htt⟩ : ∃ tt, ddD d = .tup tt := ⟨_, rfl⟩
    simp [hs, runL, hlk, hr, oDd, gApp, tyD, at1, set1, hf, isTml, htt]
def rdR {α : Type} (enc : α → D) (S : Sto) : Nat ⊕ List α → Ah.R D
  | .inl e => .ex "BadText" [("at", .int (e : Int))] S
  | .inr rs => .ok (.tup (rs.map enc)) S
theorem ev_rows {S : Sto} {x : Str} (hx : Tx x) {ini : List Str} {l0 : Str} (h : Txt.split x "\n" = ini ++ [l0]) : f_rows_read [.str x, .glb "deed_of_words"] S = rdR ddD S (readX rdD ini l0) := by
  have hp : ∀ p ∈ Txt.split x "\n", Tx p := by
    rw [nl_eq]
    exact fun p hp => tx_part hx hp
  have hlen : (Txt.split x "\n").length ≤ 16777216 := by have := split_le x "\n"; have := hx.len; omega
  rw [h] at hp hlen
  simp only [List.length_append, List.length_cons, List.length_nil] at hlen
  have hs : ∀ S' : Sto, gSplit (.str x) [.str "\n"] S' = .ok (.tml ((ini ++ [l0]).map .str)) S' := fun S' => by
    unfold gSplit
    simp only
    rw [if_pos ⟨by decide +kernel, by have := hx.len; omega⟩, h]
  have h1 : asgStS 2 0 (bmF "str" gSplit (varF 0) (consA (cF (.str "\n")) nilA)) (consG (nmG 2) (consG (nmG 3) nilG)) [some (.str x), some (.glb "deed_of_words"), none, none, none, none, none, none] S =
      .nx [some (.str x), some (.glb "deed_of_words"), some (.ref S.length), some (.str l0), none, none, none, none] (S ++ [.lst (ini.map .str)]) := by
    unfold asgStS
    simp [hs, lstD, midN, List.drop_append, List.take_append]
  let E : List Dd → En := fun _ => [some (.str x), some (.glb "deed_of_words"), some (.ref S.length), some (.str l0), some (.ref (S.length + 1)), none, none, none]
  let F : List Dd → Sto := fun found => S ++ [.lst (ini.map .str), .lst (found.map ddD)]
  have lp := loop_x (g := tupG 2 (consG (nmG 5) (consG (nmG 6) nilG))) (safe := fun S' => S'[S.length]? = some (.lst (ini.map .str))) (b := gcS [5, 6, 7] b_rows_read_1) (fun l found => (∀ p ∈ l, Tx p.1) ∧ found.length + l.length ≤ 16777215)
    (fun e r => ∃ env J, r = .ex "BadText" [("at", .int ((e : Nat) : Int))] env (S ++ J)) (enI D.str) E F (stpX rdD) (fun _ s _ => at0) (fun p l s hs' => by
      refine ⟨[some (.str x), some (.glb "deed_of_words"), some (.ref S.length), some (.str _), some (.ref (S.length + 1)), some (.int (p.2 : Int)), some (.str p.1), none], rfl, ?_⟩
      have hb := b_rows_ev (S := S) (x := .str x) (l := l0) (p := p.1) (rows := ini.map .str) (found := s) (k := p.2) (hs'.1 p (by simp)) (by have := hs'.2; omega)
      unfold stpX
      cases hd : rdD p.1 with
      | none =>
        rw [hd] at hb
        dsimp only at hb ⊢
        rw [gc_ex hb]
        exact ⟨rfl, _, [.lst (ini.map .str), .lst (s.map ddD), .lst ((Txt.split p.1 " ").map .str)], by simp only [List.append_assoc]; rfl⟩
      | some d =>
        rw [hd] at hb
        dsimp only at hb ⊢
        refine ⟨⟨fun q hq => hs'.1 q (by simp [hq]), ?_⟩, (gc_nx hb ((Chg2.cons (bel_lst (noRefs_dd _)) Chg2.refl).keep.app) ?_).trans rfl⟩
        · have := hs'.2
          simp only [List.length_cons, List.length_append, List.length_nil] at this ⊢
          omega
        · simp [belE, D.bel]) ini.zipIdx [] ⟨fun p hpm => hp _ (by simp [List.mem_of_getElem? (List.mem_zipIdx_iff_getElem?.mp hpm)]), by simp; omega⟩
  rw [foldX_go] at lp
  unfold f_rows_read readX
  simp only [E, F] at lp
  have hfor : ∀ r, loopF (tupG 2 (consG (nmG 5) (consG (nmG 6) nilG))) (fun S' => S'[S.length]? = some (.lst (ini.map .str))) (gcS [5, 6, 7] b_rows_read_1) (ini.zipIdx.map (enI D.str)) [some (.str x), some (.glb "deed_of_words"), some (.ref S.length), some (.str l0), some (.ref (S.length + 1)), none, none, none] (S ++ [.lst (ini.map .str), .lst []]) = r →
      forS (enmI (consA (varF 2) nilA)) (tupG 2 (consG (nmG 5) (consG (nmG 6) nilG))) (gcS [5, 6, 7] b_rows_read_1) [some (.str x), some (.glb "deed_of_words"), some (.ref S.length), some (.str l0), some (.ref (S.length + 1)), none, none, none] (S ++ [.lst (ini.map .str), .lst []]) = r := fun r hr =>
    for_of (S1 := S ++ [.lst (ini.map .str), .lst []]) (enm_ref (i := S.length) (ds := ini.map .str) (by simp) at0) at0 (by rw [enmD_map]; exact hr)
  cases hg : goX rdD 0 ini with
  | inl e =>
    rw [hg] at lp
    obtain ⟨env, J', e1⟩ := lp
    have e1 := hfor _ e1
    refine wrap_ex (J := J') (body_ex (en := env) ?_) rfl
    unfold s_rows_read
    simp [-v_for, enD, h1, e1]
  | inr rs =>
    rw [hg] at lp
    have e1 := hfor _ lp.2
    dsimp only [List.nil_append] at e1 ⊢
    by_cases hl : l0 = ""
    · rw [if_pos hl]
      subst hl
      refine wrap_app (J := [.lst (ini.map .str), .lst (rs.map ddD)]) (body_rt ?_) rfl (bel_of (noRefs_dd rs))
      unfold s_rows_read
      simp [-v_for, enD, h1, e1, Ah.gTup, lstD, at1]
    · rw [if_neg hl]
      refine wrap_ex (J := [.lst (ini.map .str), .lst (rs.map ddD)]) (body_ex (en := [some (.str x), some (.glb "deed_of_words"), some (.ref S.length), some (.str l0), some (.ref (S.length + 1)), none, none, none]) ?_) rfl
      unfold s_rows_read
      simp [-v_for, enD, h1, e1, hl, gLen, seqD, at0]
end Lk85

set_option maxHeartbeats 4000000
namespace Lk85
open PySem PySem.Spec PyProof.Rows L2 Ah Pg La PySem.NumText
theorem numO_nn {x : Str} {i : Int} (h : numO x = some i) : 0 ≤ i := by
  unfold numO at h
  split at h
  · split at h
    · cases h
    · injection h with h
      omega
  · cases h
theorem ev_ldeed {S : Sto} {k : Nat} (ws : List Str) (hs : S[k]? = some (.lst (ws.map .str))) (hw : ∀ w ∈ ws, Tx w) (hn : ws ≠ []) : f__law_deed [.ref k] S = .ok (oDd (dO ws)) S := by
  refine fn_same ?_ (plD_oDd _) (noRef_oDd _)
  have i0 : ∀ w r, ws = w :: r → ∀ S' : Sto, S'[k]? = some (.lst (ws.map .str)) → ixF (.ref k) (.int 0) S' = .ok (.str w) S' := fun w r e S' h => by subst e; simp [ixF, seqD, h, atI, ixN]
  have hlen : gLen [.ref k] S = .ok (.int ws.length) S := by simp [gLen, seqD, hs]
  unfold s__law_deed
  match ws, hs, hw, hn with
  | [w], hs, _, _ =>
    have j0 := i0 w _ rfl S hs
    simp only [List.length_cons, List.length_nil] at hlen
    by_cases hc : w = "come"
    · subst hc
      have := in3 "come" S
      rw [come_gl] at this
      simp [enD, j0, hlen, this, dO, oDd]
    · have := in3 w S
      cases hg : gl w <;> rw [hg] at this <;> simp [enD, j0, hlen, this, hc, dO, oDd]
  | [w, n], hs, _, _ =>
    have j0 := i0 w _ rfl S hs
    simp only [List.length_cons, List.length_nil] at hlen
    by_cases hc : w = "come"
    · subst hc
      have := in3 "come" S
      rw [come_gl] at this
      simp [enD, j0, hlen, this, dO, oDd]
    · have := in3 w S
      cases hg : gl w <;> rw [hg] at this <;> simp [enD, j0, hlen, this, hc, dO, oDd]
  | w :: n :: a :: b :: c :: r, hs, _, _ =>
    have j0 := i0 w _ rfl S hs
    simp only [List.length_cons] at hlen
    have h1 : ¬ ((r.length : Int) + 1 + 1 + 1 + 1 + 1 = 3) := by omega
    have h2 : ¬ ((r.length : Int) + 1 + 1 + 1 + 1 + 1 = 4) := by omega
    push_cast at hlen
    by_cases hc : w = "come"
    · subst hc
      have := in3 "come" S
      rw [come_gl] at this
      simp [enD, j0, hlen, this, dO, oDd, h2]
    · have := in3 w S
      cases hg : gl w <;> rw [hg] at this <;> simp [enD, j0, hlen, this, hc, dO, oDd, h1]
  | [w, n, m], hs, hw, _ =>
    have j0 := i0 w _ rfl S hs
    have i1 : ixF (.ref k) (.int 1) S = .ok (.str n) S := by simp [ixF, seqD, hs, atI, ixN]
    have i2 : ixF (.ref k) (.int (-1)) S = .ok (.str m) S := by simp [ixF, seqD, hs, atI, ixN]
    simp only [List.length_cons, List.length_nil] at hlen
    have h1 := hw n (by simp)
    have h2 := hw m (by simp)
    have e1 := ev_is_word (S := S) n h1.le h1.ok
    have e2 := ev_lnumber (S := S) m h2.le h2.ok
    by_cases hc : w = "come"
    · subst hc
      have := in3 "come" S
      rw [come_gl] at this
      have hg1 : ¬ (("come" : Str) = "go" ∨ ("come" : Str) = "look") := by decide +kernel
      simp [enD, j0, hlen, this, dO, oDd, hg1]
    · have := in3 w S
      cases hg : gl w with
      | false =>
        have hg' : ¬ (w = "go" ∨ w = "look") := fun z => by rw [← gl_or, hg] at z; cases z
        rw [hg] at this
        simp [enD, j0, hlen, this, hc, dO, oDd, hg']
      | true =>
        have hg' := gl_or.mp hg
        rw [hg] at this
        by_cases hm : m = "."
        · subst hm
          have pe : ∀ S, pEq .non (.int (-1)) S = some false := fun S => rfl
          cases hnm : nmB n <;> rw [hnm] at e1 <;> cases hno : numO (Str.ofString ".") <;> rw [hno] at e2 <;> simp [enD, j0, i1, i2, hlen, this, hc, dO, oDd, hg', e1, e2, hnm, mkO, ddD, ddI, itD, mkI, pe, oI]
        · cases hno : numO m with
          | none =>
            rw [hno] at e2
            cases hnm : nmB n <;> rw [hnm] at e1 <;> simp [enD, j0, i1, i2, hlen, this, hc, dO, oDd, hg', e1, e2, hnm, hm, hno, mkO, ddD, ddI, itD, mkI, oI]
          | some i =>
            rw [hno] at e2
            have hi : ¬ i = -1 := by have := numO_nn hno; omega
            cases hnm : nmB n <;> rw [hnm] at e1 <;> simp [enD, j0, i1, i2, hlen, this, hc, dO, oDd, hg', e1, e2, hnm, hm, hno, mkO, ddD, ddI, itD, mkI, oI, hi]
  | [w, n, b, m], hs, hw, _ =>
    have j0 := i0 w _ rfl S hs
    have i1 : ixF (.ref k) (.int 1) S = .ok (.str n) S := by simp [ixF, seqD, hs, atI, ixN]
    have i2 : ixF (.ref k) (.int (-1)) S = .ok (.str m) S := by simp [ixF, seqD, hs, atI, ixN]
    have i3 : ixF (.ref k) (.int 2) S = .ok (.str b) S := by simp [ixF, seqD, hs, atI, ixN]
    simp only [List.length_cons, List.length_nil] at hlen
    have h1 := hw n (by simp)
    have h2 := hw m (by simp)
    have h3 := hw b (by simp)
    have e1 := ev_is_word (S := S) n h1.le h1.ok
    have e2 := ev_lnumber (S := S) m h2.le h2.ok
    have e3 := ev_lseen (S := S) b h3.le h3.ok
    have pe : ∀ S, pEq .non (.int (-1)) S = some false := fun S => rfl
    have x0 : ∀ (x y : D) S, ixF (.tml [x, y]) (.int 0) S = .ok x S := fun x y S => rfl
    have x1 : ∀ (x y : D) S, ixF (.tml [x, y]) (.int 1) S = .ok y S := fun x y S => rfl
    by_cases hc : w = "come"
    · subst hc
      have := in3 "come" S
      rw [come_gl] at this
      by_cases hm : m = "."
      · subst hm
        cases hnm : nmB n <;> rw [hnm] at e1 <;> cases hb : seenO b <;> rw [hb] at e3 <;> cases hno : numO (Str.ofString ".") <;> rw [hno] at e2 <;> simp [enD, j0, i1, i2, i3, hlen, this, dO, oDd, e1, e2, hnm, e3, hb, mkO, ddD, ddI, itD, mkI, sD, pe, oI, x0, x1]
      · cases hno : numO m with
        | none =>
          rw [hno] at e2
          cases hnm : nmB n <;> rw [hnm] at e1 <;> cases hb : seenO b <;> rw [hb] at e3 <;> simp [enD, j0, i1, i2, i3, hlen, this, dO, oDd, e1, e2, hnm, hm, hno, e3, hb, mkO, ddD, ddI, itD, mkI, oI, sD, x0, x1]
        | some i =>
          rw [hno] at e2
          have hi : ¬ i = -1 := by have := numO_nn hno; omega
          cases hnm : nmB n <;> rw [hnm] at e1 <;> cases hb : seenO b <;> rw [hb] at e3 <;> simp [enD, j0, i1, i2, i3, hlen, this, dO, oDd, e1, e2, hnm, hm, hno, e3, hb, mkO, ddD, ddI, itD, mkI, oI, sD, hi, x0, x1]
    · have := in3 w S
      cases hg : gl w with
      | false =>
        rw [hg] at this
        simp [enD, j0, hlen, this, hc, dO, oDd]
      | true =>
        rw [hg] at this
        simp [enD, j0, hlen, this, hc, dO, oDd]
/-! ### the due history -/
def toldX {α : Type} (enc : α → D) : Nat ⊕ List α → List D
  | .inl e => [.str "text", .int (e : Int)]
  | .inr rs => [.str "read", .tup (rs.map enc)]
def stpL (n : Nat) (found : List Dd) (p : Str × Nat) : (List D) ⊕ List Dd :=
  if p.2 + 1 = n ∧ p.1 = "" then .inl (toldX ddD (.inr found)) else match rdD p.1 with
  | none => .inl (toldX ddD (.inl p.2))
  | some d => if p.2 + 1 = n then .inl (toldX ddD (.inl p.2)) else .inr (found ++ [d])
theorem foldX_due {l : Str} : ∀ (ps : List Str) (k : Nat) (found : List Dd), foldX (stpL (k + ps.length + 1)) found ((ps ++ [l]).zipIdx k) = .inl (toldX ddD (match goX rdD k ps with
    | .inl e => .inl e
    | .inr rs => if l = "" then .inr (found ++ rs) else .inl (k + ps.length)))
  | [], k, found => by
    simp only [List.nil_append, List.zipIdx_cons, List.zipIdx_nil, List.length_nil, goX]
    unfold foldX stpL
    by_cases hl : l = ""
    · simp [hl]
    · simp only [hl, and_false, if_false]
      cases rdD l <;> simp
  | p :: ps, k, found => by
    rw [List.cons_append, List.zipIdx_cons]
    unfold foldX goX
    have hne : ¬ (k + 1 = k + (p :: ps).length + 1) := by simp
    have e : stpL (k + (p :: ps).length + 1) found (p, k) = match rdD p with
      | none => .inl (toldX ddD (.inl k))
      | some d => .inr (found ++ [d]) := by
      unfold stpL
      simp only [hne, false_and, if_false]
    rw [e]
    cases h : rdD p with
    | none => rfl
    | some d =>
      dsimp only
      have ih := foldX_due (l := l) ps (k + 1) (found ++ [d])
      rw [show k + 1 + ps.length + 1 = k + (p :: ps).length + 1 by simp; omega] at ih
      rw [ih]
      cases hg : goX rdD (k + 1) ps with
      | inl e => rfl
      | inr rs =>
        simp only [List.append_assoc, List.singleton_append, List.length_cons]
        rw [show k + 1 + ps.length = k + (ps.length + 1) by omega]
theorem b_due_ev {S : Sto} {x : D} {p : Str} {parts : List D} {found : List Dd} {k : Nat} (hp : Tx p) (hf : found.length < 16777216) (hk : k < parts.length) :
    match stpL parts.length found (p, k) with
    | .inr f' => b__law_due_history_1 [some x, some (.ref S.length), some (.ref (S.length + 1)), some (.int (k : Int)), some (.str p), none] (S ++ [.lst (found.map ddD), .lst parts]) =
        .nx [some x, some (.ref S.length), some (.ref (S.length + 1)), some (.int (k : Int)), some (.str p), some (oDd (rdD p))] (S ++ [.lst (f'.map ddD), .lst parts] ++ [.lst ((Txt.split p " ").map .str)])
    | .inl r => ∃ i J, b__law_due_history_1 [some x, some (.ref S.length), some (.ref (S.length + 1)), some (.int (k : Int)), some (.str p), none] (S ++ [.lst (found.map ddD), .lst parts]) = .rt (.ref i) (S ++ J) ∧ S.length ≤ i ∧ (S ++ J)[i]? = some (.lst r) := by
  have hs := sp_split hp
  have hl : (S ++ [Ob.lst (found.map ddD), Ob.lst parts]).length = S.length + 2 := by simp
  have hr := ev_ldeed (S := (S ++ [Ob.lst (found.map ddD), Ob.lst parts]) ++ [.lst ((Txt.split p " ").map .str)]) (k := S.length + 2) (Txt.split p " ") (by rw [← hl]; exact at0) (tx_words hp) (split_ne p " ")
  simp only [List.append_assoc, List.cons_append, List.nil_append] at hr
  have hgl : ∀ J : Sto, gLen [.ref (S.length + 1)] (S ++ .lst (found.map ddD) :: .lst parts :: J) = .ok (.int parts.length) (S ++ .lst (found.map ddD) :: .lst parts :: J) := fun J => by simp [gLen, seqD, at1]
  have hgt : ∀ J : Sto, Ah.gTup [.ref S.length] (S ++ .lst (found.map ddD) :: J) = .ok (.tup (found.map ddD)) (S ++ .lst (found.map ddD) :: J) := fun J => by simp [Ah.gTup, lstD, at0]
  have hkp : ((k : Int) + 1 = parts.length) ↔ k + 1 = parts.length := by omega
  unfold stpL b__law_due_history_1
  by_cases h1 : k + 1 = parts.length
  · by_cases h2 : p = ""
    · rw [if_pos ⟨h1, h2⟩]
      dsimp only
      refine ⟨S.length + 2, [.lst (found.map ddD), .lst parts, .lst [.str "read", .tup (found.map ddD)]], ?_, by omega, ?_⟩
      · simp [hgl, hgt, hkp, h1, h2]
      · simp [toldX]
    · rw [if_neg (fun z => h2 z.2)]
      have fin : ∃ i J, b__law_due_history_1 [some x, some (.ref S.length), some (.ref (S.length + 1)), some (.int (k : Int)), some (.str p), none] (S ++ [.lst (found.map ddD), .lst parts]) = .rt (.ref i) (S ++ J) ∧ S.length ≤ i ∧ (S ++ J)[i]? = some (.lst (toldX ddD (.inl k))) := by
        refine ⟨S.length + 3, [.lst (found.map ddD), .lst parts, .lst ((Txt.split p " ").map .str), .lst [.str "text", .int (k : Int)]], ?_, by omega, ?_⟩
        · unfold b__law_due_history_1
          unfold rdD at *
          cases hd : dO (Txt.split p " ") with
          | none => rw [hd] at hr; simp [hs, hgl, hkp, h1, h2, hr, oDd]
          | some d =>
            rw [hd] at hr
            obtain ⟨tt, htt⟩ : ∃ tt, ddD d = .tup tt := ⟨_, rfl⟩
            simp [hs, hgl, hkp, h1, h2, hr, oDd, htt]
        · simp [toldX]
      cases hd : rdD p with
      | none => exact fin
      | some d =>
        dsimp only
        rw [if_pos h1]
        exact fin
  · rw [if_neg (fun z => h1 z.1)]
    cases hd : rdD p with
    | none =>
      dsimp only
      refine ⟨S.length + 3, [.lst (found.map ddD), .lst parts, .lst ((Txt.split p " ").map .str), .lst [.str "text", .int (k : Int)]], ?_, by omega, ?_⟩
      · unfold rdD at hd
        rw [hd] at hr
        simp [hs, hgl, hkp, h1, hr, oDd]
      · simp [toldX]
    | some d =>
      dsimp only
      rw [if_neg h1]
      dsimp only
      unfold rdD at hd
      rw [hd] at hr
      obtain ⟨tt, htt⟩ : ∃ tt, ddD d = .tup tt := ⟨_, rfl⟩
      simp [hs, hgl, hkp, h1, hr, oDd, gApp, tyD, at0, set0, hf, isTml, htt]
end Lk85

set_option maxHeartbeats 4000000
namespace Lk85
open PySem PySem.Spec PyProof.Rows L2 Ah Pg La PySem.NumText
theorem noRefs_toldX {α : Type} {enc : α → D} (h : ∀ a, noRef (enc a) = true) (o : Nat ⊕ List α) : noRefs (toldX enc o) = true := by
  cases o with
  | inl e => rfl
  | inr rs =>
    show (true && ((noRef (.tup (rs.map enc))) && true)) = true
    rw [show noRef (.tup (rs.map enc)) = noRefs (rs.map enc) by unfold noRef; rfl, noRefs_map _ h]
    rfl
theorem nl_split {x : Str} (hx : Tx x) (S : Sto) : gSplit (.str x) [.str "\n"] S = .ok (.tml ((Txt.split x "\n").map .str)) S := by
  unfold gSplit
  simp only
  rw [if_pos ⟨by decide +kernel, by have := hx.len; omega⟩]
theorem tx_rows {x : Str} (hx : Tx x) : ∀ p ∈ Txt.split x "\n", Tx p := by
  rw [nl_eq]
  exact fun p hp => tx_part hx hp
theorem ev_due_history {S : Sto} {x : Str} (hx : Tx x) {ini : List Str} {l0 : Str} (h : Txt.split x "\n" = ini ++ [l0]) : f__law_due_history [.str x] S = .ok (.tml (toldX ddD (readX rdD ini l0))) S := by
  have hp := tx_rows hx
  have hlen : (Txt.split x "\n").length ≤ 16777216 := by have := split_le x "\n"; have := hx.len; omega
  have hs := nl_split hx
  rw [h] at hp hlen hs
  simp only [List.length_append, List.length_cons, List.length_nil] at hlen
  let parts := (ini ++ [l0]).map D.str
  have hpl : parts.length = ini.length + 1 := by simp [parts]
  let E : List Dd → En := fun _ => [some (.str x), some (.ref S.length), some (.ref (S.length + 1)), none, none, none]
  let F : List Dd → Sto := fun found => S ++ [.lst (found.map ddD), .lst parts]
  have lp := loop_x (g := tupG 2 (consG (nmG 3) (consG (nmG 4) nilG))) (safe := fun S' => S'[S.length + 1]? = some (.lst parts)) (b := gcS [3, 4, 5] b__law_due_history_1) (fun l found => (∀ p ∈ l, Tx p.1 ∧ p.2 < parts.length) ∧ found.length + l.length ≤ 16777216)
    (fun e r => ∃ i J, r = .rt (.ref i) (S ++ J) ∧ S.length ≤ i ∧ (S ++ J)[i]? = some (.lst e)) (enI D.str) E F (stpL parts.length) (fun _ s _ => at1) (fun p l s hs' => by
      refine ⟨[some (.str x), some (.ref S.length), some (.ref (S.length + 1)), some (.int (p.2 : Int)), some (.str p.1), none], rfl, ?_⟩
      have hb := b_due_ev (S := S) (x := .str x) (p := p.1) (parts := parts) (found := s) (k := p.2) (hs'.1 p (by simp)).1 (by have := hs'.2; simp only [List.length_cons] at this; omega) (hs'.1 p (by simp)).2
      cases hd : stpL parts.length s p with
      | inl r =>
        rw [show (p.1, p.2) = p from rfl, hd] at hb
        dsimp only at hb ⊢
        obtain ⟨i, J, e, h1, h2⟩ := hb
        rw [gc_rt e]
        exact ⟨rfl, i, J, rfl, h1, h2⟩
      | inr f' =>
        rw [show (p.1, p.2) = p from rfl, hd] at hb
        dsimp only at hb ⊢
        refine ⟨⟨fun q hq => hs'.1 q (by simp [hq]), ?_⟩, (gc_nx hb ((Chg2.cons (bel_lst (noRefs_dd _)) Chg2.refl).app) ?_).trans rfl⟩
        · have := hs'.2
          have hf : f'.length = s.length + 1 := by
            unfold stpL at hd
            repeat' split at hd
            all_goals first
              | (cases hd; simp; done)
              | cases hd
          simp only [List.length_cons] at this ⊢
          omega
        · simp [belE, D.bel]) (ini ++ [l0]).zipIdx [] ⟨fun p hpm => by
        have := List.mem_zipIdx_iff_getElem?.mp hpm
        exact ⟨hp _ (List.mem_of_getElem? this), by have := (List.getElem?_eq_some_iff.mp this).1; simpa [parts] using this⟩, by simp; omega⟩
  have hfd := foldX_due (l := l0) ini 0 []
  rw [Nat.zero_add, ← hpl] at hfd
  rw [hfd] at lp
  obtain ⟨i, J, e, h1, h2⟩ := lp
  have hfor := for_of (fi := enmI (consA (varF 2) nilA)) (g := tupG 2 (consG (nmG 3) (consG (nmG 4) nilG))) (b := gcS [3, 4, 5] b__law_due_history_1) (r := .rt (.ref i) (S ++ J)) (env := [some (.str x), some (.ref S.length), some (.ref (S.length + 1)), none, none, none]) (S := S ++ [.lst [], .lst parts]) (S1 := S ++ [.lst [], .lst parts]) (enm_ref (i := S.length + 1) (ds := parts) (by simp) at1) at1 (by
    have e' := e
    simp only [E, F] at e'
    rw [show enmD parts = (ini ++ [l0]).zipIdx.map (enI D.str) from enmD_map _ _]
    exact e')
  refine wrap_mk (J := J) (i := i) ?_ h1 (h2.trans ?_) (noRefs_toldX noRef_dd _)
  · unfold s__law_due_history
    simp [-v_for, -List.map_append, enD, hs, hfor, parts]
  · congr 2
    unfold readX
    cases goX rdD 0 ini with
    | inl _ => rfl
    | inr rs => simp
end Lk85

set_option maxHeartbeats 4000000
namespace Lk85
open PySem PySem.Spec PyProof.Rows L2 Ah Pg La PySem.NumText
/-! ### lines -/
def nmO (w : Str) : Option Str := if nmB w = true then some w else none
def readL (x : Str) : Nat ⊕ List Str := if x = "" then .inr [] else goX nmO 0 (Txt.split x " ")
theorem goX_nm : ∀ (ps : List Str) (k : Nat) {rs : List Str}, goX nmO k ps = .inr rs → rs = ps
  | [], k, rs, h => by cases h; rfl
  | p :: ps, k, rs, h => by
    unfold goX nmO at h
    cases hp : nmB p with
    | false => rw [hp] at h; simp at h
    | true =>
      rw [hp] at h
      simp only [if_true] at h
      cases hg : goX nmO (k + 1) ps with
      | inl e => rw [show (goX (fun w => if nmB w = true then some w else none) (k + 1) ps) = goX nmO (k + 1) ps from rfl, hg] at h; cases h
      | inr qs =>
        rw [show (goX (fun w => if nmB w = true then some w else none) (k + 1) ps) = goX nmO (k + 1) ps from rfl, hg] at h
        cases h
        rw [goX_nm ps (k + 1) hg]
theorem ev_read_line {S : Sto} {x : Str} (hx : Tx x) : f_read_line [.str x] S = rdR D.str S (readL x) := by
  have hs := sp_split hx
  have hw := tx_words hx
  have hlen : (Txt.split x " ").length ≤ 16777216 := by have := split_le x " "; have := hx.len; omega
  unfold f_read_line readL
  by_cases h0 : x = ""
  · rw [if_pos h0]
    refine fn_same ?_ rfl rfl
    unfold s_read_line
    simp [enD, h0]
  · rw [if_neg h0]
    have lp := loop_x (g := tupG 2 (consG (nmG 2) (consG (nmG 3) nilG))) (safe := fun S' => S'[S.length]? = some (.lst ((Txt.split x " ").map .str))) (b := gcS [2, 3] b_read_line_1) (fun l (found : List Str) => ∀ p ∈ l, Tx p.1)
      (fun e r => ∃ env J, r = .ex "BadText" [("at", .int ((e : Nat) : Int))] env (S ++ J)) (enI D.str) (fun _ => [some (.str x), some (.ref S.length), none, none]) (fun _ => S ++ [.lst ((Txt.split x " ").map .str)]) (stpX nmO) (fun _ s _ => at0) (fun p l s hs' => by
        refine ⟨[some (.str x), some (.ref S.length), some (.int (p.2 : Int)), some (.str p.1)], rfl, ?_⟩
        have hn := fun S => ev_is_name (S := S) p.1 (hs' p (by simp)).le
        unfold stpX nmO
        cases hp : nmB p.1 with
        | true =>
          simp only [if_true]
          refine ⟨fun q hq => hs' q (by simp [hq]), (gc_nx (e := [some (.str x), some (.ref S.length), some (.int (p.2 : Int)), some (.str p.1)]) (S1 := S ++ [.lst ((Txt.split x " ").map .str)]) (J := []) ?_ Chg2.refl ?_).trans rfl⟩
          · unfold b_read_line_1
            simp [hn, hp]
          · simp [belE, D.bel]
        | false =>
          have e : b_read_line_1 [some (.str x), some (.ref S.length), some (.int (p.2 : Int)), some (.str p.1)] (S ++ [.lst ((Txt.split x " ").map .str)]) = .ex "BadText" [("at", .int (p.2 : Int))] [some (.str x), some (.ref S.length), some (.int (p.2 : Int)), some (.str p.1)] (S ++ [.lst ((Txt.split x " ").map .str)]) := by
            unfold b_read_line_1
            simp [hn, hp]
          simp only [Bool.false_eq_true, if_false]
          rw [gc_ex e]
          exact ⟨rfl, _, _, rfl⟩) (Txt.split x " ").zipIdx [] (fun p hpm => hw _ (List.mem_of_getElem? (List.mem_zipIdx_iff_getElem?.mp hpm)))
    rw [foldX_go] at lp
    have hfor : ∀ r, loopF (tupG 2 (consG (nmG 2) (consG (nmG 3) nilG))) (fun S' => S'[S.length]? = some (.lst ((Txt.split x " ").map .str))) (gcS [2, 3] b_read_line_1) ((Txt.split x " ").zipIdx.map (enI D.str)) [some (.str x), some (.ref S.length), none, none] (S ++ [.lst ((Txt.split x " ").map .str)]) = r →
        forS (enmI (consA (varF 1) nilA)) (tupG 2 (consG (nmG 2) (consG (nmG 3) nilG))) (gcS [2, 3] b_read_line_1) [some (.str x), some (.ref S.length), none, none] (S ++ [.lst ((Txt.split x " ").map .str)]) = r := fun r hr =>
      for_of (S1 := S ++ [.lst ((Txt.split x " ").map .str)]) (enm_ref (i := S.length) (ds := (Txt.split x " ").map .str) (by simp) at0) at0 (by rw [enmD_map]; exact hr)
    cases hg : goX nmO 0 (Txt.split x " ") with
    | inl e =>
      rw [hg] at lp
      obtain ⟨env, J', e1⟩ := lp
      have e1 := hfor _ e1
      refine wrap_ex (J := J') (body_ex (en := env) ?_) rfl
      unfold s_read_line
      simp [-v_for, enD, h0, hs, e1]
    | inr rs =>
      rw [hg] at lp
      have e1 := hfor _ lp.2
      have := goX_nm _ _ hg
      subst this
      refine wrap_app (J := [.lst ((Txt.split x " ").map .str)]) (body_rt ?_) rfl (bel_of (noRefs_strs _))
      unfold s_read_line
      simp [-v_for, enD, h0, hs, e1, Ah.gTup, lstD, at0]
/-- the places of words that are none, from k on -/
def wrongs (k : Nat) (ws : List Str) : List Nat := ((ws.zipIdx k).filter fun p => !nmB p.1).map (·.2)
theorem goX_wrong : ∀ (ws : List Str) (k : Nat), goX nmO k ws = match wrongs k ws with
    | [] => .inr ws
    | e :: _ => .inl e
  | [], k => rfl
  | w :: ws, k => by
    unfold goX wrongs nmO
    rw [List.zipIdx_cons, List.filter_cons]
    have ih := goX_wrong ws (k + 1)
    cases hp : nmB w with
    | false => simp
    | true =>
      simp only [Bool.not_true, Bool.false_eq_true, if_false, if_true]
      rw [show (goX (fun w => if nmB w = true then some w else none) (k + 1) ws) = goX nmO (k + 1) ws from rfl, ih]
      unfold wrongs
      cases List.map (·.2) (List.filter (fun p => !nmB p.1) (ws.zipIdx (k + 1))) <;> rfl
theorem noRefs_nat (l : List Nat) : noRefs (l.map fun i => D.int ((i : Nat) : Int)) = true := noRefs_map _ (fun _ => rfl) l
theorem pNe_nats {l : List Nat} {S : Sto} {k : Nat} (h : S[k]? = some (.lst (l.map fun i => D.int ((i : Nat) : Int)))) : pNe (.ref k) (.tml []) S = some (!l.isEmpty) := by
  have e : (l.map fun i => D.int ((i : Nat) : Int)) = (l.map fun i : Nat => (i : Int)).map D.int := by simp
  unfold pNe
  rw [v_eqd (p := .list ((l.map fun i : Nat => (i : Int)).map .int)) (q := .list []) rfl (by simp only [pdS, h, e, toPs_ints]; rfl) (by simp [pdS, toPs]) sh_ints (by rfl)]
  cases l <;> simp [PyData.eqv, PyData.eqvAll]
theorem atI0 {α : Type} (a : α) (l : List α) : atI (a :: l) 0 = some a := by
  unfold atI ixN
  rw [if_pos (by decide), if_pos (by simp)]
  rfl
theorem ev_due_line {S : Sto} {x : Str} (hx : Tx x) (hxl : x.length ≤ 100000) : f__law_due_line [.str x] S = .ok (.tml (toldX D.str (readL x))) S := by
  have hs := sp_split hx
  have hw := tx_words hx
  have hlen : (Txt.split x " ").length ≤ 16777216 := by have := split_le x " "; have := hx.len; omega
  -- the words
  obtain ⟨ws, hwsx, hwt, hwl, hmul⟩ : ∃ ws : List Str, (readL x = goX nmO 0 ws) ∧ (∀ w ∈ ws, Tx w) ∧ ws.length ≤ 100002 ∧ (opF oMulA (bmF "str" gSplit (varF 0) (consA (cF (.str " ")) nilA)) (callF gInt (consA (opF (prF pNe) (varF 0) (cF (.str ""))) nilA))) [some (.str x), none, none, none] S = .ok (.tml (ws.map .str)) S := by
    by_cases h0 : x = ""
    · subst h0
      refine ⟨[], by unfold readL; rw [if_pos rfl]; rfl, (fun w h => by cases h), (by simp), ?_⟩
      have hm : ∀ S, oMulA (.tml ((Txt.split "" " ").map .str)) (.int 0) S = .ok (.tml []) S := fun S => by
        unfold oMulA
        simp [mlsD]
      simp [hs, hm]
    · refine ⟨Txt.split x " ", by unfold readL; rw [if_neg h0], hw, (by have := split_le x " "; omega), ?_⟩
      have hm : ∀ S, oMulA (.tml ((Txt.split x " ").map .str)) (.int 1) S = .ok (.tml ((Txt.split x " ").map .str)) S := fun S => by
        unfold oMulA
        simp [mlsD, hlen]
      simp [hs, hm, h0]
  rw [hwsx, goX_wrong]
  have hix : ∀ (J : Sto) (i : Nat) (w : Str), ws[i]? = some w → ixF (.ref S.length) (.int (i : Int)) (S ++ .lst (ws.map .str) :: J) = .ok (.str w) (S ++ .lst (ws.map .str) :: J) := fun J i w h => by
    have hi := (List.getElem?_eq_some_iff.mp h).1
    have a1 : atI (ws.map D.str) (i : Int) = some (.str w) := by
      unfold atI ixN
      rw [if_pos (by omega), if_pos (by rw [List.length_map]; omega)]
      show (ws.map D.str)[(i : Int).toNat]? = _
      rw [List.getElem?_map, Int.toNat_natCast, h]
      rfl
    unfold ixF
    simp only [seqD, at0, a1]
  have hlc : lcF (rngI1 (consA (callF gLen (consA (varF 1) nilA)) nilA)) (nmG 3) t__law_due_line_1 (varF 3) [3] [some (.str x), some (.ref S.length), none, none] (S ++ [.lst (ws.map .str)]) = .ok (.tml ((wrongs 0 ws).map fun i => D.int ((i : Nat) : Int))) (S ++ [.lst (ws.map .str)]) := by
    rw [lc_fm (l := ws.zipIdx) (fun p : Str × Nat => D.int (0 + ((p.2 : Nat) : Int))) (fun p : Str × Nat => D.int ((p.2 : Nat) : Int)) (fun p => !nmB p.1) (S1 := S ++ [.lst (ws.map .str)]) (safe := Alw) ?_ trivial (by rw [List.length_zipIdx]; omega) ?_]
    · unfold wrongs
      rw [List.map_map]
      rfl
    · have e : (ws.zipIdx.map fun p : Str × Nat => D.int (0 + ((p.2 : Nat) : Int))) = (List.range ws.length).map fun i : Nat => .int (0 + (i : Int)) := by
        have h1 : ws.zipIdx.map Prod.snd = List.range ws.length := by rw [List.zipIdx_map_snd, List.range_eq_range']
        rw [← h1, List.map_map]
        rfl
      rw [e]
      exact rng1N (by simp [gLen, seqD, at0]) (by omega)
    · intro p hp
      have hm := List.mem_zipIdx_iff_getElem?.mp hp
      have h1 := hix [] p.2 p.1 hm
      have h2 := hwt p.1 (List.mem_of_getElem? hm)
      have h3 := fun S => ev_is_word (S := S) p.1 h2.le h2.ok
      refine ⟨_, rfl, ?_, fun _ => ?_⟩
      · rw [Int.zero_add]
        generalize ((p.2 : Nat) : Int) = z at h1 ⊢
        unfold t__law_due_line_1
        simp [h1, h3]
      · rw [Int.zero_add]
        generalize ((p.2 : Nat) : Int) = z
        simp
  have hne : pNe (.ref (S.length + 1)) (.tml []) (S ++ [.lst (ws.map .str), .lst ((wrongs 0 ws).map fun i => D.int ((i : Nat) : Int)), .lst [.str "read", .tup (ws.map .str)], .lst [.str "text", .int 0]]) = some (!(wrongs 0 ws).isEmpty) := pNe_nats at1
  have x0 : ∀ (x y : D) S, ixF (.tml [x, y]) (.int 0) S = .ok x S := fun x y S => rfl
  have x1 : ∀ (x y : D) S, ixF (.tml [x, y]) (.int 1) S = .ok y S := fun x y S => rfl
  have hl1 : ∀ (a : Ob), (S ++ [a]).length = S.length + 1 := fun a => by simp
  cases hwr : wrongs 0 ws with
  | nil =>
    rw [hwr] at hlc
    have hne : ∀ J, pNe (.ref (S.length + 1)) (.tml []) (S ++ .lst (ws.map .str) :: .lst [] :: J) = some false := fun J => pNe_nats (l := []) at1
    refine wrap_mk (J := [.lst (ws.map .str), .lst [], .lst [.str "read", .tup (ws.map .str)], .lst [.str "text", .int 0]]) (i := S.length + 2) ?_ (by omega) (by simp [toldX]) (noRefs_toldX (fun _ => rfl) _)
    unfold s__law_due_line
    refine (seq_nx (e := [some (.str x), some (.ref S.length), none, none]) (S1 := S ++ [.lst (ws.map .str)]) ?_).trans ?_
    · have := hmul
      simp only [enD, List.map_cons, List.map_nil, List.length_cons, List.length_nil] at this ⊢
      simp only [v_set, v_al]
      rw [show ([some (D.str x)] ++ List.replicate (4 - (0 + 1)) none : En) = [some (.str x), none, none, none] from rfl, this]
      rfl
    refine (seq_nx (e := [some (.str x), some (.ref S.length), some (.ref (S.length + 1)), none]) (S1 := S ++ [.lst (ws.map .str), .lst []]) ?_).trans ?_
    · simp only [v_set, v_al, hlc]
      simp
    · have hg : ∀ J, Ah.gTup [.ref S.length] (S ++ .lst (ws.map .str) :: J) = .ok (.tup (ws.map .str)) (S ++ .lst (ws.map .str) :: J) := fun J => by simp [Ah.gTup, lstD, at0]
      have ha : ∀ J, oAddA (.ref (S.length + 1)) (.tml [.int 0]) (S ++ .lst (ws.map .str) :: .lst [] :: J) = .ok (.tml [.int 0]) (S ++ .lst (ws.map .str) :: .lst [] :: J) := fun J => by simp [oAddA, mlsD, at1]
      have hi : ∀ S, ixF (.tml [.int 0]) (.int 0) S = .ok (.int 0) S := fun S => rfl
      simp [hg, ha, hi, hne, x0]
  | cons e r =>
    rw [hwr] at hlc
    have hne : ∀ J, pNe (.ref (S.length + 1)) (.tml []) (S ++ .lst (ws.map .str) :: .lst ((e :: r).map fun i => D.int ((i : Nat) : Int)) :: J) = some true := fun J => pNe_nats (l := e :: r) at1
    refine wrap_mk (J := [.lst (ws.map .str), .lst ((e :: r).map fun i => D.int ((i : Nat) : Int)), .lst [.str "read", .tup (ws.map .str)], .lst [.str "text", .int (e : Int)]]) (i := S.length + 3) ?_ (by omega) (by simp [toldX]) (noRefs_toldX (fun _ => rfl) _)
    unfold s__law_due_line
    refine (seq_nx (e := [some (.str x), some (.ref S.length), none, none]) (S1 := S ++ [.lst (ws.map .str)]) ?_).trans ?_
    · have := hmul
      simp only [v_set, v_al]
      rw [show enD 4 [D.str x] = [some (.str x), none, none, none] from rfl, this]
      rfl
    refine (seq_nx (e := [some (.str x), some (.ref S.length), some (.ref (S.length + 1)), none]) (S1 := S ++ [.lst (ws.map .str), .lst ((e :: r).map fun i => D.int ((i : Nat) : Int))]) ?_).trans ?_
    · simp only [v_set, v_al, hlc]
      simp
    · have hrl : r.length + 1 + 1 ≤ 16777216 := by
        have : (wrongs 0 ws).length ≤ ws.length := by
          unfold wrongs
          rw [List.length_map]
          exact Nat.le_trans (List.length_filter_le _ _) (by simp)
        rw [hwr] at this
        simp only [List.length_cons] at this
        omega
      have hg : ∀ J, Ah.gTup [.ref S.length] (S ++ .lst (ws.map .str) :: J) = .ok (.tup (ws.map .str)) (S ++ .lst (ws.map .str) :: J) := fun J => by simp [Ah.gTup, lstD, at0]
      have ha : ∀ J, oAddA (.ref (S.length + 1)) (.tml [.int 0]) (S ++ .lst (ws.map .str) :: .lst ((e :: r).map fun i => D.int ((i : Nat) : Int)) :: J) = .ok (.tml (((e :: r).map fun i => D.int ((i : Nat) : Int)) ++ [.int 0])) (S ++ .lst (ws.map .str) :: .lst ((e :: r).map fun i => D.int ((i : Nat) : Int)) :: J) := fun J => by
        unfold oAddA
        simp only [mlsD, at1]
        rw [if_pos (by simpa using hrl)]
      have hi : ∀ S, ixF (.tml (((e :: r).map fun i => D.int ((i : Nat) : Int)) ++ [.int 0])) (.int 0) S = .ok (.int (e : Int)) S := fun S => by
        unfold ixF
        simp only [seqD, List.map_cons, List.cons_append, atI0]
      simp only [v_ret, v_al, v_op, v_lst, v_consA, v_nilA, v_call, Ah.v_var, v_c, v_pr, v_bind]
      simp [-List.map_cons, -List.cons_append, hg, ha, hi, hne, x1]
end Lk85

set_option maxHeartbeats 4000000
namespace Pg
open PySem PySem.Spec PyProof.Rows L2 Ah PySem.NumText
/-! ### clashes -/
inductive Cl where
  | late (n : Str)
  | many (w : Str) (ns : List Str)
def clD : Cl → D
  | .late n => .tup [.str "late", .str n]
  | .many w ns => .tup [.str w, .tup (ns.map .str)]
def clW : Cl → List Str
  | .late n => ["late", n]
  | .many w ns => w :: ns
def ClOk : Cl → Prop
  | .late n => nmB n = true
  | .many w ns => (w = "ring" ∨ w = "between") ∧ 2 ≤ ns.length ∧ ns.length ≤ 30 ∧ ∀ n ∈ ns, nmB n = true
theorem noRef_cl (c : Cl) : noRef (clD c) = true := by
  cases c with
  | late n => rfl
  | many w ns =>
    show (true && ((noRef (.tup (ns.map .str))) && true)) = true
    rw [show noRef (.tup (ns.map .str)) = noRefs (ns.map .str) by unfold noRef; rfl, noRefs_strs]
    rfl
def clO : List Str → Option Cl
  | [] => none
  | w :: ns => if ns.all nmB = true then (if w = "late" ∧ ns.length = 1 then some (.late (ns.headD "")) else if (w = "ring" ∨ w = "between") ∧ 1 < ns.length then some (.many w ns) else none) else none
theorem clW_nm {c : Cl} (h : ClOk c) : ∀ w ∈ clW c, nmB w = true := by
  intro w hw
  cases c with
  | late n =>
    simp only [clW, List.mem_cons, List.not_mem_nil, or_false] at hw
    rcases hw with rfl | rfl
    · decide +kernel
    · exact h
  | many v ns =>
    obtain ⟨h1, h2, h3, h4⟩ := h
    rcases List.mem_cons.mp hw with rfl | hw
    · rcases h1 with rfl | rfl <;> decide +kernel
    · exact h4 w hw
theorem clO_back {c : Cl} (h : ClOk c) : clO (clW c) = some c := by
  cases c with
  | late n =>
    have h : nmB n = true := h
    simp [clW, clO, h]
  | many w ns =>
    obtain ⟨h1, h2, h3, h4⟩ := h
    have ha : ns.all nmB = true := List.all_eq_true.mpr h4
    have hl : ¬ (w = "late" ∧ ns.length = 1) := fun z => by omega
    unfold clW clO
    simp only
    rw [if_pos ha, if_neg hl, if_pos ⟨h1, by omega⟩]
/-- words without bound, joined -/
theorem rT_tl' (ws : List Str) : TL.tl (rT ws) = TL.joinL [32] (ws.map TL.tl) := rT_tl ws
theorem nm_split {ws : List Str} (hne : ws ≠ []) (h : ∀ w ∈ ws, nmB w = true) : Txt.split (rT ws) " " = ws := by
  refine TL.split_join (s := 32) (S := []) tl_sp (by decide +kernel) hne fun p hp hc => ?_
  have := (ltr_iff 32).mp (nmB_ltr (h p hp) 32 hc)
  omega
theorem nm_asc {ws : List Str} (h : ∀ w ∈ ws, nmB w = true) : Asc (rT ws) := fun c hc => by
  rw [rT_tl] at hc
  rcases joinL_mem hc with hc | ⟨l, hl, hc⟩
  · rw [List.mem_singleton.mp hc]; decide
  · obtain ⟨w, hw, rfl⟩ := List.mem_map.mp hl
    have := (ltr_iff c).mp (nmB_ltr (h w hw) c hc)
    omega
theorem nm_len {ws : List Str} (h : ∀ w ∈ ws, nmB w = true) : (rT ws).length ≤ 9 * ws.length := by
  rw [TL.len_tl, rT_tl]
  have := joinL_len (s := [32]) (n := 8) (ls := ws.map TL.tl) fun l hl => by
    obtain ⟨w, hw, rfl⟩ := List.mem_map.mp hl
    have := nmB_le (h w hw)
    rwa [TL.len_tl] at this
  rwa [List.length_map] at this
theorem ev_clash_text {S : Sto} {c : Cl} (h : ClOk c) : f_clash_text [clD c] S = .ok (.str (rT (clW c))) S := by
  refine fn_same ?_ rfl rfl
  have hn := clW_nm h
  unfold s_clash_text
  cases c with
  | late n =>
    have h : nmB n = true := h
    have hl := nmB_le h
    have e : rT (clW (.late n)) = ("late " : Str) ++ n := by
      apply TL.ext_tl
      rw [rT_tl, TL.tl_append]
      simp only [clW, List.map_cons, List.map_nil, TL.joinL]
      rw [show TL.tl ("late" : Str) = [108, 97, 116, 101] from by decide +kernel, show TL.tl ("late " : Str) = [108, 97, 116, 101, 32] from by decide +kernel]
      simp
    rw [e]
    have i0 : ∀ S, ixF (clD (.late n)) (.int 0) S = .ok (.str "late") S := fun S => rfl
    have i1 : ∀ S, ixF (clD (.late n)) (.int 1) S = .ok (.str n) S := fun S => rfl
    have ha : ∀ S, oAddA (.str "late ") (.str n) S = .ok (.str ("late " ++ n)) S := fun S => by
      unfold oAddA
      simp only
      rw [if_pos (by rw [show ("late " : Str).length = 5 from by decide +kernel]; omega)]
    simp [enD, i0, i1, ha]
  | many w ns =>
    obtain ⟨h1, h2, h3, h4⟩ := h
    have i0 : ∀ S, ixF (clD (.many w ns)) (.int 0) S = .ok (.str w) S := fun S => rfl
    have i1 : ∀ S, ixF (clD (.many w ns)) (.int 1) S = .ok (.tup (ns.map .str)) S := fun S => rfl
    have hw : w ≠ "late" := by rcases h1 with rfl | rfl <;> decide +kernel
    have ha : ∀ S, oAddA (.tup [.str w]) (.tup (ns.map .str)) S = .ok (.tup ((w :: ns).map .str)) S := fun S => by
      unfold oAddA
      simp only
      rw [if_pos (by simp; omega)]
      rfl
    have hj : ∀ S, gJoin (.str " ") [.tup ((w :: ns).map .str)] S = .ok (.str (rT (w :: ns))) S := fun S => by
      unfold gJoin
      simp only [seqD, Option.bind_some, strsD_map]
      have hs := sum_le (ys := w :: ns) (n := 8) fun y hy => nmB_le (hn y hy)
      have : (w :: ns).length ≤ 31 := by simp; omega
      rw [if_pos (by rw [show (" " : Str).length = 1 from by decide +kernel]; omega)]
      rfl
    simp [-List.map_cons, enD, i0, i1, hw, ha, hj, clW]
end Pg

set_option maxHeartbeats 4000000
namespace Lk85
open PySem PySem.Spec PyProof.Rows L2 Ah Pg La PySem.NumText
def clR (S : Sto) : Option Cl → Ah.R D
  | none => .ex "BadText" [("at", .int 0)] S
  | some c => .ok (clD c) S
def toldC : Option Cl → List D
  | none => [.str "text", .int 0]
  | some c => [.str "read", clD c]
/-- what is left of words: those that are no names -/
theorem bad_list {ws : List Str} {S : Sto} (hw : ∀ w ∈ ws, Tx w) : pNe (.tml ((ws.filter fun w => !nmB w).map .str)) (.tml []) S = some (!ws.all nmB) ∧ pEq (.tml ((ws.filter fun w => !nmB w).map .str)) (.tml []) S = some (ws.all nmB) := by
  have h := pEq_strs0 (ys := ws.filter fun w => !nmB w) (S := S) fun y hy => (hw y (List.mem_filter.mp hy).1).ok
  have e : (ws.filter fun w => !nmB w).isEmpty = ws.all nmB := by
    clear hw h
    induction ws with
    | nil => rfl
    | cons c l ih => cases hc : nmB c <;> simp [hc, ih]
  rw [e] at h
  exact ⟨by unfold pNe; rw [h]; rfl, h⟩
theorem in2 (w : Str) (S : Sto) : pIn (.str w) (.tup [.str "ring", .str "between"]) S = some (decide (w = "ring") || decide (w = "between")) := by
  unfold pIn
  simp [seqD, flatD, eqD, beq_dec]
  simp only [eq_comm (a := w)]
theorem in2l (w : Str) (S : Sto) : pIn (.str w) (.tml [.str "ring", .str "between"]) S = some (decide (w = "ring") || decide (w = "between")) := by
  unfold pIn
  simp [seqD, flatD, eqD, beq_dec]
  simp only [eq_comm (a := w)]
theorem clO_cases (w : Str) (ns : List Str) : (ns.all nmB = false ∧ clO (w :: ns) = none) ∨ (ns.all nmB = true ∧ ((w = "late" ∧ ∃ n, ns = [n] ∧ clO (w :: ns) = some (.late n)) ∨ (¬ (w = "late" ∧ ns.length = 1) ∧ (w = "ring" ∨ w = "between") ∧ 1 < ns.length ∧ clO (w :: ns) = some (.many w ns)) ∨ (¬ (w = "late" ∧ ns.length = 1) ∧ ¬ ((w = "ring" ∨ w = "between") ∧ 1 < ns.length) ∧ clO (w :: ns) = none))) := by
  cases ha : ns.all nmB with
  | false => exact .inl ⟨rfl, if_neg (by rw [ha]; simp)⟩
  | true =>
    refine .inr ⟨rfl, ?_⟩
    have e0 : clO (w :: ns) = (if w = "late" ∧ ns.length = 1 then some (.late (ns.headD "")) else if (w = "ring" ∨ w = "between") ∧ 1 < ns.length then some (.many w ns) else none) := if_pos ha
    rw [e0]
    by_cases hc : w = "late" ∧ ns.length = 1
    · obtain ⟨n, rfl⟩ : ∃ n, ns = [n] := List.length_eq_one_iff.mp hc.2
      exact .inl ⟨hc.1, n, rfl, if_pos hc⟩
    · by_cases hd : (w = "ring" ∨ w = "between") ∧ 1 < ns.length
      · exact .inr (.inl ⟨hc, hd.1, hd.2, by rw [if_neg hc, if_pos hd]⟩)
      · exact .inr (.inr ⟨hc, hd, by rw [if_neg hc, if_neg hd]⟩)
theorem ev_read_clash {S : Sto} {x : Str} (hx : Tx x) : f_read_clash [.str x] S = clR S (clO (Txt.split x " ")) := by
  have hs := sp_split hx
  have hw := tx_words hx
  have hlen : (Txt.split x " ").length ≤ 16777216 := by have := split_le x " "; have := hx.len; omega
  obtain ⟨w, ns, hwn⟩ : ∃ w ns, Txt.split x " " = w :: ns := by
    cases h : Txt.split x " " with
    | nil => exact absurd h (split_ne x " ")
    | cons w ns => exact ⟨w, ns, rfl⟩
  rw [hwn] at hs hw hlen ⊢
  simp only [List.length_cons] at hlen
  have hwn := fun n hn => hw n (List.mem_cons_of_mem _ hn)
  have h1 : asgStS 2 1 (bmF "str" gSplit (varF 0) (consA (cF (.str " ")) nilA)) (consG (nmG 1) (consG (nmG 2) nilG)) [some (.str x), none, none, none] S =
      .nx [some (.str x), some (.str w), some (.ref S.length), none] (S ++ [.lst (ns.map .str)]) := by
    have d1 : List.drop ns.length (ns.map D.str) = [] := List.drop_eq_nil_of_le (by simp)
    have t1 : List.take ns.length (ns.map D.str) = ns.map D.str := List.take_of_length_le (by simp)
    unfold asgStS
    simp [hs, lstD, midN, d1, t1]
  have hlc : lcF (seqI (varF 2)) (nmG 3) t_read_clash_1 (varF 3) [3] [some (.str x), some (.str w), some (.ref S.length), none] (S ++ [.lst (ns.map .str)]) = .ok (.tml ((ns.filter fun w => !nmB w).map .str)) (S ++ [.lst (ns.map .str)]) := by
    refine lc_fm (l := ns) .str .str (fun w => !nmB w) (safe := fun S' => S'[S.length]? = some (.lst (ns.map .str))) (S1 := S ++ [.lst (ns.map .str)]) ?_ at0 (by omega) ?_
    · exact seq_ref (i := S.length) (ds := ns.map .str) (by simp) at0
    intro n hn
    refine ⟨_, rfl, ?_, fun _ => rfl⟩
    have h3 := fun S => ev_is_name (S := S) n (hwn n hn).le
    unfold t_read_clash_1
    simp [h3]
  have hb := (bad_list (S := S ++ [.lst (ns.map .str)]) hwn).1
  have hl : gLen [.ref S.length] (S ++ [.lst (ns.map .str)]) = .ok (.int ns.length) (S ++ [.lst (ns.map .str)]) := by simp [gLen, seqD, at0]
  have hg : Ah.gTup [.ref S.length] (S ++ [.lst (ns.map .str)]) = .ok (.tup (ns.map .str)) (S ++ [.lst (ns.map .str)]) := by simp [Ah.gTup, lstD, at0]
  have hin := in2 w (S ++ [.lst (ns.map .str)])
  unfold f_read_clash
  rcases clO_cases w ns with ⟨ha, e⟩ | ⟨ha, ⟨hwl, n, hn, e⟩ | ⟨hc, hr, hd, e⟩ | ⟨hc, hd, e⟩⟩
  · rw [e]
    rw [ha] at hb
    refine wrap_ex (J := [.lst (ns.map .str)]) (body_ex (en := [some (.str x), some (.str w), some (.ref S.length), none]) ?_) rfl
    unfold s_read_clash
    simp [enD, h1, hlc, hb]
  · rw [e]
    rw [ha] at hb
    subst hwl hn
    refine wrap_app (J := [.lst ([n].map .str)]) (body_rt ?_) rfl rfl
    unfold s_read_clash
    have hi : ixF (.ref S.length) (.int 0) (S ++ [.lst ([n].map .str)]) = .ok (.str n) (S ++ [.lst ([n].map .str)]) := by simp [ixF, seqD, atI, ixN]
    rw [show enD 4 [D.str x] = [some (.str x), none, none, none] from rfl]
    simp only [List.length_cons, List.length_nil] at hl
    simp only [List.map_cons, List.map_nil] at h1 hlc hb hl hi ⊢
    simp [h1, hlc, hb, hl, hi, clD]
  · rw [e]
    rw [ha] at hb
    have hdi : (1 : Int) < ns.length := by omega
    have hwl : w ≠ "late" := by rcases hr with rfl | rfl <;> decide +kernel
    refine wrap_app (J := [.lst (ns.map .str)]) (body_rt ?_) rfl (bel_of (noRef_cl (.many w ns)))
    unfold s_read_clash
    have hin : pIn (.str w) (.tup [.str "ring", .str "between"]) (S ++ [.lst (ns.map .str)]) = some true := by
      rw [hin]
      rcases hr with h | h <;> simp [h]
    simp [enD, h1, hlc, hb, hl, hwl, hin, hdi, hg, clD]
  · rw [e]
    rw [ha] at hb
    refine wrap_ex (J := [.lst (ns.map .str)]) (body_ex (en := [some (.str x), some (.str w), some (.ref S.length), none]) ?_) rfl
    unfold s_read_clash
    by_cases hwl : w = "late"
    · have hn1 : ¬ (ns.length : Int) = 1 := fun z => hc ⟨hwl, by omega⟩
      subst hwl
      rw [show (decide (Str.ofString "late" = "ring") || decide (Str.ofString "late" = "between")) = false from by decide +kernel] at hin
      simp [enD, h1, hlc, hb, hl, hn1, hin]
    · by_cases hr : w = "ring" ∨ w = "between"
      · have hn1 : ¬ (1 : Int) < ns.length := fun z => hd ⟨hr, by omega⟩
        have hin : pIn (.str w) (.tup [.str "ring", .str "between"]) (S ++ [.lst (ns.map .str)]) = some true := by
          rw [hin]
          rcases hr with h | h <;> simp [h]
        simp [enD, h1, hlc, hb, hl, hwl, hin, hn1]
      · have hin : pIn (.str w) (.tup [.str "ring", .str "between"]) (S ++ [.lst (ns.map .str)]) = some false := by
          rw [hin]
          simp only [not_or] at hr
          simp [hr.1, hr.2]
        simp [enD, h1, hlc, hb, hl, hwl, hin]
theorem ev_due_clash {S : Sto} {x : Str} (hx : Tx x) : f__law_due_clash [.str x] S = .ok (.tml (toldC (clO (Txt.split x " ")))) S := by
  have hs := sp_split hx
  have hw := tx_words hx
  have hlen : (Txt.split x " ").length ≤ 16777216 := by have := split_le x " "; have := hx.len; omega
  obtain ⟨w, ns, hwn⟩ : ∃ w ns, Txt.split x " " = w :: ns := by
    cases h : Txt.split x " " with
    | nil => exact absurd h (split_ne x " ")
    | cons w ns => exact ⟨w, ns, rfl⟩
  rw [hwn] at hs hw hlen ⊢
  simp only [List.length_cons] at hlen
  have hwn := fun n hn => hw n (List.mem_cons_of_mem _ hn)
  have hcut : ∀ J, slD (S ++ .lst ((w :: ns).map .str) :: J) (.ref S.length) (some 1) none = .ok (.tml (ns.map .str)) (S ++ .lst ((w :: ns).map .str) :: J) := fun J => by
    unfold slD lstD
    simp only [at0]
    rw [cutD_lo _ _ (by decide)]
    rfl
  have hlc : lcF (seqI (slF (varF 1) (soO (cF (.int 1))) noO)) (nmG 3) t__law_due_clash_1 (varF 3) [3] [some (.str x), some (.ref S.length), none, none] (S ++ [.lst ((w :: ns).map .str)]) = .ok (.tml ((ns.filter fun w => !nmB w).map .str)) (S ++ [.lst ((w :: ns).map .str)]) := by
    refine lc_fm (l := ns) .str .str (fun w => !nmB w) (safe := Alw) (S1 := S ++ [.lst ((w :: ns).map .str)]) ?_ trivial (by omega) ?_
    · have := hcut []
      unfold seqI
      simp [-List.map_cons, this, itemsOf]
    · intro n hn
      refine ⟨_, rfl, ?_, fun _ => rfl⟩
      have h3 := fun S => ev_is_word (S := S) n (hwn n hn).le (hwn n hn).ok
      unfold t__law_due_clash_1
      simp [h3]
  have hb := (bad_list (S := S ++ [.lst ((w :: ns).map .str)]) hwn).2
  have hl : ∀ J, gLen [.ref S.length] (S ++ .lst ((w :: ns).map .str) :: J) = .ok (.int (ns.length + 1 : Nat)) (S ++ .lst ((w :: ns).map .str) :: J) := fun J => by simp [gLen, seqD, at0]
  have hi0 : ∀ J, ixF (.ref S.length) (.int 0) (S ++ .lst ((w :: ns).map .str) :: J) = .ok (.str w) (S ++ .lst ((w :: ns).map .str) :: J) := fun J => by
    unfold ixF
    simp only [seqD, at0, List.map_cons, atI0]
  have hin := fun S => in2l w S
  have head : ∀ (b : Bool) r, ns.all nmB = b → (seqS (ifS (andF (tstF (varF 2)) (andF (tstF (opF (prF pEq) (opF ixF (varF 1) (cF (.int 0))) (cF (.str "late")))) (tstF (opF (prF pEq) (callF gLen (consA (varF 1) nilA)) (cF (.int 2)))))) (retS (alF (lstF (consA (cF (.str "read")) (consA (tupF (consA (cF (.str "late")) (consA (opF ixF (varF 1) (cF (.int 1))) nilA))) nilA))))) nopS) (seqS (ifS (andF (tstF (varF 2)) (andF (tstF (opF (prF pIn) (opF ixF (varF 1) (cF (.int 0))) (lstF (consA (cF (.str "ring")) (consA (cF (.str "between")) nilA))))) (tstF (opF (prF pGt) (callF gLen (consA (varF 1) nilA)) (cF (.int 2)))))) (retS (alF (lstF (consA (cF (.str "read")) (consA (tupF (consA (opF ixF (varF 1) (cF (.int 0))) (consA (callF gTup (consA (slF (varF 1) (soO (cF (.int 1))) noO) nilA)) nilA))) nilA))))) nopS) (retS (alF (lstF (consA (cF (.str "text")) (consA (cF (.int 0)) nilA))))))) [some (.str x), some (.ref S.length), some (.bl b), none] (S ++ [.lst ((w :: ns).map .str)]) = r →
      s__law_due_clash (enD 4 [.str x]) S = r := fun b r hb' h => by
    rw [hb'] at hb
    unfold s__law_due_clash
    refine (seq_nx (e := [some (.str x), some (.ref S.length), none, none]) (S1 := S ++ [.lst ((w :: ns).map .str)]) ?_).trans ?_
    · simp [enD, hs]
    refine (seq_nx (e := [some (.str x), some (.ref S.length), some (.bl b), none]) (S1 := S ++ [.lst ((w :: ns).map .str)]) ?_).trans h
    simp [-List.map_cons, hlc, hb]
  have lenI : (((ns.length + 1 : Nat) : Int) = 2) ↔ ns.length = 1 := by omega
  have lenJ : ((2 : Int) < ((ns.length + 1 : Nat) : Int)) ↔ 1 < ns.length := by omega
  unfold f__law_due_clash
  rcases clO_cases w ns with ⟨ha, e⟩ | ⟨ha, ⟨hwl, n, hn, e⟩ | ⟨hc, hr, hd, e⟩ | ⟨hc, hd, e⟩⟩
  · rw [e]
    refine wrap_mk (J := [.lst ((w :: ns).map .str), .lst [.str "text", .int 0]]) (i := S.length + 1) (head false _ ha ?_) (by omega) (by simp [toldC]) rfl
    simp [-List.map_cons]
  · rw [e]
    subst hwl hn
    refine wrap_mk (J := [.lst ([Str.ofString "late", n].map .str), .lst [.str "read", clD (.late n)]]) (i := S.length + 1) (head true _ ha ?_) (by omega) (by simp [toldC]) rfl
    have hi : ∀ J, ixF (.ref S.length) (.int 1) (S ++ .lst ([Str.ofString "late", n].map .str) :: J) = .ok (.str n) (S ++ .lst ([Str.ofString "late", n].map .str) :: J) := fun J => by simp [ixF, seqD, atI, ixN]
    simp [-List.map_cons, hi0, hl, hi, clD]
  · rw [e]
    have hwl : w ≠ "late" := by rcases hr with rfl | rfl <;> decide +kernel
    have hin : ∀ S, pIn (.str w) (.tml [.str "ring", .str "between"]) S = some true := fun S => by
      rw [hin]
      rcases hr with h | h <;> simp [h]
    have h1 := lenJ.mpr hd
    refine wrap_mk (J := [.lst ((w :: ns).map .str), .lst [.str "read", clD (.many w ns)]]) (i := S.length + 1) (head true _ ha ?_) (by omega) (by simp [toldC]) (by
      show (true && (noRef (clD (.many w ns)) && true)) = true
      rw [noRef_cl]
      rfl)
    have hg : ∀ S, Ah.gTup [.tml (ns.map .str)] S = .ok (.tup (ns.map .str)) S := fun S => rfl
    generalize ((ns.length + 1 : Nat) : Int) = z at hl h1
    simp [-List.map_cons, hi0, hl, hwl, hin, h1, hcut, hg, clD]
  · rw [e]
    refine wrap_mk (J := [.lst ((w :: ns).map .str), .lst [.str "text", .int 0]]) (i := S.length + 1) (head true _ ha ?_) (by omega) (by simp [toldC]) rfl
    by_cases hwl : w = "late"
    · have hn1 : ¬ ((ns.length + 1 : Nat) : Int) = 2 := fun z => hc ⟨hwl, lenI.mp z⟩
      have hin : ∀ S, pIn (.str w) (.tml [.str "ring", .str "between"]) S = some false := fun S => by
        rw [hin, hwl]
        decide +kernel
      generalize ((ns.length + 1 : Nat) : Int) = z at hl hn1
      simp [-List.map_cons, hi0, hl, hin, hn1]
    · by_cases hr : w = "ring" ∨ w = "between"
      · have hn1 : ¬ (2 : Int) < ((ns.length + 1 : Nat) : Int) := fun z => hd ⟨hr, lenJ.mp z⟩
        have hin : ∀ S, pIn (.str w) (.tml [.str "ring", .str "between"]) S = some true := fun S => by
          rw [hin]
          rcases hr with h | h <;> simp [h]
        generalize ((ns.length + 1 : Nat) : Int) = z at hl hn1
        simp [-List.map_cons, hi0, hl, hwl, hin, hn1]
      · have hin : ∀ S, pIn (.str w) (.tml [.str "ring", .str "between"]) S = some false := fun S => by
          rw [hin]
          simp only [not_or] at hr
          simp [hr.1, hr.2]
        simp [-List.map_cons, hi0, hl, hwl, hin]
end Lk85

set_option maxHeartbeats 4000000
namespace Pg
open PySem PySem.Spec PyProof.Rows L2 Ah PySem.NumText
theorem digs_lt : ∀ (cs : List Nat) (a : Nat), (∀ c ∈ cs, 48 ≤ c ∧ c ≤ 57) → cs.foldl (fun acc c => acc * 10 + (c - 48)) a < (a + 1) * 10 ^ cs.length
  | [], a, _ => by simp
  | c :: cs, a, h => by
    have hc := h c (by simp)
    have ih := digs_lt cs (a * 10 + (c - 48)) fun d hd => h d (by simp [hd])
    have e : (a * 10 + (c - 48) + 1) ≤ (a + 1) * 10 := by omega
    have := Nat.mul_le_mul_right (10 ^ cs.length) e
    simp only [List.foldl_cons, List.length_cons, Nat.pow_succ]
    calc _ < (a * 10 + (c - 48) + 1) * 10 ^ cs.length := ih
      _ ≤ (a + 1) * 10 * 10 ^ cs.length := this
      _ = _ := by rw [Nat.mul_assoc, Nat.mul_comm 10]
theorem numO_lt {x : Str} {i : Int} (h : numO x = some i) : i < 10 ^ 10 := by
  unfold numO at h
  split at h
  · rename_i hc
    split at h
    · cases h
    · injection h with h
      have := digs_lt x.cps.toList 0 fun c hc' => (fig_iff c).mp (List.all_eq_true.mp hc.2.2 c hc')
      have hl : x.cps.toList.length = x.length := Array.length_toList
      have h10 : x.length ≤ 10 := by omega
      have hp : 10 ^ x.cps.toList.length ≤ 10 ^ 10 := Nat.pow_le_pow_right (by decide) (by omega)
      have hd : digitsVal x.cps.toList = x.cps.toList.foldl (fun acc c => acc * 10 + (c - 48)) 0 := rfl
      rw [← h, hd]
      have : x.cps.toList.foldl (fun acc c => acc * 10 + (c - 48)) 0 < 10 ^ 10 := by omega
      exact_mod_cast this
  · cases h
theorem seenO_nm {x y : Str} (h : seenO x = some y) : y = "" ∨ nmB y = true := by
  unfold seenO at h
  split at h
  · injection h with h
    exact .inl h.symm
  · split at h
    · rename_i hn
      injection h with h
      subst h
      exact .inr hn
    · cases h
/-! ### repr -/
theorem gd_it {x : It} (h : ItOk x) : Gd (itD x) 0 40 := by
  cases x with
  | non => exact Gd.non
  | nm s =>
    rcases h with h | h
    · subst h
      exact Gd.str (by decide +kernel) (by decide +kernel)
    · exact Gd.str (nmB_tx h).ok (by have := nmB_le h; omega)
  | num i => exact Gd.int (by have := h.1; have := h.2; omega)
theorem gds_its : ∀ {l : List It}, (∀ x ∈ l, ItOk x) → Gds (l.map itD) 0 (41 * l.length)
  | [], _ => Gds.nil
  | x :: l, h => by
    rw [List.map_cons]
    refine Gds.cons (gd_it (h x (by simp))) (gds_its fun y hy => h y (by simp [hy])) ?_
    simp only [List.length_cons]
    omega
theorem gd_dd {d : Dd} (h : DdOk d) : Gd (ddD d) 1 (41 * (ddI d).length) := Gd.tup (gds_its (dd_its h))
/-- the weight of deeds -/
def wD (l : List Dd) : Nat := (l.map fun d => 41 * (ddI d).length + 1).sum
theorem gds_dds : ∀ {l : List Dd}, (∀ d ∈ l, DdOk d) → Gds (l.map ddD) 1 (wD l)
  | [], _ => Gds.nil
  | d :: l, h => by
    rw [List.map_cons]
    refine Gds.cons (gd_dd (h d (by simp))) (gds_dds fun y hy => h y (by simp [hy])) ?_
    show _ ≤ wD (d :: l)
    unfold wD
    simp only [List.map_cons, List.sum_cons]
    omega
theorem wD_le (l : List Dd) : wD l ≤ 165 * l.length := by
  unfold wD
  induction l with
  | nil => simp
  | cons d l ih =>
    have : (ddI d).length ≤ 4 := by cases d <;> simp [ddI]
    simp only [List.map_cons, List.sum_cons, List.length_cons]
    omega
theorem gds_nms : ∀ {l : List Str}, (∀ n ∈ l, nmB n = true) → Gds (l.map .str) 0 (9 * l.length)
  | [], _ => Gds.nil
  | x :: l, h => by
    rw [List.map_cons]
    refine Gds.cons (w1 := 8) (Gd.str (nmB_tx (h x (by simp))).ok (nmB_le (h x (by simp)))) (gds_nms fun y hy => h y (by simp [hy])) ?_
    simp only [List.length_cons]
    omega
end Pg
namespace Lk85
open PySem PySem.Spec PyProof.Rows L2 Ah Pg La PySem.NumText
theorem mkO_ok {k : Str} {m : Option Int} (h : mkO k = some m) : mkOk m := by
  unfold mkO at h
  split at h
  · cases h; trivial
  · cases hn : numO k with
    | none => rw [hn] at h; cases h
    | some i =>
      rw [hn] at h
      cases h
      exact ⟨numO_nn hn, numO_lt hn⟩
theorem dO_ok {ws : List Str} {d : Dd} (h : dO ws = some d) : DdOk d := by
  unfold dO at h
  split at h
  · split at h
    · rename_i hc
      cases hm : mkO _ with
      | none => rw [hm] at h; cases h
      | some m =>
        rw [hm] at h
        cases h
        exact ⟨hc.1, hc.2, mkO_ok hm⟩
    · cases h
  · split at h
    · rename_i hc
      split at h
      · rename_i m x hm hx
        cases h
        exact ⟨hc.2, seenO_nm hx, mkO_ok hm⟩
      · cases h
    · cases h
  · cases h
theorem goX_ok {α : Type} {f : Str → Option α} : ∀ {ps : List Str} {k : Nat} {rs : List α}, goX f k ps = .inr rs → rs.length = ps.length ∧ ∀ r ∈ rs, ∃ p, f p = some r
  | [], k, rs, h => by cases h; exact ⟨rfl, fun r hr => by cases hr⟩
  | p :: ps, k, rs, h => by
    unfold goX at h
    cases hp : f p with
    | none => rw [hp] at h; cases h
    | some r =>
      rw [hp] at h
      dsimp only at h
      cases hg : goX f (k + 1) ps with
      | inl e => rw [hg] at h; cases h
      | inr qs =>
        rw [hg] at h
        cases h
        obtain ⟨h1, h2⟩ := goX_ok hg
        refine ⟨by simp [h1], fun q hq => ?_⟩
        rcases List.mem_cons.mp hq with rfl | hq
        · exact ⟨p, hp⟩
        · exact h2 q hq
theorem goX_le {α : Type} {f : Str → Option α} : ∀ {ps : List Str} {k e : Nat}, goX f k ps = .inl e → e ≤ k + ps.length
  | [], k, e, h => by cases h
  | p :: ps, k, e, h => by
    unfold goX at h
    simp only [List.length_cons]
    cases hp : f p with
    | none => rw [hp] at h; cases h; omega
    | some r =>
      rw [hp] at h
      dsimp only at h
      cases hg : goX f (k + 1) ps with
      | inl e' =>
        rw [hg] at h
        cases h
        have := goX_le hg
        omega
      | inr qs => rw [hg] at h; cases h
theorem gds_text (e : Nat) (h : e ≤ 1000000) : Gds [.str "text", .int (e : Int)] 2 60 :=
  Gds.cons (w1 := 4) (w2 := 41) (Gd.str (by decide +kernel) (by decide +kernel)) (Gds.cons (w1 := 40) (w2 := 0) (Gd.int (by omega)) Gds.nil (by omega)) (by omega)
theorem gds_read {d : D} {w : Nat} (h : Gd d 2 w) : Gds [.str "read", d] 2 (w + 10) :=
  Gds.cons (w1 := 4) (w2 := w + 1) (Gd.str (by decide +kernel) (by decide +kernel)) (Gds.cons (w1 := w) (w2 := 0) h Gds.nil (by omega)) (by omega)
theorem gd_weak {d : D} {k w k' : Nat} (h : Gd d k w) (hk : k ≤ k') : Gd d k' w := by
  obtain ⟨p, hp, g⟩ := h
  exact ⟨p, hp, ⟨g.s, g.d, Nat.le_trans g.k hk, g.l, g.w, g.i⟩⟩
/-! ### what is told of a text -/
theorem wt_rows {f : Str → Option Dd} (hf : ∀ p d, f p = some d → 1 ≤ p.length) : ∀ {ps : List Str} {k : Nat} {rs : List Dd}, goX f k ps = .inr rs → 2 * rs.length ≤ wt ps
  | [], k, rs, h => by cases h; simp
  | p :: ps, k, rs, h => by
    unfold goX at h
    cases hp : f p with
    | none => rw [hp] at h; cases h
    | some r =>
      rw [hp] at h
      dsimp only at h
      cases hg : goX f (k + 1) ps with
      | inl e' => rw [hg] at h; cases h
      | inr qs =>
        rw [hg] at h
        cases h
        have ih := wt_rows hf hg
        have := hf p r hp
        unfold wt at ih ⊢
        simp only [List.map_cons, List.sum_cons, List.length_cons] at ih ⊢
        omega
theorem rdD_len {p : Str} {d : Dd} (h : rdD p = some d) : 1 ≤ p.length := by
  have h3 : 3 ≤ (Txt.split p " ").length := by
    unfold rdD dO at h
    split at h
    · rename_i e; rw [e]; simp
    · rename_i e; rw [e]; simp
    · cases h
  have := split_le p " "
  omega
/-- what is told, by the door -/
def res (door : Int) (x : Str) : List D := if door = 0 then (match (Txt.split x "\n").reverse with
    | [] => []
    | l :: r => toldX ddD (readX rdD r.reverse l)) else if door = 1 then toldX D.str (readL x) else toldC (clO (Txt.split x " "))
theorem res0 {x l : Str} {ini : List Str} (h : Txt.split x "\n" = ini ++ [l]) : res 0 x = toldX ddD (readX rdD ini l) := by
  unfold res
  rw [if_pos rfl, h, List.reverse_append]
  simp
theorem nl_ini (x : Str) : ∃ ini l, Txt.split x "\n" = ini ++ [l] := by
  have hp := split_ne x "\n"
  rcases List.eq_nil_or_concat (Txt.split x "\n") with z | ⟨ini, l, z⟩
  · exact absurd z hp
  · exact ⟨ini, l, by rw [z, List.concat_eq_append]⟩
theorem noRefs_res (door : Int) (x : Str) : noRefs (res door x) = true := by
  unfold res
  split
  · split
    · rfl
    · exact noRefs_toldX noRef_dd _
  · split
    · exact noRefs_toldX (fun _ => rfl) _
    · cases clO (Txt.split x " ") with
      | none => rfl
      | some c =>
        show (true && (noRef (clD c) && true)) = true
        rw [noRef_cl]
        rfl
theorem len_nl : ("\n" : Str).length = 1 := by decide +kernel
theorem len_sp : (" " : Str).length = 1 := by decide +kernel
theorem gds_res {door : Int} {x : Str} (hx : x.length ≤ 10000) : Gds (res door x) 2 1000000 := by
  have weak : ∀ {l : List D} {w : Nat}, Gds l 2 w → w ≤ 1000000 → Gds l 2 1000000 := fun {l w} h hw => by
    obtain ⟨p, e, g⟩ := h
    exact ⟨p, e, ⟨g.s, g.d, g.k, g.l, Nat.le_trans g.w hw, g.i⟩⟩
  have hws := split_weight x " " (by rw [len_sp]; exact Nat.le_refl _)
  have hwn := split_weight x "\n" (by rw [len_nl]; exact Nat.le_refl _)
  by_cases h0 : door = 0
  · subst h0
    obtain ⟨ini, l, e⟩ := nl_ini x
    rw [res0 e]
    rw [e] at hwn
    have hwi : wt ini ≤ 10001 := by
      have : wt (ini ++ [l]) ≤ x.length + 1 := hwn
      rw [wt_app] at this
      omega
    have hil : ini.length ≤ 10001 := by unfold wt at hwi; omega
    unfold readX
    cases hg : goX rdD 0 ini with
    | inl e => exact weak (gds_text e (by have := goX_le hg; omega)) (by decide)
    | inr rs =>
      dsimp only
      split
      · have h2 := wt_rows (fun p d h => rdD_len h) hg
        have h3 := wD_le rs
        exact weak (gds_read (Gd.tup (gds_dds fun d hd => by
          obtain ⟨p, hp⟩ := (goX_ok hg).2 d hd
          exact dO_ok hp))) (by omega)
      · exact weak (gds_text ini.length (by omega)) (by decide)
  · unfold res
    rw [if_neg h0]
    by_cases h1 : door = 1
    · rw [if_pos h1]
      unfold readL
      split
      · exact weak (gds_read (gd_weak (Gd.tup (k := 0) (w := 0) Gds.nil) (by decide))) (by decide)
      · have hl : (Txt.split x " ").length ≤ 10001 := by have : wt (Txt.split x " ") ≤ x.length + 1 := hws; unfold wt at this; omega
        cases hg : goX nmO 0 (Txt.split x " ") with
        | inl e => exact weak (gds_text e (by have := goX_le hg; omega)) (by decide)
        | inr rs =>
          have hr := goX_ok hg
          exact weak (gds_read (gd_weak (Gd.tup (gds_nms fun n hn => by
            obtain ⟨p, hp⟩ := hr.2 n hn
            unfold nmO at hp
            split at hp
            · cases hp; assumption
            · cases hp)) (by decide))) (by have := hr.1; omega)
    · rw [if_neg h1]
      have hl : (Txt.split x " ").length ≤ 10001 := by have : wt (Txt.split x " ") ≤ x.length + 1 := hws; unfold wt at this; omega
      cases hs : Txt.split x " " with
      | nil => exact weak (gds_text 0 (by decide)) (by decide)
      | cons w ns =>
        rw [hs] at hl
        simp only [List.length_cons] at hl
        rcases clO_cases w ns with ⟨ha, e⟩ | ⟨ha, ⟨hwl, n, hn, e⟩ | ⟨hc, hr, hd, e⟩ | ⟨hc, hd, e⟩⟩
        · rw [e]; exact weak (gds_text 0 (by decide)) (by decide)
        · rw [e]
          have hnm : nmB n = true := List.all_eq_true.mp ha n (by simp [hn])
          exact weak (gds_read (gd_weak (Gd.tup (k := 0) (w := 20) (Gds.cons (w1 := 4) (w2 := 9) (Gd.str (x := "late") (by decide +kernel) (by decide +kernel)) (Gds.cons (w1 := 8) (w2 := 0) (Gd.str (nmB_tx hnm).ok (nmB_le hnm)) Gds.nil (by decide)) (by decide))) (by decide))) (by decide)
        · rw [e]
          have hwn : nmB w = true := by rcases hr with rfl | rfl <;> decide +kernel
          exact weak (gds_read (Gd.tup (k := 1) (Gds.cons (w1 := 8) (w2 := 9 * ns.length + 1) (Gd.str (nmB_tx hwn).ok (nmB_le hwn)) (Gds.cons (w2 := 0) (Gd.tup (k := 0) (gds_nms fun n hn => List.all_eq_true.mp ha n hn)) Gds.nil (Nat.le_refl _)) (Nat.le_refl _)))) (by omega)
        · rw [e]; exact weak (gds_text 0 (by decide)) (by decide)
end Lk85

set_option maxHeartbeats 4000000
namespace Lk85
open PySem PySem.Spec PyProof.Rows L2 Ah Pg La PySem.NumText
theorem t1 : exmT tb "BadText" "AheadError" = some true := by decide +kernel
theorem t2 : exmT tb "BadText" "BadLine" = some false := by decide +kernel
theorem t3 : exmT tb "BadText" "BadLore" = some false := by decide +kernel
theorem t4 : exmT tb "BadText" "BadText" = some true := by decide +kernel
theorem lk1 {v : D} : List.lookup (Str.ofString "at") [(Str.ofString "at", v)] = some v := by
  unfold List.lookup
  rw [show (Str.ofString "at" == Str.ofString "at") = true from by decide +kernel]
theorem su1 {dv x y : D} {S : Sto} : handS tb [⟨"BadText", some 2, fun a d C k => (retS (alF (opF oAddA (lstF (consA (cF (.str "text")) (consA (xfF 2 a d k "at") nilA))) (opF oMulA (lstF (consA (cF (.str "other")) nilA)) (callF gInt (consA (orV (notV (callF (gIsE tb a d k C) (consA (varF 2) (consA (cF (.glb "AheadError")) nilA)))) (callF (gIsE tb a d k C) (consA (varF 2) (consA (tupF (consA (cF (.glb "BadLine")) (consA (cF (.glb "BadLore")) nilA))) nilA)))) nilA))))))⟩]
    "BadText" [("at", dv)] [some x, some y, none] S = .rt (.ref (S.length + 1)) (S ++ [.gone, .lst [.str "text", dv]]) := by
  unfold handS
  simp only [t4]
  refine suiteS_eq fun a d hd => ?_
  cases d with
  | none => exact absurd (hd.mp rfl) (by simp)
  | some dd =>
    simp [suite1, finX, onE, pushX, clX, gIsE, okX, glbsD, t1, t2, t3, at0, oMulA, oAddA, mlsD, lk1]
noncomputable def bdT : FS := (seqS (ifS (tstF (opF (prF pEq) (varF 0) (cF (.int 0)))) (retS (alF (lstF (consA (cF (.str "read")) (consA (alF (runF f_read_history [] (consA (varF 1) nilA))) nilA))))) nopS) (seqS (ifS (tstF (opF (prF pEq) (varF 0) (cF (.int 1)))) (retS (alF (lstF (consA (cF (.str "read")) (consA (alF (runF f_read_line [] (consA (varF 1) nilA))) nilA))))) nopS) (retS (alF (lstF (consA (cF (.str "read")) (consA (alF (runF f_read_clash [] (consA (varF 1) nilA))) nilA)))))))
theorem told_ok {door : Int} {y d : D} {S : Sto} (h : bdT [some (.int door), some y, none] S = .rt (.ref S.length) (S ++ [.lst [.str "read", d]])) (hn : noRef d = true) : f__law_told [.int door, y] S = .ok (.tml [.str "read", d]) S := by
  refine wrap_mk (J := [.lst [.str "read", d]]) (i := S.length) ?_ (by omega) at0 (by show (true && (noRef d && true)) = true; rw [hn]; rfl)
  unfold s__law_told tryS
  unfold bdT at h
  rw [show enD 3 [D.int door, y] = [some (.int door), some y, none] from rfl, h]
theorem told_ex {door : Int} {y dv : D} {S : Sto} (h : bdT [some (.int door), some y, none] S = .ex "BadText" [("at", dv)] [some (.int door), some y, none] S) (hn : noRef dv = true) : f__law_told [.int door, y] S = .ok (.tml [.str "text", dv]) S := by
  refine wrap_mk (J := [.gone, .lst [.str "text", dv]]) (i := S.length + 1) ?_ (by omega) at1 (by show (true && (noRef dv && true)) = true; rw [hn]; rfl)
  unfold s__law_told tryS
  unfold bdT at h
  rw [show enD 3 [D.int door, y] = [some (.int door), some y, none] from rfl, h]
  exact su1
theorem ev_read_history {S : Sto} {x : Str} (hx : Tx x) {ini : List Str} {l : Str} (h : Txt.split x "\n" = ini ++ [l]) : f_read_history [.str x] S = rdR ddD S (readX rdD ini l) := by
  have hr := fun S => ev_rows (S := S) hx h
  unfold f_read_history
  cases hp : readX rdD ini l with
  | inl e =>
    rw [hp] at hr
    refine wrap_ex (J := []) (body_ex (en := [some (.str x)]) ?_) rfl
    unfold s_read_history
    simp [enD, hr, rdR]
  | inr rs =>
    rw [hp] at hr
    refine fn_same ?_ rfl (noRefs_dd rs)
    unfold s_read_history
    simp [enD, hr, rdR]
theorem door_or {door : Int} (h0 : 0 ≤ door) (h1 : door < 3) : door = 0 ∨ door = 1 ∨ door = 2 := by omega
theorem ev_told {S : Sto} {x : Str} {door : Int} (hx : Tx x) (h0 : 0 ≤ door) (h1 : door < 3) : f__law_told [.int door, .str x] S = .ok (.tml (res door x)) S := by
  rcases door_or h0 h1 with rfl | rfl | rfl
  · obtain ⟨ini, l, e⟩ := nl_ini x
    have hr := fun S => ev_read_history (S := S) hx e
    rw [res0 e]
    cases hp : readX rdD ini l with
    | inl k => rw [hp] at hr; exact told_ex (by unfold bdT; simp [hr, rdR]) rfl
    | inr rs => rw [hp] at hr; exact told_ok (by unfold bdT; simp [hr, rdR]) (noRefs_dd rs)
  · have hr := fun S => ev_read_line (S := S) hx
    have e : res 1 x = toldX D.str (readL x) := by unfold res; simp
    rw [e]
    cases hp : readL x with
    | inl k => rw [hp] at hr; exact told_ex (by unfold bdT; simp [hr, rdR]) rfl
    | inr rs => rw [hp] at hr; exact told_ok (by unfold bdT; simp [hr, rdR]) (noRefs_strs rs)
  · have hr := fun S => ev_read_clash (S := S) hx
    have e : res 2 x = toldC (clO (Txt.split x " ")) := by unfold res; simp
    rw [e]
    cases hp : clO (Txt.split x " ") with
    | none => rw [hp] at hr; exact told_ex (by unfold bdT; simp [hr, clR]) rfl
    | some c =>
      rw [hp] at hr
      refine told_ok ?_ (noRef_cl c)
      unfold bdT
      cases c <;> simp [hr, clR, clD]
theorem ev_due {S : Sto} {x : Str} {door : Int} (hx : Tx x) (hl : x.length ≤ 100000) (h0 : 0 ≤ door) (h1 : door < 3) : f__law_due [.int door, .str x] S = .ok (.tml (res door x)) S := by
  have fin : ∀ (r : List D), noRefs r = true → s__law_due (enD 2 [.int door, .str x]) S = .rt (.ref S.length) (S ++ [.lst r]) → f__law_due [.int door, .str x] S = .ok (.tml r) S := fun r hn e =>
    wrap_mk (J := [.lst r]) (i := S.length) e (by omega) at0 hn
  refine fin _ (noRefs_res door x) ?_
  rcases door_or h0 h1 with rfl | rfl | rfl
  · obtain ⟨ini, l, e⟩ := nl_ini x
    have hr := fun S => ev_due_history (S := S) hx e
    rw [res0 e]
    unfold s__law_due
    simp [enD, hr]
  · have hr := fun S => ev_due_line (S := S) hx hl
    have e : res 1 x = toldX D.str (readL x) := by unfold res; simp
    rw [e]
    unfold s__law_due
    simp [enD, hr]
  · have hr := fun S => ev_due_clash (S := S) hx
    have e : res 2 x = toldC (clO (Txt.split x " ")) := by unfold res; simp
    rw [e]
    unfold s__law_due
    simp [enD, hr]
/-! ### what is no text -/
theorem ev_told_odd {d : D} {S : Sto} {T : String} {door : Int} (h0 : 0 ≤ door) (h1 : door < 3) (h : tyOfD d S = some T) (hT : isiB T "str" = some false) (hnt : isTml d = false) : f__law_told [.int door, d] S = .ok (.tml [.str "text", .non]) S := by
  refine told_ex ?_ rfl
  rcases door_or h0 h1 with rfl | rfl | rfl
  · have e1 : f_rows_read [d, .glb "deed_of_words"] S = .ex "BadText" [("at", .non)] S := by
      refine wrap_ex (J := []) (body_ex (en := [some d, some (.glb "deed_of_words"), none, none, none, none, none, none]) ?_) rfl
      unfold s_rows_read
      simp [enD, h, hT]
    have e2 : f_read_history [d] S = .ex "BadText" [("at", .non)] S := by
      refine wrap_ex (J := []) (body_ex (en := [some d]) ?_) rfl
      unfold s_read_history
      simp [enD, e1]
    unfold bdT
    simp [e2]
  · have e2 : f_read_line [d] S = .ex "BadText" [("at", .non)] S := by
      refine wrap_ex (J := []) (body_ex (en := [some d, none, none, none]) ?_) rfl
      unfold s_read_line
      simp [enD, h, hT]
    unfold bdT
    simp [e2]
  · have e2 : f_read_clash [d] S = .ex "BadText" [("at", .non)] S := by
      refine wrap_ex (J := []) (body_ex (en := [some d, none, none, none]) ?_) rfl
      unfold s_read_clash
      simp [enD, h, hT]
    unfold bdT
    simp [e2]
end Lk85

set_option maxHeartbeats 4000000
namespace Lk85
open PySem PySem.Spec PyProof.Rows L2 Ah Pg La PySem.NumText
theorem asc_lit (s : String) (h : (s.toList.all fun c => decide (c.toNat < 128)) = true) : Asc (Str.ofString s) := fun c hc => by
  rw [TL.tl_ofString] at hc
  obtain ⟨d, hd, rfl⟩ := List.mem_map.mp hc
  exact of_decide_eq_true (List.all_eq_true.mp h d hd)
def SIG : Str := "abcxyz0123456789 -.\n\nABZ_,;:+"
theorem sig_ok : (∀ c ∈ SIG.cps.toList, c < 128) ∧ SIG.length = 29 := by decide +kernel
theorem fold_app : ∀ (l : List (Array Nat)) (acc : Array Nat), (l.foldl (· ++ ·) acc).toList = acc.toList ++ (l.map Array.toList).flatten
  | [], acc => by simp
  | a :: l, acc => by
    rw [List.foldl_cons, fold_app l]
    simp
theorem tl_rep (x : Str) (n : Int) : TL.tl (strRep x n) = (List.replicate n.toNat (TL.tl x)).flatten := by
  show ((List.replicate n.toNat x.cps).foldl (· ++ ·) #[]).toList = _
  rw [fold_app, List.map_replicate]
  rfl
def SEV : Str := strRep "7" 5000
theorem tl_7 : TL.tl ("7" : Str) = [55] := by decide +kernel
theorem sev_ok : (∀ c ∈ SEV.cps.toList, c < 128) ∧ SEV.length = 5000 := by
  have h : TL.tl SEV = (List.replicate 5000 [55]).flatten := by
    unfold SEV
    rw [tl_rep, tl_7]
    rfl
  refine ⟨fun c hc => ?_, ?_⟩
  · have hc : c ∈ TL.tl SEV := hc
    rw [h] at hc
    obtain ⟨l, hl, hc⟩ := List.mem_flatten.mp hc
    rw [(List.mem_replicate.mp hl).2] at hc
    rw [List.mem_singleton.mp hc]
    decide
  · rw [TL.len_tl, h, List.length_flatten, List.map_replicate]
    simp
def WORDS : List Str := ["", "-", ".", "0", "07", "1", "1000000000", "1000000001", SEV, "abcdefghi", "a", "A", "come"]
def WORDS2 : List Str := ["go", "look", "ring", "late", "between", "zz"]
theorem words_ok : ∀ w ∈ WORDS ++ WORDS2, Asc w ∧ w.length ≤ 5000 := by
  have h : ∀ w ∈ ["", "-", ".", "0", "07", "1", "1000000000", "1000000001", "abcdefghi", "a", "A", "come", "go", "look", "ring", "late", "between", "zz"], (w.toList.all fun c => decide (c.toNat < 128)) = true ∧ (Str.ofString w).length ≤ 5000 := by decide +kernel
  intro w hw
  simp only [WORDS, WORDS2, List.cons_append, List.nil_append, List.mem_cons, List.not_mem_nil, or_false] at hw
  rcases hw with rfl | rfl | rfl | rfl | rfl | rfl | rfl | rfl | rfl | rfl | rfl | rfl | rfl | rfl | rfl | rfl | rfl | rfl | rfl
  · exact ⟨asc_lit _ (h _ (by simp)).1, (h _ (by simp)).2⟩
  · exact ⟨asc_lit _ (h _ (by simp)).1, (h _ (by simp)).2⟩
  · exact ⟨asc_lit _ (h _ (by simp)).1, (h _ (by simp)).2⟩
  · exact ⟨asc_lit _ (h _ (by simp)).1, (h _ (by simp)).2⟩
  · exact ⟨asc_lit _ (h _ (by simp)).1, (h _ (by simp)).2⟩
  · exact ⟨asc_lit _ (h _ (by simp)).1, (h _ (by simp)).2⟩
  · exact ⟨asc_lit _ (h _ (by simp)).1, (h _ (by simp)).2⟩
  · exact ⟨asc_lit _ (h _ (by simp)).1, (h _ (by simp)).2⟩
  · exact ⟨sev_ok.1, by rw [sev_ok.2]; exact Nat.le_refl _⟩
  · exact ⟨asc_lit _ (h _ (by simp)).1, (h _ (by simp)).2⟩
  · exact ⟨asc_lit _ (h _ (by simp)).1, (h _ (by simp)).2⟩
  · exact ⟨asc_lit _ (h _ (by simp)).1, (h _ (by simp)).2⟩
  · exact ⟨asc_lit _ (h _ (by simp)).1, (h _ (by simp)).2⟩
  · exact ⟨asc_lit _ (h _ (by simp)).1, (h _ (by simp)).2⟩
  · exact ⟨asc_lit _ (h _ (by simp)).1, (h _ (by simp)).2⟩
  · exact ⟨asc_lit _ (h _ (by simp)).1, (h _ (by simp)).2⟩
  · exact ⟨asc_lit _ (h _ (by simp)).1, (h _ (by simp)).2⟩
  · exact ⟨asc_lit _ (h _ (by simp)).1, (h _ (by simp)).2⟩
  · exact ⟨asc_lit _ (h _ (by simp)).1, (h _ (by simp)).2⟩

/-- a text that may be bent -/
structure Bt (x : Str) (n : Nat) : Prop where
  a : Asc x
  l : x.length ≤ n
theorem Bt.tx {x : Str} {n : Nat} (h : Bt x n) (hn : n ≤ 100000) : Tx x := ⟨by have := h.l; omega, h.a.ok⟩
theorem asc_part {x y : Str} {c : Nat} (h : Asc x) (hc : c < 128) (hy : y ∈ Txt.split x ⟨#[c]⟩) : Asc y := by
  have e := StrLaws.join_split x ⟨#[c]⟩
  have : ∀ (ps : List Str) (s : Str), Asc (Str.join s ps) → ∀ p ∈ ps, Asc p := by
    intro ps s
    induction ps with
    | nil => intro _ p hp; cases hp
    | cons p ps ih =>
      intro h q hq
      cases ps with
      | nil =>
        rw [List.mem_singleton.mp hq]
        exact h
      | cons b r =>
        have h : Asc (p ++ s ++ Str.join s (b :: r)) := h
        have ha : ∀ u v : Str, Asc (u ++ v) → Asc u ∧ Asc v := fun u v h =>
          ⟨fun c hc => h c (by rw [TL.tl_append]; exact List.mem_append_left _ hc), fun c hc => h c (by rw [TL.tl_append]; exact List.mem_append_right _ hc)⟩
        have h1 := ha _ _ h
        have h2 := ha _ _ h1.1
        rcases List.mem_cons.mp hq with rfl | hq
        · exact h2.1
        · exact ih h1.2 q hq
  exact this _ _ (by rw [e]; exact h) y hy
noncomputable def restB : FS := (seqS (ifS (tstF (opF (prF pEq) (varF 3) (cF (.int 0)))) (retS (alF (opF oAddA (opF oAddA (slF (varF 1) noO (soO (varF 4))) (varF 5)) (slF (varF 1) (soO (varF 4)) noO)))) nopS) (seqS (ifS (tstF (opF (prF pEq) (varF 3) (cF (.int 1)))) (retS (alF (opF oAddA (slF (varF 1) noO (soO (varF 4))) (slF (varF 1) (soO (opF oAdd (varF 4) (cF (.int 1)))) noO)))) nopS) (seqS (ifS (tstF (opF (prF pEq) (varF 3) (cF (.int 2)))) (retS (alF (opF oAddA (opF oAddA (slF (varF 1) noO (soO (varF 4))) (varF 5)) (slF (varF 1) (soO (opF oAdd (varF 4) (cF (.int 1)))) noO)))) nopS) (seqS (ifS (tstF (opF (prF pEq) (varF 3) (cF (.int 3)))) (retS (alF (bmF "str" gJoin (varF 6) (consA (opF oAddA (slF (varF 7) noO (soO (varF 8))) (slF (varF 7) (soO (opF oAdd (varF 8) (cF (.int 1)))) noO)) nilA)))) nopS) (seqS (ifS (tstF (opF (prF pEq) (varF 3) (cF (.int 4)))) (retS (alF (bmF "str" gJoin (varF 6) (consA (opF oAddA (slF (varF 7) noO (soO (opF oAdd (varF 8) (cF (.int 1))))) (slF (varF 7) (soO (varF 8)) noO)) nilA)))) nopS) (seqS (ifS (tstF (opF (prF pLtA) (varF 3) (cF (.int 7)))) (retS (alF (bmF "str" gJoin (varF 6) (consA (opF oAddA (opF oAddA (slF (varF 7) noO (soO (varF 8))) (lstF (consA (varF 10) nilA))) (slF (varF 7) (soO (opF oSub (opF oAddA (varF 8) (varF 3)) (cF (.int 5)))) noO)) nilA)))) nopS) (seqS (ifS (tstF (opF (prF pEq) (varF 3) (cF (.int 7)))) (seqS (setS 11 (alF (slF (varF 7) (soO (varF 8)) (soO (opF oAdd (varF 8) (cF (.int 2))))))) (retS (alF (bmF "str" gJoin (varF 6) (consA (opF oAddA (opF oAddA (slF (varF 7) noO (soO (varF 8))) (revF (varF 11))) (slF (varF 7) (soO (opF oAdd (varF 8) (cF (.int 2)))) noO)) nilA))))) nopS) (retS (alF (slF (varF 1) (soO (varF 4)) noO))))))))))
theorem ev_bent {ns : List Int} {p q r : Int} (ok : OkS p q r) {t : Str} (ht : Bt t 10000) : ∃ t' p' q' r', OkS p' q' r' ∧ Bt t' 50000 ∧ ∀ T, f__law_bent [.ref 0, .str t] (stO ns p q r :: T) = .ok (.str t') (stO ns p' q' r' :: T) := by
  have htl := ht.l
  obtain ⟨road, p1, q1, r1, ok1, a0, a1, t1⟩ := ev_take (ns := ns) ok (b := 9) (by decide) (by decide)
  obtain ⟨at_, p2, q2, r2, ok2, b0, b1, t2⟩ := ev_take (ns := ns) ok1 (b := (t.length : Int) + 1) (by omega) (by omega)
  obtain ⟨sg, p3, q3, r3, ok3, c0, c1, t3⟩ := ev_take (ns := ns) ok2 (b := 29) (by decide) (by decide)
  obtain ⟨bi, p4, q4, r4, ok4, d0, d1, t4⟩ := ev_take (ns := ns) ok3 (b := 2) (by decide) (by decide)
  obtain ⟨sign, hsa, hsl, hsi⟩ : ∃ sign : Str, Asc sign ∧ sign.length = 1 ∧ ∀ S, ixF (.str "abcxyz0123456789 -.\n\nABZ_,;:+") (.int sg) S = .ok (.str sign) S := by
    have hl : SIG.cps.toList.length = 29 := by have := sig_ok.2; rw [TL.len_tl] at this; exact this
    have hi : sg.toNat < SIG.cps.toList.length := by omega
    refine ⟨⟨#[SIG.cps.toList[sg.toNat]]⟩, fun c hc => ?_, rfl, fun S => ?_⟩
    · have hc : c ∈ [SIG.cps.toList[sg.toNat]] := hc
      rw [List.mem_singleton.mp hc]
      exact sig_ok.1 _ (List.getElem_mem hi)
    · have a1 : atI SIG.cps.toList sg = some SIG.cps.toList[sg.toNat] := by
        unfold atI ixN
        rw [if_pos c0, if_pos (by omega)]
        exact List.getElem?_eq_getElem hi
      show ixF (.str SIG) (.int sg) S = _
      unfold ixF
      simp only [a1]
      rw [if_pos (by rw [sig_ok.2]; decide)]
  obtain ⟨by_, c, hby, hc, hbi⟩ : ∃ (by_ : Str) (c : Nat), by_ = ⟨#[c]⟩ ∧ c < 128 ∧ ∀ S, ixF (.tml [.str " ", .str "\n"]) (.int bi) S = .ok (.str by_) S := by
    have : bi = 0 ∨ bi = 1 := by omega
    rcases this with rfl | rfl
    · exact ⟨" ", 32, sp_eq, by decide, fun S => rfl⟩
    · exact ⟨"\n", 10, nl_eq, by decide, fun S => rfl⟩
  let ps := Txt.split t by_
  have hbl : by_.length = 1 := by rw [hby]; rfl
  have hwt : wt ps ≤ 10001 := Nat.le_trans (split_weight t by_ (by omega)) (by omega)
  have hps : ∀ y ∈ ps, Asc y := fun y hy => by
    refine asc_part (c := c) ht.a hc ?_
    rw [← hby]
    exact hy
  have hpl : ps.length ≤ 10001 := by unfold wt at hwt; omega
  have hpl0 : 0 < ps.length := split_pos t by_
  have hsp : ∀ S, gSplit (.str t) [.str by_] S = .ok (.tml (ps.map .str)) S := fun S => by
    unfold gSplit
    simp only
    rw [if_pos ⟨by rw [hbl]; rfl, by omega⟩]
  obtain ⟨spot, p5, q5, r5, ok5, e0, e1, t5⟩ := ev_take (ns := ns) ok4 (b := (ps.length : Int)) (by omega) (by omega)
  obtain ⟨wi, p6, q6, r6, ok6, f0, f1, t6⟩ := ev_take (ns := ns) ok5 (b := 19) (by decide) (by decide)
  obtain ⟨word, hwm, hwi⟩ : ∃ word ∈ WORDS ++ WORDS2, ∀ S, ixF (.tml ((WORDS ++ WORDS2).map .str)) (.int wi) S = .ok (.str word) S := by
    have hl : wi.toNat < (WORDS ++ WORDS2).length := by
      rw [show (WORDS ++ WORDS2).length = 19 from rfl]
      omega
    refine ⟨(WORDS ++ WORDS2)[wi.toNat], List.getElem_mem hl, fun S => ?_⟩
    have a1 : atI ((WORDS ++ WORDS2).map D.str) wi = some (.str (WORDS ++ WORDS2)[wi.toNat]) := by
      unfold atI ixN
      rw [if_pos f0, if_pos (by rw [List.length_map, show (WORDS ++ WORDS2).length = 19 from rfl]; omega)]
      show (List.map D.str (WORDS ++ WORDS2))[wi.toNat]? = _
      rw [List.getElem?_map, List.getElem?_eq_getElem hl]
      rfl
    unfold ixF
    simp only [seqD, a1]
  have hwd := words_ok word hwm
  have gsig : ∀ S, gLen [.str "abcxyz0123456789 -.\n\nABZ_,;:+"] S = .ok (.int 29) S := fun S => by
    show gLen [.str SIG] S = _
    rw [v_lenS, sig_ok.2]
    rfl
  let S6 (T : Sto) : Sto := stO ns p6 q6 r6 :: (T ++ [.lst (ps.map .str), .lst (WORDS.map .str)])
  let E (T : Sto) (o : Option D) : En := [some (.ref 0), some (.str t), some (.str "abcxyz0123456789 -.\n\nABZ_,;:+"), some (.int road), some (.int at_), some (.str sign), some (.str by_), some (.ref (T.length + 1)), some (.int spot), some (.ref (T.length + 2)), some (.str word), o]
  have head : ∀ T, s__law_bent (enD 12 [.ref 0, .str t]) (stO ns p q r :: T) = restB (E T none) (S6 T) := fun T => by
    unfold s__law_bent
    rw [show enD 12 [D.ref 0, .str t] = [some (.ref 0), some (.str t), none, none, none, none, none, none, none, none, none, none] from rfl]
    refine (seq_nx (e := [some (.ref 0), some (.str t), some (.str "abcxyz0123456789 -.\n\nABZ_,;:+"), none, none, none, none, none, none, none, none, none]) (S1 := stO ns p q r :: T) ?_).trans ?_
    · simp
    refine (seq_nx (e := [some (.ref 0), some (.str t), some (.str "abcxyz0123456789 -.\n\nABZ_,;:+"), some (.int road), none, none, none, none, none, none, none, none]) (S1 := stO ns p1 q1 r1 :: T) ?_).trans ?_
    · simp [t1]
    refine (seq_nx (e := [some (.ref 0), some (.str t), some (.str "abcxyz0123456789 -.\n\nABZ_,;:+"), some (.int road), some (.int at_), none, none, none, none, none, none, none]) (S1 := stO ns p2 q2 r2 :: T) ?_).trans ?_
    · have : t.length ≤ 16777216 := by omega
      simp [t2, this]
    refine (seq_nx (e := [some (.ref 0), some (.str t), some (.str "abcxyz0123456789 -.\n\nABZ_,;:+"), some (.int road), some (.int at_), some (.str sign), none, none, none, none, none, none]) (S1 := stO ns p3 q3 r3 :: T) ?_).trans ?_
    · simp [-v_lenS, gsig, t3, hsi]
    refine (seq_nx (e := [some (.ref 0), some (.str t), some (.str "abcxyz0123456789 -.\n\nABZ_,;:+"), some (.int road), some (.int at_), some (.str sign), some (.str by_), none, none, none, none, none]) (S1 := stO ns p4 q4 r4 :: T) ?_).trans ?_
    · simp [t4, hbi]
    refine (seq_nx (e := [some (.ref 0), some (.str t), some (.str "abcxyz0123456789 -.\n\nABZ_,;:+"), some (.int road), some (.int at_), some (.str sign), some (.str by_), some (.ref (T.length + 1)), none, none, none, none]) (S1 := stO ns p4 q4 r4 :: (T ++ [.lst (ps.map .str)])) ?_).trans ?_
    · simp [hsp]
    refine (seq_nx (e := [some (.ref 0), some (.str t), some (.str "abcxyz0123456789 -.\n\nABZ_,;:+"), some (.int road), some (.int at_), some (.str sign), some (.str by_), some (.ref (T.length + 1)), some (.int spot), none, none, none]) (S1 := stO ns p5 q5 r5 :: (T ++ [.lst (ps.map .str)])) ?_).trans ?_
    · have : gLen [.ref (T.length + 1)] (stO ns p4 q4 r4 :: (T ++ [.lst (ps.map .str)])) = .ok (.int ps.length) (stO ns p4 q4 r4 :: (T ++ [.lst (ps.map .str)])) := by
        simp [gLen, seqD]
      simp [this, t5]
    have hrep : ∀ S, oMulA (.str "7") (.int 5000) S = .ok (.str SEV) S := fun S => by
      unfold oMulA
      simp only
      rw [if_pos (by decide +kernel)]
      rfl
    refine (seq_nx (e := [some (.ref 0), some (.str t), some (.str "abcxyz0123456789 -.\n\nABZ_,;:+"), some (.int road), some (.int at_), some (.str sign), some (.str by_), some (.ref (T.length + 1)), some (.int spot), some (.ref (T.length + 2)), none, none]) (S1 := stO ns p5 q5 r5 :: (T ++ [.lst (ps.map .str), .lst (WORDS.map .str)])) ?_).trans ?_
    · simp [hrep, WORDS]
    refine (seq_nx (e := E T none) (S1 := S6 T) ?_)
    have hadd : oAddA (.ref (T.length + 2)) (.tml [.str "go", .str "look", .str "ring", .str "late", .str "between", .str "zz"]) (stO ns p5 q5 r5 :: (T ++ [.lst (ps.map .str), .lst (WORDS.map .str)])) = .ok (.tml ((WORDS ++ WORDS2).map .str)) (stO ns p5 q5 r5 :: (T ++ [.lst (ps.map .str), .lst (WORDS.map .str)])) := by
      unfold oAddA
      simp only [mlsD, List.getElem?_cons_succ, at1]
      rw [if_pos (by rw [List.length_map]; decide)]
      rfl
    simp [-List.map_append, hadd, t6, hwi, E, S6]
  have tl16 : t.length ≤ 16777216 := by omega
  have x1 : ∀ S, slD S (.str t) none (some at_) = .ok (.str (cutS t none (some at_))) S := fun S => if_pos tl16
  have x2 : ∀ S, slD S (.str t) (some at_) none = .ok (.str (cutS t (some at_) none)) S := fun S => if_pos tl16
  have x3 : ∀ S, slD S (.str t) (some (at_ + 1)) none = .ok (.str (cutS t (some (at_ + 1)) none)) S := fun S => if_pos tl16
  have y1 := cutS_length t none (some at_)
  have y2 := cutS_length t (some at_) none
  have y3 := cutS_length t (some (at_ + 1)) none
  have z1 : Asc (cutS t none (some at_)) := ht.a.hi b0
  have z2 : Asc (cutS t (some at_) none) := ht.a.lo b0
  have z3 : Asc (cutS t (some (at_ + 1)) none) := ht.a.lo (by omega)
  have cat : ∀ (a b : Str) S, a.length + b.length ≤ 16777216 → oAddA (.str a) (.str b) S = .ok (.str (a ++ b)) S := fun a b S h => by
    unfold oAddA
    simp only
    rw [if_pos h]
  have catL : ∀ (a b : List Str) S, a.length + b.length ≤ 16777216 → oAddA (.tml (a.map .str)) (.tml (b.map .str)) S = .ok (.tml ((a ++ b).map .str)) S := fun a b S h => by
    unfold oAddA
    simp only [mlsD]
    rw [if_pos (by rw [List.length_map, List.length_map]; exact h), List.map_append]
  have fin0 : ∀ T : Sto, stO ns p6 q6 r6 :: (T ++ [.lst (ps.map .str), .lst (WORDS.map .str)]) = S6 T := fun T => rfl
  -- cuts of the parts
  have lo : ∀ (T : Sto) (S : Sto), S[T.length + 1]? = some (.lst (ps.map .str)) → (∀ v : Int, 0 ≤ v → slD S (.ref (T.length + 1)) none (some v) = .ok (.tml ((ps.take v.toNat).map .str)) S) ∧ (∀ v : Int, 0 ≤ v → slD S (.ref (T.length + 1)) (some v) none = .ok (.tml ((ps.drop v.toNat).map .str)) S) := fun T S hS => by
    refine ⟨fun v hv => ?_, fun v hv => ?_⟩
    · unfold slD lstD
      simp only [hS]
      rw [cutD_hi _ _ hv]
    · unfold slD lstD
      simp only [hS]
      rw [cutD_lo _ _ hv]
  have s6p : ∀ T, (S6 T)[T.length + 1]? = some (.lst (ps.map .str)) := fun T => by
    show (stO ns p6 q6 r6 :: (T ++ [.lst (ps.map .str), .lst (WORDS.map .str)]))[T.length + 1]? = _
    rw [List.getElem?_cons_succ]
    exact at0
  have ascT : ∀ v, ∀ y ∈ ps.take v, Asc y := fun v y hy => hps y (List.mem_of_mem_take hy)
  have ascD : ∀ v, ∀ y ∈ ps.drop v, Asc y := fun v y hy => hps y (List.mem_of_mem_drop hy)
  have wtT : ∀ v, wt (ps.take v) ≤ 10001 := fun v => Nat.le_trans (wt_sub (List.take_sublist _ _)) hwt
  have wtD : ∀ v, wt (ps.drop v) ≤ 10001 := fun v => Nat.le_trans (wt_sub (List.drop_sublist _ _)) hwt
  have lnT : ∀ v, (ps.take v).length ≤ 10001 := fun v => by rw [List.length_take]; omega
  have lnD : ∀ v, (ps.drop v).length ≤ 10001 := fun v => by rw [List.length_drop]; omega
  have hr : road = 0 ∨ road = 1 ∨ road = 2 ∨ road = 3 ∨ road = 4 ∨ road = 5 ∨ road = 6 ∨ road = 7 ∨ road = 8 := by omega
  have done : ∀ (t' : Str), Bt t' 50000 → (∀ T, ∃ J, restB (E T none) (S6 T) = .rt (.str t') (stO ns p6 q6 r6 :: (T ++ J))) → ∃ t' p' q' r', OkS p' q' r' ∧ Bt t' 50000 ∧ ∀ T, f__law_bent [.ref 0, .str t] (stO ns p q r :: T) = .ok (.str t') (stO ns p' q' r' :: T) := fun t' hb h =>
    ⟨t', p6, q6, r6, ok6, hb, fun T => by
      obtain ⟨J, e⟩ := h T
      exact wrap_st ((head T).trans e) rfl rfl⟩
  have joined : ∀ ys : List Str, (∀ y ∈ ys, Asc y) → wt ys ≤ 50000 → Bt (Txt.join by_ ys) 50000 ∧ ∀ S, gJoin (.str by_) [.tml (ys.map .str)] S = .ok (.str (Txt.join by_ ys)) S := fun ys ha hw => by
    obtain ⟨j1, j2, j3⟩ := join_good hby hc ha (by omega)
    exact ⟨⟨j1, by omega⟩, j3⟩
  unfold restB at done
  rcases hr with rfl | rfl | rfl | rfl | rfl | rfl | rfl | rfl | rfl
  · refine done ((cutS t none (some at_) ++ sign) ++ cutS t (some at_) none) ⟨(z1.app hsa).app z2, by rw [Str.length_append, Str.length_append]; omega⟩ fun T => ⟨[.lst (ps.map .str), .lst (WORDS.map .str)], ?_⟩
    have k1 := fun S => cat (cutS t none (some at_)) sign S (by omega)
    have k2 := fun S => cat (cutS t none (some at_) ++ sign) (cutS t (some at_) none) S (by rw [Str.length_append]; omega)
    simp [E, S6, x1, x2, k1, k2]
  · refine done (cutS t none (some at_) ++ cutS t (some (at_ + 1)) none) ⟨z1.app z3, by rw [Str.length_append]; omega⟩ fun T => ⟨[.lst (ps.map .str), .lst (WORDS.map .str)], ?_⟩
    have k1 := fun S => cat (cutS t none (some at_)) (cutS t (some (at_ + 1)) none) S (by omega)
    simp [E, S6, x1, x3, k1]
  · refine done ((cutS t none (some at_) ++ sign) ++ cutS t (some (at_ + 1)) none) ⟨(z1.app hsa).app z3, by rw [Str.length_append, Str.length_append]; omega⟩ fun T => ⟨[.lst (ps.map .str), .lst (WORDS.map .str)], ?_⟩
    have k1 := fun S => cat (cutS t none (some at_)) sign S (by omega)
    have k2 := fun S => cat (cutS t none (some at_) ++ sign) (cutS t (some (at_ + 1)) none) S (by rw [Str.length_append]; omega)
    simp [E, S6, x1, x3, k1, k2]
  · have ha : ∀ y ∈ ps.take spot.toNat ++ ps.drop (spot + 1).toNat, Asc y := fun y hy => (List.mem_append.mp hy).elim (ascT _ y) (ascD _ y)
    obtain ⟨j1, j2⟩ := joined _ ha (by rw [wt_app]; have := wtT spot.toNat; have := wtD (spot + 1).toNat; omega)
    refine done _ j1 fun T => ⟨[.lst (ps.map .str), .lst (WORDS.map .str)], ?_⟩
    obtain ⟨l1, l2⟩ := lo T (S6 T) (s6p T)
    have l1 := l1 spot e0
    have l2 := l2 (spot + 1) (by omega)
    have k1 := fun S => catL (ps.take spot.toNat) (ps.drop (spot + 1).toNat) S (by have := lnT spot.toNat; have := lnD (spot + 1).toNat; omega)
    simp only [S6] at l1 l2
    simp [-List.map_take, -List.map_drop, -List.map_append, E, S6, l1, l2, k1, j2]
  · have ha : ∀ y ∈ ps.take (spot + 1).toNat ++ ps.drop spot.toNat, Asc y := fun y hy => (List.mem_append.mp hy).elim (ascT _ y) (ascD _ y)
    obtain ⟨j1, j2⟩ := joined _ ha (by rw [wt_app]; have := wtT (spot + 1).toNat; have := wtD spot.toNat; omega)
    refine done _ j1 fun T => ⟨[.lst (ps.map .str), .lst (WORDS.map .str)], ?_⟩
    obtain ⟨l1, l2⟩ := lo T (S6 T) (s6p T)
    have l1 := l1 (spot + 1) (by omega)
    have l2 := l2 spot e0
    have k1 := fun S => catL (ps.take (spot + 1).toNat) (ps.drop spot.toNat) S (by have := lnT (spot + 1).toNat; have := lnD spot.toNat; omega)
    simp only [S6] at l1 l2
    simp [-List.map_take, -List.map_drop, -List.map_append, E, S6, l1, l2, k1, j2]
  · have ha : ∀ y ∈ (ps.take spot.toNat ++ [word]) ++ ps.drop (spot + 5 - 5).toNat, Asc y := fun y hy => (List.mem_append.mp hy).elim (fun h => (List.mem_append.mp h).elim (ascT _ y) fun h => by rw [List.mem_singleton.mp h]; exact hwd.1) (ascD _ y)
    have hw1 : wt [word] ≤ 5001 := by have := hwd.2; simp [wt]; omega
    obtain ⟨j1, j2⟩ := joined _ ha (by rw [wt_app, wt_app]; have := wtT spot.toNat; have := wtD (spot + 5 - 5).toNat; omega)
    refine done _ j1 fun T => ⟨[.lst (ps.map .str), .lst (WORDS.map .str)], ?_⟩
    obtain ⟨l1, l2⟩ := lo T (S6 T) (s6p T)
    have l1 := l1 spot e0
    have l2 := l2 (spot + 5 - 5) (by omega)
    have q0 : ∀ S, oAddA (.int spot) (.int 5) S = .ok (.int (spot + 5)) S := fun S => rfl
    have k1 := fun S => catL (ps.take spot.toNat) [word] S (by have := lnT spot.toNat; simp only [List.length_cons, List.length_nil]; omega)
    have k2 := fun S => catL (ps.take spot.toNat ++ [word]) (ps.drop (spot + 5 - 5).toNat) S (by have := lnT spot.toNat; have := lnD (spot + 5 - 5).toNat; simp only [List.length_append, List.length_cons, List.length_nil]; omega)
    rw [show [word].map D.str = [D.str word] from rfl] at k1
    simp only [S6] at l1 l2
    simp [-List.map_take, -List.map_drop, -List.map_append, -Int.add_sub_cancel, -List.append_assoc, E, S6, l1, l2, k1, k2, j2, q0]
  · have ha : ∀ y ∈ (ps.take spot.toNat ++ [word]) ++ ps.drop (spot + 6 - 5).toNat, Asc y := fun y hy => (List.mem_append.mp hy).elim (fun h => (List.mem_append.mp h).elim (ascT _ y) fun h => by rw [List.mem_singleton.mp h]; exact hwd.1) (ascD _ y)
    have hw1 : wt [word] ≤ 5001 := by have := hwd.2; simp [wt]; omega
    obtain ⟨j1, j2⟩ := joined _ ha (by rw [wt_app, wt_app]; have := wtT spot.toNat; have := wtD (spot + 6 - 5).toNat; omega)
    refine done _ j1 fun T => ⟨[.lst (ps.map .str), .lst (WORDS.map .str)], ?_⟩
    obtain ⟨l1, l2⟩ := lo T (S6 T) (s6p T)
    have l1 := l1 spot e0
    have l2 := l2 (spot + 6 - 5) (by omega)
    have q0 : ∀ S, oAddA (.int spot) (.int 6) S = .ok (.int (spot + 6)) S := fun S => rfl
    have k1 := fun S => catL (ps.take spot.toNat) [word] S (by have := lnT spot.toNat; simp only [List.length_cons, List.length_nil]; omega)
    have k2 := fun S => catL (ps.take spot.toNat ++ [word]) (ps.drop (spot + 6 - 5).toNat) S (by have := lnT spot.toNat; have := lnD (spot + 6 - 5).toNat; simp only [List.length_append, List.length_cons, List.length_nil]; omega)
    rw [show [word].map D.str = [D.str word] from rfl] at k1
    simp only [S6] at l1 l2
    simp [-List.map_take, -List.map_drop, -List.map_append, -List.append_assoc, E, S6, l1, l2, k1, k2, j2, q0]
  · obtain ⟨two, hc2, hsub⟩ := cutD_mid D.str ps e0 (w := spot + 2) (by omega)
    have ha2 : ∀ y ∈ two.reverse, Asc y := fun y hy => hps y (hsub.subset (List.mem_reverse.mp hy))
    have hw2 : wt two.reverse ≤ 10001 := by rw [wt_rev]; exact Nat.le_trans (wt_sub hsub) hwt
    have hl2 : two.reverse.length ≤ 10001 := by rw [List.length_reverse]; exact Nat.le_trans hsub.length_le hpl
    have ha : ∀ y ∈ (ps.take spot.toNat ++ two.reverse) ++ ps.drop (spot + 2).toNat, Asc y := fun y hy => (List.mem_append.mp hy).elim (fun h => (List.mem_append.mp h).elim (ascT _ y) (ha2 y)) (ascD _ y)
    obtain ⟨j1, j2⟩ := joined _ ha (by rw [wt_app, wt_app]; have := wtT spot.toNat; have := wtD (spot + 2).toNat; omega)
    refine done _ j1 fun T => ⟨[.lst (ps.map .str), .lst (WORDS.map .str), .lst (two.map .str)], ?_⟩
    have s7p : (S6 T ++ [.lst (two.map .str)])[T.length + 1]? = some (.lst (ps.map .str)) := by
      rw [List.getElem?_append_left (by simp [S6])]
      exact s6p T
    obtain ⟨l1, l2⟩ := lo T (S6 T ++ [.lst (two.map .str)]) s7p
    have l1 := l1 spot e0
    have l2 := l2 (spot + 2) (by omega)
    have l3 : slD (S6 T) (.ref (T.length + 1)) (some spot) (some (spot + 2)) = .ok (.tml (two.map .str)) (S6 T) := by
      unfold slD lstD
      simp only [s6p T]
      rw [hc2]
    have l4 : lstD (S6 T ++ [.lst (two.map .str)]) (.ref (T.length + 3)) = some (two.map .str) := by
      unfold lstD
      have : (S6 T ++ [.lst (two.map .str)])[T.length + 3]? = some (.lst (two.map .str)) := by
        have hz : (S6 T).length = T.length + 3 := by simp [S6]
        rw [← hz]
        exact at0
      simp only [this]
    have k1 := fun S => catL (ps.take spot.toNat) two.reverse S (by have := lnT spot.toNat; omega)
    have k2 := fun S => catL (ps.take spot.toNat ++ two.reverse) (ps.drop (spot + 2).toNat) S (by have := lnT spot.toNat; have := lnD (spot + 2).toNat; simp only [List.length_append]; omega)
    rw [List.map_reverse] at k1
    simp only [S6, List.cons_append, List.append_assoc, List.nil_append] at l1 l2 l3 l4
    simp only [List.append_assoc] at k2 j2
    simp [-List.map_take, -List.map_drop, -List.map_append, E, S6, l1, l2, l3, l4, k1, k2, j2]
  · refine done (cutS t (some at_) none) ⟨z2, by omega⟩ fun T => ⟨[.lst (ps.map .str), .lst (WORDS.map .str)], ?_⟩
    simp [E, S6, x2]


theorem bent_ex (ns : List Int) (d : DS) (t : Str) (ht : Bt t 10000) : ∃ r : Str × DS, Bt r.1 50000 ∧ ∀ T, f__law_bent [.ref 0, .str t] (sto ns d :: T) = .ok (.str r.1) (sto ns r.2 :: T) := by
  obtain ⟨t', p, q, r, ok, h, e⟩ := ev_bent (ns := ns) d.ok ht
  exact ⟨(t', ⟨p, q, r, ok⟩), h, e⟩
end Lk85

set_option maxHeartbeats 4000000
namespace Lk85
open PySem PySem.Spec PyProof.Rows L2 Ah Pg La PySem.NumText
theorem ev_word_of {S : Sto} {x : Pg.It} (h : ItOk x) : f__law_word_of [itD x] S = .ok (.str (itW x)) S := by
  refine fn_same ?_ rfl rfl
  unfold s__law_word_of
  cases x with
  | non => simp [enD, itD, itW]
  | nm s =>
    by_cases hs : s = ""
    · subst hs; simp [enD, itD, itW, snW]
    · simp [enD, itD, itW, snW, hs]
  | num i =>
    have e : ∀ S, pEq (.int i) (.str "") S = some false := fun S => rfl
    have := log_ok h.1 h.2
    simp [enD, itD, itW, e, this]
    rfl
/-- rows of things, in a tuple or a list -/
theorem ev_rows_text {S : Sto} {rs : List (List Pg.It)} {d : D} (h : ∀ r ∈ rs, (∀ x ∈ r, ItOk x) ∧ r ≠ [] ∧ r.length ≤ 10) (hl : rs.length ≤ 1000) (hd : d = .tup (rs.map fun r => .tup (r.map itD)) ∨ ∃ k, d = .ref k ∧ S[k]? = some (.lst (rs.map fun r => .tup (r.map itD)))) :
    f__law_rows_text [d] S = .ok (.str (tX (rs.map fun r => r.map itW))) S := by
  refine fn_same ?_ rfl rfl
  have hel : ∀ r ∈ rs, ∀ y, e__law_rows_text_1 [y, some (.tup (r.map itD)), none] S = .ok (.str (rT (r.map itW) ++ "\n")) S := fun r hr y => by
    obtain ⟨h1, h2, h3⟩ := h r hr
    have hlc : lcF (seqI (varF 1)) (nmG 2) yesF (alF (runF f__law_word_of [] (consA (varF 2) nilA))) [2] [y, some (.tup (r.map itD)), none] S = .ok (.tml (r.map fun x => .str (itW x))) S := by
      refine lc_map itD _ (safe := Alw) (seq_tup (by simp)) trivial (by omega) fun x hx => ⟨_, rfl, rfl, ?_⟩
      have := fun S => ev_word_of (S := S) (h1 x hx)
      simp [this]
    have hj := join_row (rw_its h1 h2 h3) S
    have ha := row_nl (rw_its h1 h2 h3)
    rw [List.map_map] at hj
    simp only [Function.comp_def] at hj
    unfold e__law_rows_text_1
    simp [-List.map_map, hlc, hj, ha]
  have hlc : lcF (seqI (varF 0)) (nmG 1) yesF e__law_rows_text_1 [1] [some d, none, none] S = .ok (.tml (rs.map fun r => .str (rT (r.map itW) ++ "\n"))) S := by
    rcases hd with hd | ⟨k, hd, hk⟩
    · subst hd
      exact lc_map (fun r : List Pg.It => D.tup (r.map itD)) _ (safe := Alw) (seq_tup (by simp)) trivial (by omega) fun r hr => ⟨_, rfl, rfl, hel r hr _⟩
    · subst hd
      exact lc_map (fun r : List Pg.It => D.tup (r.map itD)) _ (safe := fun S' => S'[k]? = some (.lst (rs.map fun r => .tup (r.map itD)))) (seq_ref (i := k) (by simp) hk) hk (by omega) fun r hr => ⟨_, rfl, rfl, hel r hr _⟩
  have hj := join_rows (rs := rs.map fun r => r.map itW) (fun r hr => by
    obtain ⟨x, hx, rfl⟩ := List.mem_map.mp hr
    obtain ⟨h1, h2, h3⟩ := h x hx
    exact rw_its h1 h2 h3) (by simpa using hl) S
  rw [List.map_map] at hj
  simp only [Function.comp_def] at hj
  unfold s__law_rows_text
  simp [-List.map_map, enD, hlc, hj]
theorem ev_lclash_text {S : Sto} {c : Cl} (h : ClOk c) : f__law_clash_text [clD c] S = .ok (.str (rT (clW c))) S := by
  have := ev_clash_text (S := S) h
  unfold f_clash_text s_clash_text at this
  unfold f__law_clash_text s__law_clash_text
  exact this
/-! ### what is drawn -/
def pick (nms : List Str) (i : Int) : Str := nms.getD i.toNat ""
theorem pick_mem {nms : List Str} {i : Int} (h0 : 0 ≤ i) (h1 : i < nms.length) : pick nms i ∈ nms := by
  unfold pick
  have : i.toNat < nms.length := by omega
  rw [List.getD_eq_getElem?_getD, List.getElem?_eq_getElem this]
  exact List.getElem_mem this
theorem ix_pick {nms : List Str} {i : Int} (h0 : 0 ≤ i) (h1 : i < nms.length) : atI (nms.map D.str) i = some (.str (pick nms i)) := by
  have : i.toNat < nms.length := by omega
  unfold atI ixN pick
  rw [if_pos h0, if_pos (by rw [List.length_map]; exact h1)]
  show (nms.map D.str)[i.toNat]? = _
  rw [List.getElem?_map, List.getElem?_eq_getElem this, List.getD_eq_getElem?_getD, List.getElem?_eq_getElem this]
  rfl
theorem ix_ref {S : Sto} {k : Nat} {nms : List Str} {i : Int} (hs : S[k]? = some (.lst (nms.map .str))) (h0 : 0 ≤ i) (h1 : i < nms.length) : ixF (.ref k) (.int i) S = .ok (.str (pick nms i)) S := by
  unfold ixF
  simp only [seqD, hs, ix_pick h0 h1]
theorem ix_tml {S : Sto} {nms : List Str} {i : Int} (h0 : 0 ≤ i) (h1 : i < nms.length) : ixF (.tml (nms.map .str)) (.int i) S = .ok (.str (pick nms i)) S := by
  unfold ixF
  simp only [seqD, ix_pick h0 h1]
noncomputable def deedF (ns : List Int) (nms : List Str) (d : DS) : Dd × DS :=
  let i1 := tk ns d 6; let d1 := tks ns d 6
  let i2 := tk ns d1 7; let d2 := tks ns d1 7
  let m := tk ns d2 1000000000; let d3 := tks ns d2 1000000000
  let i3 := tk ns d3 3; let d4 := tks ns d3 3
  let i4 := tk ns d4 3; let d5 := tks ns d4 3
  let one := pick nms i1
  let mark : Option Int := if i3 = 0 then none else if i3 = 1 then some (1 + m) else some 1000000000
  (if i4 = 0 then .come one (pick ("" :: nms) i2) mark else if i4 = 1 then .act "go" one mark else .act "look" one mark, d5)
theorem deedF_ok {ns : List Int} {nms : List Str} {d : DS} (hl : nms.length = 6) (hn : ∀ n ∈ nms, nmB n = true) : DdOk (deedF ns nms d).1 := by
  unfold deedF
  dsimp only
  have h1 : nmB (pick nms (tk ns d 6)) = true := hn _ (pick_mem tk_lo (by rw [hl]; exact tk_lt (by decide)))
  have h2 : pick ("" :: nms) (tk ns (tks ns d 6) 7) = "" ∨ nmB (pick ("" :: nms) (tk ns (tks ns d 6) 7)) = true := by
    have := pick_mem (nms := "" :: nms) (i := tk ns (tks ns d 6) 7) tk_lo (by simp only [List.length_cons, hl]; exact tk_lt (by decide))
    rcases List.mem_cons.mp this with h | h
    · exact .inl h
    · exact .inr (hn _ h)
  generalize tks ns (tks ns d 6) 7 = d2
  have m0 := tk_lo (ns := ns) (d := d2) (b := 1000000000)
  have m1 := tk_lt (ns := ns) (d := d2) (b := 1000000000) (by decide)
  have h3 : mkOk (if tk ns (tks ns d2 1000000000) 3 = 0 then none else if tk ns (tks ns d2 1000000000) 3 = 1 then some (1 + tk ns d2 1000000000) else some 1000000000) := by
    split
    · trivial
    · split
      · exact ⟨by omega, by omega⟩
      · exact ⟨by decide, by decide⟩
  split
  · exact ⟨h1, h2, h3⟩
  · split
    · exact ⟨.inl rfl, h1, h3⟩
    · exact ⟨.inr rfl, h1, h3⟩
theorem ev_deed1 {ns : List Int} {d : DS} {T : Sto} {k f : Nat} {nms : List Str} {found : List Dd} {z : D} (hl : nms.length = 6) (hk : (sto ns d :: T)[k]? = some (.lst (nms.map .str))) (hk0 : k ≠ 0) (hkf : k ≠ f + 1) (hf : T[f]? = some (.lst (found.map ddD))) (hfl : found.length < 1000) :
    b__law_deeds_1 [some (.ref 0), some (.ref k), some (.ref (f + 1)), some z, none, none, none, none] (sto ns d :: T) =
      .nx [some (.ref 0), some (.ref k), some (.ref (f + 1)), some z, some (.str (pick nms (tk ns d 6))), some (.str (pick ("" :: nms) (tk ns (tks ns d 6) 7))), (some (match (deedF ns nms d).1 with
        | .come _ _ m => itD (mkI m)
        | .act _ _ m => itD (mkI m))), (some (match (deedF ns nms d).1 with
        | .come _ _ m => .str "come"
        | .act w _ m => .str w))] (sto ns (deedF ns nms d).2 :: T.set f (.lst ((found ++ [(deedF ns nms d).1]).map ddD))) := by
  have hkk : ∀ d' : DS, (sto ns d' :: T)[k]? = some (.lst (nms.map .str)) := fun d' => by
    cases k with
    | zero => exact absurd rfl hk0
    | succ k => simpa using hk
  have t1 := ev_tki (ns := ns) (d := d) (T := T) 6
  unfold deedF
  dsimp only
  have a1 := fun S hs => ix_ref (S := S) (k := k) (nms := nms) (i := tk ns d 6) hs tk_lo (by rw [hl]; exact tk_lt (by decide))
  generalize tk ns d 6 = i1 at *
  generalize tks ns d 6 = d1 at *
  have t2 := ev_tki (ns := ns) (d := d1) (T := T) 7
  have a2 := fun S => ix_tml (S := S) (nms := "" :: nms) (i := tk ns d1 7) tk_lo (by simp only [List.length_cons, hl]; exact tk_lt (by decide))
  generalize tk ns d1 7 = i2 at *
  generalize tks ns d1 7 = d2 at *
  have t3 := ev_tki (ns := ns) (d := d2) (T := T) 1000000000
  generalize tk ns d2 1000000000 = m at *
  generalize tks ns d2 1000000000 = d3 at *
  have t4 := ev_tki (ns := ns) (d := d3) (T := T) 3
  have b4 := tk_lo (ns := ns) (d := d3) (b := 3)
  have c4 := tk_lt (ns := ns) (d := d3) (b := 3) (by decide)
  generalize tk ns d3 3 = i3 at *
  generalize tks ns d3 3 = d4 at *
  have t5 := ev_tki (ns := ns) (d := d4) (T := T) 3
  have b5 := tk_lo (ns := ns) (d := d4) (b := 3)
  have c5 := tk_lt (ns := ns) (d := d4) (b := 3) (by decide)
  generalize tk ns d4 3 = i4 at *
  generalize tks ns d4 3 = d5 at *
  have hlen : ∀ d' : DS, gLen [.ref k] (sto ns d' :: T) = .ok (.int 6) (sto ns d' :: T) := fun d' => by simp [gLen, seqD, hkk, hl]
  have hadd : ∀ d' : DS, oAddA (.tml [.str ""]) (.ref k) (sto ns d' :: T) = .ok (.tml ((("" : Str) :: nms).map D.str)) (sto ns d' :: T) := fun d' => by
    unfold oAddA
    simp [mlsD, hkk, hl]
  have p9 : (10 : Int) ^ 9 = 1000000000 := by decide
  have x3 : ∀ (S : Sto) (a b c : D), ixF (.tml [a, b, c]) (.int i3) S = .ok (if i3 = 0 then a else if i3 = 1 then b else c) S := fun S a b c => by
    have : i3 = 0 ∨ i3 = 1 ∨ i3 = 2 := by omega
    rcases this with rfl | rfl | rfl <;> rfl
  have x4 : ∀ (S : Sto) (a b c : D), ixF (.tml [a, b, c]) (.int i4) S = .ok (if i4 = 0 then a else if i4 = 1 then b else c) S := fun S a b c => by
    have : i4 = 0 ∨ i4 = 1 ∨ i4 = 2 := by omega
    rcases this with rfl | rfl | rfl <;> rfl
  have y0 : ∀ (x y : D) S, ixF (.tml [x, y]) (.int 0) S = .ok x S := fun x y S => rfl
  have y1 : ∀ (x y : D) S, ixF (.tml [x, y]) (.int 1) S = .ok y S := fun x y S => rfl
  have hm : ∀ S : Sto, (if i3 = 0 then D.non else if i3 = 1 then D.int (1 + m) else D.int 1000000000) = itD (mkI (if i3 = 0 then none else if i3 = 1 then some (1 + m) else some 1000000000)) := fun S => by
    split
    · rfl
    · split <;> rfl
  have hfS : ∀ d' : DS, (sto ns d' :: T)[f + 1]? = some (.lst (found.map ddD)) := fun d' => by simpa using hf
  have happ : ∀ (x : D), isTml x = false → gApp (.ref (f + 1)) [x] (sto ns d5 :: T) = .ok .non (sto ns d5 :: T.set f (.lst (found.map ddD ++ [x]))) := fun x hx => by
    have : found.length < 16777216 := by omega
    simp [gApp, hf, hx, this]
  unfold b__law_deeds_1
  refine (seq_nx (e := [some (.ref 0), some (.ref k), some (.ref (f + 1)), some z, some (.str (pick nms i1)), some (.str (pick ("" :: nms) i2)), none, none]) (S1 := sto ns d2 :: T) ?_).trans ?_
  · simp [-List.map_cons, hlen, t1, a1, hkk, hadd, t2, a2]
  refine (seq_nx (e := [some (.ref 0), some (.ref k), some (.ref (f + 1)), some z, some (.str (pick nms i1)), some (.str (pick ("" :: nms) i2)), some (itD (mkI (if i3 = 0 then none else if i3 = 1 then some (1 + m) else some 1000000000))), none]) (S1 := sto ns d4 :: T) ?_).trans ?_
  · simp [p9, t3, t4, x3, hm [], oAdd, ii0]
  refine (seq_nx (e := [some (.ref 0), some (.ref k), some (.ref (f + 1)), some z, some (.str (pick nms i1)), some (.str (pick ("" :: nms) i2)), some (itD (mkI (if i3 = 0 then none else if i3 = 1 then some (1 + m) else some 1000000000))), some (if i4 = 0 then .str "come" else if i4 = 1 then .str "go" else .str "look")]) (S1 := sto ns d5 :: T) ?_).trans ?_
  · simp [t5, x4]
  generalize (if i3 = 0 then none else if i3 = 1 then some (1 + m) else some 1000000000 : Option Int) = mk
  have h4 : i4 = 0 ∨ i4 = 1 ∨ i4 = 2 := by omega
  have ty : tyD "list" (.ref (f + 1)) (sto ns d5 :: T) = true := by simp [tyD, hf]
  rcases h4 with rfl | rfl | rfl
  · have := happ (ddD (.come (pick nms i1) (pick ("" :: nms) i2) mk)) rfl
    simp [ddD, ddI, itD] at this
    simp [y0, y1, this, ty, ddD, ddI, itD]
  · have := happ (ddD (.act "go" (pick nms i1) mk)) rfl
    simp [ddD, ddI, itD] at this
    simp [y0, y1, this, ty, ddD, ddI, itD]
  · have := happ (ddD (.act "look" (pick nms i1) mk)) rfl
    simp [ddD, ddI, itD] at this
    simp [y0, y1, this, ty, ddD, ddI, itD]
end Lk85

set_option maxHeartbeats 4000000
namespace Ah
open PySem PySem.Spec PyProof.Rows L2
theorem foldl_mapD {α β : Type} (f : DS → α → β × DS) : ∀ (l : List α) (acc : List β) (d : DS), l.foldl (fun (s : List β × DS) a => (s.1 ++ [(f s.2 a).1], (f s.2 a).2)) (acc, d) = (acc ++ (mapD f d l).1, (mapD f d l).2)
  | [], acc, d => by simp [mapD]
  | a :: l, acc, d => by
    rw [List.foldl_cons, foldl_mapD f l]
    simp [mapD]
end Ah
namespace Lk85
open PySem PySem.Spec PyProof.Rows L2 Ah Pg La PySem.NumText
noncomputable def deedsF (ns : List Int) (nms : List Str) (d : DS) : List Dd × DS := mapD (fun d (_ : Nat) => deedF ns nms d) (tks ns d 11) (List.range (tk ns d 11).toNat)
theorem deedsF_len {ns : List Int} {nms : List Str} {d : DS} : (deedsF ns nms d).1.length ≤ 10 := by
  unfold deedsF
  rw [mapD_length, List.length_range]
  have := tk_lt (ns := ns) (d := d) (b := 11) (by decide)
  omega
theorem deedsF_ok {ns : List Int} {nms : List Str} {d : DS} (hl : nms.length = 6) (hn : ∀ n ∈ nms, nmB n = true) : ∀ x ∈ (deedsF ns nms d).1, DdOk x :=
  mapD_all (P := DdOk) _ _ fun _ _ d => deedF_ok hl hn
theorem ev_deeds {ns : List Int} {d : DS} {T : Sto} {k : Nat} {nms : List Str} (hl : nms.length = 6) (hk : T[k]? = some (.lst (nms.map .str))) :
    f__law_deeds [.ref 0, .ref (k + 1)] (sto ns d :: T) = .ok (.tup ((deedsF ns nms d).1.map ddD)) (sto ns (deedsF ns nms d).2 :: T) := by
  have hkl := (List.getElem?_eq_some_iff.mp hk).1
  have t0 := ev_tki (ns := ns) (d := d) (T := T ++ [.lst []]) 11
  have b0 := tk_lo (ns := ns) (d := d) (b := 11)
  have b1 := tk_lt (ns := ns) (d := d) (b := 11) (by decide)
  unfold deedsF
  generalize tk ns d 11 = n at *
  generalize tks ns d 11 = d1 at *
  let E : List Dd × DS → En := fun _ => [some (.ref 0), some (.ref (k + 1)), some (.ref (T.length + 1)), none, none, none, none, none]
  let F : List Dd × DS → Sto := fun s => sto ns s.2 :: (T ++ [.lst (s.1.map ddD)])
  have lp := loop_fold (g := nmG 3) (safe := Alw) (b := gcS [3, 4, 5, 6, 7] b__law_deeds_1) (fun l s => s.1.length + l.length ≤ 100) (fun i : Nat => D.int (0 + (i : Int))) E F (fun s _ => (s.1 ++ [(deedF ns nms s.2).1], (deedF ns nms s.2).2)) (fun _ _ _ => trivial)
    (fun x l s hs => by
      simp only [List.length_cons] at hs
      refine ⟨by simp; omega, _, rfl, ?_⟩
      have hb := ev_deed1 (ns := ns) (d := s.2) (T := T ++ [.lst (s.1.map ddD)]) (k := k + 1) (f := T.length) (nms := nms) (found := s.1) (z := .int (0 + (x : Int))) hl (by simpa [List.getElem?_append_left hkl] using hk) (by omega) (by omega) (by simp) (by omega)
      rw [List.set_append_right _ _ (Nat.le_refl _), Nat.sub_self] at hb
      have hb2 := hb.trans (show _ = RS.nx _ (F (s.1 ++ [(deedF ns nms s.2).1], (deedF ns nms s.2).2) ++ []) by rw [List.append_nil]; rfl)
      exact gc_nx hb2 (Chg2.cons sto_bel (Chg2.app (Chg2.cons (bel_lst (noRefs_dd _)) Chg2.refl))) (by simp [belE, D.bel]; omega)) (List.range n.toNat) ([], d1) (by simp; omega)
  rw [foldl_mapD (fun d (_ : Nat) => deedF ns nms d)] at lp
  simp only [E, F] at lp
  have hfor := for_of (fi := rngI1 (consA (alF (runF La.f__law_take [] (consA (varF 0) (consA (cF (.int 11)) nilA)))) nilA)) (g := nmG 3) (b := gcS [3, 4, 5, 6, 7] b__law_deeds_1) (env := [some (.ref 0), some (.ref (k + 1)), some (.ref (T.length + 1)), none, none, none, none, none]) (S := sto ns d :: (T ++ [Ob.lst []])) (S1 := sto ns d1 :: (T ++ [Ob.lst []])) (safe := Alw) (rng1I (n := n) (by simp [t0]) (n62 b0 (by omega))) trivial lp.2
  simp only [List.nil_append] at hfor
  refine wrap_sto (J := [.lst ((mapD (fun d (_ : Nat) => deedF ns nms d) d1 (List.range n.toNat)).1.map ddD)]) ?_ rfl (noRefs_dd _)
  unfold s__law_deeds
  simp [-v_for, enD, hfor, Ah.gTup, lstD]
noncomputable def namesF (ns : List Int) (nms : List Str) (d : DS) (n : Nat) : List Str × DS := mapD (fun d (_ : Nat) => (pick nms (tk ns d 6), tks ns d 6)) d (List.range n)
theorem namesF_len {ns : List Int} {nms : List Str} {d : DS} {n : Nat} : (namesF ns nms d n).1.length = n := by unfold namesF; rw [mapD_length, List.length_range]
theorem namesF_nm {ns : List Int} {nms : List Str} {d : DS} {n : Nat} (hl : nms.length = 6) (hn : ∀ n ∈ nms, nmB n = true) : ∀ x ∈ (namesF ns nms d n).1, nmB x = true :=
  mapD_all (P := fun x => nmB x = true) _ _ fun _ _ d => hn _ (pick_mem tk_lo (by rw [hl]; exact tk_lt (by decide)))
noncomputable def clashF (ns : List Int) (nms : List Str) (d : DS) : Cl × DS :=
  let n := tk ns d 4; let d1 := tks ns d 4
  let l := namesF ns nms d1 (2 + n).toNat
  let i := tk ns l.2 3
  (if i = 0 then .late (l.1.headD "") else if i = 1 then .many "ring" l.1 else .many "between" l.1, tks ns l.2 3)
theorem clashF_ok {ns : List Int} {nms : List Str} {d : DS} (hl : nms.length = 6) (hn : ∀ n ∈ nms, nmB n = true) : ClOk (clashF ns nms d).1 := by
  have b0 := tk_lo (ns := ns) (d := d) (b := 4)
  have b1 := tk_lt (ns := ns) (d := d) (b := 4) (by decide)
  unfold clashF
  dsimp only
  generalize tk ns d 4 = n at *
  have h1 := namesF_len (ns := ns) (nms := nms) (d := tks ns d 4) (n := (2 + n).toNat)
  have h2 := namesF_nm (ns := ns) (nms := nms) (d := tks ns d 4) (n := (2 + n).toNat) hl hn
  generalize namesF ns nms (tks ns d 4) (2 + n).toNat = l at *
  split
  · show nmB (l.1.headD "") = true
    cases hc : l.1 with
    | nil => rw [hc] at h1; simp at h1; omega
    | cons a r => exact h2 a (by rw [hc]; simp)
  · split
    · exact ⟨.inl rfl, by omega, by omega, h2⟩
    · exact ⟨.inr rfl, by omega, by omega, h2⟩
theorem ev_clash {ns : List Int} {d : DS} {T : Sto} {k : Nat} {nms : List Str} (hl : nms.length = 6) (hk : T[k]? = some (.lst (nms.map .str))) :
    f__law_clash [.ref 0, .ref (k + 1)] (sto ns d :: T) = .ok (clD (clashF ns nms d).1) (sto ns (clashF ns nms d).2 :: T) := by
  have t0 := ev_tki (ns := ns) (d := d) (T := T) 4
  have b0 := tk_lo (ns := ns) (d := d) (b := 4)
  have b1 := tk_lt (ns := ns) (d := d) (b := 4) (by decide)
  unfold clashF
  dsimp only
  generalize tk ns d 4 = n at *
  generalize tks ns d 4 = d1 at *
  have hlen : ∀ d' : DS, gLen [.ref (k + 1)] (sto ns d' :: T) = .ok (.int 6) (sto ns d' :: T) := fun d' => by simp [gLen, seqD, hk, hl]
  have hlc : lcF (rngI1 (consA (opF oAdd (cF (.int 2)) (runF La.f__law_take [] (consA (varF 0) (consA (cF (.int 4)) nilA)))) nilA)) (nmG 3) yesF e__law_clash_1 [3] [some (.ref 0), some (.ref (k + 1)), none, none] (sto ns d :: T) = .ok (.tml ((namesF ns nms d1 (2 + n).toNat).1.map .str)) (sto ns (namesF ns nms d1 (2 + n).toNat).2 :: T) := by
    refine lc_st (List.range (2 + n).toNat) (fun i : Nat => D.int (0 + (i : Int))) D.str (fun d (_ : Nat) => (pick nms (tk ns d 6), tks ns d 6)) (d := d1) ?_ (by rw [List.length_range]; omega) fun a ha d => ⟨_, rfl, ?_⟩
    · exact rng1I (n := 2 + n) (by simp [t0]) (n62 (by omega) (by omega))
    · have t1 := ev_tki (ns := ns) (d := d) (T := T) 6
      have a1 := ix_ref (S := sto ns (tks ns d 6) :: T) (k := k + 1) (nms := nms) (i := tk ns d 6) (by simpa using hk) tk_lo (by rw [hl]; exact tk_lt (by decide))
      generalize D.int (0 + (a : Int)) = z
      unfold e__law_clash_1
      simp [hlen, t1, a1]
  have h1 := namesF_len (ns := ns) (nms := nms) (d := d1) (n := (2 + n).toNat)
  generalize namesF ns nms d1 (2 + n).toNat = l at *
  have t2 := ev_tki (ns := ns) (d := l.2) (T := T) 3
  have b2 := tk_lo (ns := ns) (d := l.2) (b := 3)
  have b3 := tk_lt (ns := ns) (d := l.2) (b := 3) (by decide)
  generalize tk ns l.2 3 = i at *
  generalize tks ns l.2 3 = d3 at *
  obtain ⟨a, r, hc⟩ : ∃ a r, l.1 = a :: r := by
    cases hc : l.1 with
    | nil => rw [hc] at h1; simp at h1; omega
    | cons a r => exact ⟨a, r, rfl⟩
  have i0 : ∀ S, ixF (.tup (l.1.map D.str)) (.int 0) S = .ok (.str a) S := fun S => by
    rw [hc]
    unfold ixF
    simp only [seqD, List.map_cons, atI0]
  have x3 : ∀ (S : Sto) (a b c : D), ixF (.tml [a, b, c]) (.int i) S = .ok (if i = 0 then a else if i = 1 then b else c) S := fun S a b c => by
    have : i = 0 ∨ i = 1 ∨ i = 2 := by omega
    rcases this with rfl | rfl | rfl <;> rfl
  have hr : (if i = 0 then Cl.late (l.1.headD "") else if i = 1 then .many "ring" l.1 else .many "between" l.1) = (if i = 0 then Cl.late a else if i = 1 then .many "ring" l.1 else .many "between" l.1) := by rw [hc]; rfl
  rw [hr]
  have hd : clD (if i = 0 then Cl.late a else if i = 1 then .many "ring" l.1 else .many "between" l.1) = if i = 0 then .tup [.str "late", .str a] else if i = 1 then .tup [.str "ring", .tup (l.1.map .str)] else .tup [.str "between", .tup (l.1.map .str)] := by
    split
    · rfl
    · split <;> rfl
  refine wrap_sto (J := []) ?_ (by rw [hd]; split; rfl; split <;> rfl) (noRef_cl _)
  rw [hd]
  have hgt : ∀ S, Ah.gTup [.tml (l.1.map .str)] S = .ok (.tup (l.1.map .str)) S := fun S => rfl
  unfold s__law_clash
  simp [enD, hlc, hgt, i0, t2, x3]
end Lk85

set_option maxHeartbeats 4000000
namespace Lk85
open PySem PySem.Spec PyProof.Rows L2 Ah Pg La PySem.NumText
/-! ### read back -/
theorem mk_back {m : Option Int} (h : mkOk m) : mkO (itW (mkI m)) = some m := by
  unfold mkO
  cases m with
  | none => exact if_pos rfl
  | some i =>
    show (if numS i = "." then some none else (numO (numS i)).map some) = some (some i)
    have hne : numS i ≠ "." := fun z => by
      have h1 := num_back h.1 h.2
      rw [z] at h1
      exact absurd h1 (by rw [show numO "." = none from by decide +kernel]; simp)
    rw [if_neg hne, num_back h.1 h.2]
    rfl
theorem seen_back {b : Str} (h : b = "" ∨ nmB b = true) : seenO (snW b) = some b := by
  unfold snW seenO
  by_cases h0 : b = ""
  · rw [if_pos h0, if_pos rfl, h0]
  · rw [if_neg h0]
    rcases h with e | e
    · exact absurd e h0
    · have : b ≠ "-" := fun z => by
        rw [z] at e
        exact absurd e (by decide +kernel)
      rw [if_neg this, if_pos e]
theorem dd_back {d : Dd} (h : DdOk d) : rdD (rT (ddW d)) = some d := by
  unfold rdD
  rw [rT_split (dd_rw h)]
  cases d with
  | come n b m =>
    obtain ⟨h1, h2, h3⟩ := h
    simp only [ddW, ddI, List.map_cons, List.map_nil, itW_nm h1, dO]
    rw [show itW (.nm "come") = "come" from by decide +kernel, if_pos ⟨rfl, h1⟩, mk_back h3, show itW (.nm b) = snW b from rfl, seen_back h2]
  | act w n m =>
    obtain ⟨h1, h2, h3⟩ := h
    have hw : nmB w = true := by rcases h1 with rfl | rfl <;> decide +kernel
    simp only [ddW, ddI, List.map_cons, List.map_nil, itW_nm h2, itW_nm hw, dO]
    rw [if_pos ⟨h1, h2⟩, mk_back h3]
    rfl
theorem go_back : ∀ (l : List Dd) (k : Nat), (∀ d ∈ l, DdOk d) → goX rdD k (l.map fun d => rT (ddW d)) = .inr l
  | [], _, _ => rfl
  | d :: l, k, h => by
    rw [List.map_cons]
    unfold goX
    rw [dd_back (h d (by simp)), go_back l (k + 1) fun q hq => h q (by simp [hq])]
theorem hist_back {l : List Dd} (h : ∀ d ∈ l, DdOk d) : res 0 (tX (l.map ddW)) = [.str "read", .tup (l.map ddD)] := by
  have e := tX_split (rs := l.map ddW) fun r hr => by
    obtain ⟨d, hd, rfl⟩ := List.mem_map.mp hr
    exact dd_rw (h d hd)
  rw [res0 e, List.map_map]
  unfold readX
  rw [show (l.map (rT ∘ ddW)) = l.map fun d => rT (ddW d) from rfl, go_back l 0 h]
  simp [toldX]
theorem goX_all : ∀ (ps : List Str) (k : Nat), (∀ p ∈ ps, nmB p = true) → goX nmO k ps = .inr ps
  | [], _, _ => rfl
  | p :: ps, k, h => by
    unfold goX nmO
    rw [if_pos (h p (by simp))]
    have := goX_all ps (k + 1) fun q hq => h q (by simp [hq])
    unfold nmO at this
    rw [this]
theorem line_back {l : List Str} (h : ∀ n ∈ l, nmB n = true) : res 1 (rT l) = [.str "read", .tup (l.map .str)] := by
  unfold res readL
  simp only [show ¬ ((1 : Int) = 0) by decide, if_false, if_true]
  cases l with
  | nil => rw [if_pos (by decide +kernel)]; rfl
  | cons a r =>
    have hne : rT (a :: r) ≠ "" := fun z => by
      have := nm_split (ws := a :: r) (by simp) h
      rw [z] at this
      have h1 : Txt.split ("" : Str) " " = [("" : Str)] := by decide +kernel
      rw [h1] at this
      have h2 := h a (by simp)
      injection this with e1 e2
      exact nmB_ne h2 e1.symm
    rw [if_neg hne, nm_split (by simp) h, goX_all _ _ h]
    rfl
theorem clash_back {c : Cl} (h : ClOk c) : res 2 (rT (clW c)) = [.str "read", clD c] := by
  unfold res
  simp only [show ¬ ((2 : Int) = 0) by decide, show ¬ ((2 : Int) = 1) by decide, if_false]
  rw [nm_split (by cases c <;> simp [clW]) (clW_nm h), clO_back h]
  rfl
/-! ### bent -/
open Classical in
noncomputable def bentF (ns : List Int) (s : Str × DS) : Str × DS := if h : Bt s.1 10000 then (cutS (Classical.choose (bent_ex ns s.2 s.1 h)).1 none (some 10000), (Classical.choose (bent_ex ns s.2 s.1 h)).2) else s
theorem bentF_bt {ns : List Int} {s : Str × DS} (h : Bt s.1 10000) : Bt (bentF ns s).1 10000 := by
  unfold bentF
  rw [dif_pos h]
  have hb := (Classical.choose_spec (bent_ex ns s.2 s.1 h)).1
  refine ⟨hb.a.hi (by decide), ?_⟩
  have := cut_hi (z := (Classical.choose (bent_ex ns s.2 s.1 h)).1) (a := 10000) (by decide)
  rw [TL.len_tl, this, List.length_take]
  exact Nat.min_le_left _ _
theorem ev_bentF {ns : List Int} {s : Str × DS} {T : Sto} (h : Bt s.1 10000) : slF (runF f__law_bent [] (consA (varF 1) (consA (varF 11) nilA))) noO (soO (cF (.int 10000))) [x0, some (.ref 0), x2, x3, x4, x5, x6, x7, x8, x9, x10, some (.str s.1), x12, x13, x14] (sto ns s.2 :: T) = .ok (.str (bentF ns s).1) (sto ns (bentF ns s).2 :: T) := by
  have hb := (Classical.choose_spec (bent_ex ns s.2 s.1 h))
  have e := hb.2 T
  have hl := hb.1.l
  have hl2 : (Classical.choose (bent_ex ns s.2 s.1 h)).1.length ≤ 16777216 := by omega
  unfold bentF
  rw [dif_pos h]
  simp [e, slD, hl2]
theorem repr_ref {S : Sto} {k : Nat} {xs : List D} (h : S[k]? = some (.lst xs)) : gRepr [.ref k] S = gRepr [.tml xs] S := by
  unfold gRepr pdS
  simp [h]
/-- the bent text of a door -/
noncomputable def bents (ns : List Int) (t : Str) (d : DS) : Str × DS := (List.range (1 + tk ns d 3).toNat).foldl (fun s _ => bentF ns s) (t, tks ns d 3)
end Lk85

set_option maxHeartbeats 4000000
namespace Lk85
open PySem PySem.Spec PyProof.Rows L2 Ah Pg La PySem.NumText
/-- a thing of a door: its text, itself -/
structure Thg (door : Int) (t : Str) (x : D) : Prop where
  bt : Bt t 10000
  back : res door t = [.str "read", x]
  nr : noRef x = true
  pl : plD x = true
theorem bents_bt {ns : List Int} {t : Str} {d : DS} (h : Bt t 10000) : Bt (bents ns t d).1 10000 := by
  unfold bents
  generalize List.range (1 + tk ns d 3).toNat = l
  generalize tks ns d 3 = d1
  induction l generalizing t d1 with
  | nil => exact h
  | cons a l ih =>
    rw [List.foldl_cons]
    exact ih (bentF_bt (s := (t, d1)) h) (bentF ns (t, d1)).2
theorem ev_bents {ns : List Int} {t : Str} {d : DS} {T : Sto} {x0 x2 x3 x4 x5 x6 x7 x8 x9 x10 x13 x14 : Option D} (h : Bt t 10000) (hb : belE (T.length + 1) [x0, x2, x3, x4, x5, x6, x7, x8, x9, x10, x13, x14] = true) :
    forS (rngI1 (consA (opF oAdd (cF (.int 1)) (runF La.f__law_take [] (consA (varF 1) (consA (cF (.int 3)) nilA)))) nilA)) (nmG 12) (gcS [12] b_law_1) [x0, some (.ref 0), x2, x3, x4, x5, x6, x7, x8, x9, x10, some (.str t), none, x13, x14] (sto ns d :: T) =
      .nx [x0, some (.ref 0), x2, x3, x4, x5, x6, x7, x8, x9, x10, some (.str (bents ns t d).1), none, x13, x14] (sto ns (bents ns t d).2 :: T) := by
  have t0 := ev_tki (ns := ns) (d := d) (T := T) 3
  have b0 := tk_lo (ns := ns) (d := d) (b := 3)
  have b1 := tk_lt (ns := ns) (d := d) (b := 3) (by decide)
  unfold bents
  generalize tk ns d 3 = n at *
  generalize tks ns d 3 = d1 at *
  let E : Str × DS → En := fun s => [x0, some (.ref 0), x2, x3, x4, x5, x6, x7, x8, x9, x10, some (.str s.1), none, x13, x14]
  have lp := loop_fold (g := nmG 12) (safe := Alw) (b := gcS [12] b_law_1) (fun l (s : Str × DS) => Bt s.1 10000) (fun i : Nat => D.int (0 + (i : Int))) E (fun s => sto ns s.2 :: T) (fun s _ => bentF ns s) (fun _ _ _ => trivial)
    (fun x l s hs => by
      refine ⟨bentF_bt hs, _, rfl, ?_⟩
      have hv := ev_bentF (ns := ns) (s := s) (T := T) (x0 := x0) (x2 := x2) (x3 := x3) (x4 := x4) (x5 := x5) (x6 := x6) (x7 := x7) (x8 := x8) (x9 := x9) (x10 := x10) (x12 := some (.int (0 + (x : Int)))) (x13 := x13) (x14 := x14) hs
      have hb2 : b_law_1 [x0, some (.ref 0), x2, x3, x4, x5, x6, x7, x8, x9, x10, some (.str s.1), some (.int (0 + (x : Int))), x13, x14] (sto ns s.2 :: T) = .nx [x0, some (.ref 0), x2, x3, x4, x5, x6, x7, x8, x9, x10, some (.str (bentF ns s).1), some (.int (0 + (x : Int))), x13, x14] (sto ns (bentF ns s).2 :: T ++ []) := by
        unfold b_law_1
        simp only [v_set, v_al, hv]
        simp
      refine gc_nx hb2 (Chg2.cons sto_bel Chg2.refl) ?_
      unfold belE at hb ⊢
      simp only [List.all_cons, List.all_nil, Bool.and_true, Bool.and_eq_true, List.length_cons] at hb ⊢
      obtain ⟨a0, a2, a3, a4, a5, a6, a7, a8, a9, a10, a13, a14⟩ := hb
      simp [a0, a2, a3, a4, a5, a6, a7, a8, a9, a10, a13, a14, D.bel]) (List.range (1 + n).toNat) (t, d1) h
  exact for_of (S1 := sto ns d1 :: T) (safe := Alw) (rng1I (n := 1 + n) (by simp [t0]) (n62 (by omega) (by omega))) trivial lp.2
/-- a door -/
theorem ev_door {ns : List Int} {d : DS} {T : Sto} {door : Int} {t : Str} {x : D} {texts things : List D} {z : Option D} {x0 x2 x3 x4 x5 x6 x7 x13 x14 : Option D} (h0 : 0 ≤ door) (h1 : door < 3) (ht : T[2]? = some (.lst texts)) (hx : T[3]? = some (.lst things))
    (it : atI texts door = some (.str t)) (ix : atI things door = some x) (g : Thg door t x) (hb : belE (T.length + 1) [x0, x2, x3, x4, x5, x6, x7, some (.ref 3), some (.ref 4), some (.int door), x13, x14] = true) :
    b_law_2 [x0, some (.ref 0), x2, x3, x4, x5, x6, x7, some (.ref 3), some (.ref 4), some (.int door), none, none, x13, x14] (sto ns d :: T) =
      .nx [x0, some (.ref 0), x2, x3, x4, x5, x6, x7, some (.ref 3), some (.ref 4), some (.int door), some (.str (bents ns t d).1), none, x13, x14] (sto ns (bents ns t d).2 :: T) := by
  have e1 := ev_bents (ns := ns) (t := t) (d := d) (T := T) (x0 := x0) (x2 := x2) (x3 := x3) (x4 := x4) (x5 := x5) (x6 := x6) (x7 := x7) (x8 := some (.ref 3)) (x9 := some (.ref 4)) (x10 := some (.int door)) (x13 := x13) (x14 := x14) g.bt hb
  have bb := bents_bt (ns := ns) (d := d) g.bt
  generalize bents ns t d = b at *
  have hix : ∀ d' : DS, ixF (.ref 3) (.int door) (sto ns d' :: T) = .ok (.str t) (sto ns d' :: T) := fun d' => by
    unfold ixF
    simp only [seqD, List.getElem?_cons_succ, ht, it]
  have hix2 : ∀ d' : DS, ixF (.ref 4) (.int door) (sto ns d' :: T) = .ok x (sto ns d' :: T) := fun d' => by
    unfold ixF
    simp only [seqD, List.getElem?_cons_succ, hx, ix]
  have w1 := fun S => ev_told (S := S) (g.bt.tx (by decide)) h0 h1
  have w2 := fun S => ev_told (S := S) (bb.tx (by decide)) h0 h1
  have w3 := fun S => ev_due (S := S) (bb.tx (by decide)) (by have := bb.l; omega) h0 h1
  obtain ⟨s1, r1⟩ := (gds_res (door := door) (x := t) g.bt.l).repr (by decide) (by decide)
  obtain ⟨s2, r2⟩ := (gds_res (door := door) (x := b.1) bb.l).repr (by decide) (by decide)
  rw [g.back] at w1 r1
  have hne : ∀ (s : Str) (S : Sto), pNe (.str s) (.str s) S = some false := fun s S => by simp
  unfold b_law_2
  refine (seq_nx (e := [x0, some (.ref 0), x2, x3, x4, x5, x6, x7, some (.ref 3), some (.ref 4), some (.int door), some (.str t), none, x13, x14]) (S1 := sto ns d :: T) ?_).trans ?_
  · simp [hix]
  refine (seq_nx (e := [x0, some (.ref 0), x2, x3, x4, x5, x6, x7, some (.ref 3), some (.ref 4), some (.int door), some (.str b.1), none, x13, x14]) (S1 := sto ns b.2 :: T) ?_).trans ?_
  · rw [v_wp]
    simp only [v_wipe1, v_wipe0, List.set_cons_succ, List.set_cons_zero]
    exact e1
  refine (seq_nx (e := [x0, some (.ref 0), x2, x3, x4, x5, x6, x7, some (.ref 3), some (.ref 4), some (.int door), some (.str b.1), none, x13, x14]) (S1 := sto ns b.2 :: T) ?_).trans ?_
  · simp [hix, hix2, w1, r1]
  · simp [w2, w3, r2]
end Lk85

set_option maxHeartbeats 4000000
namespace Lk85
open PySem PySem.Spec PyProof.Rows L2 Ah Pg La PySem.NumText
/-- rows of protests drawn for a line -/
noncomputable def protF (ns : List Int) (nms : List Str) (d : DS) (one : Str) : List Str × DS :=
  let i := tk ns d 3; let d1 := tks ns d 3
  ([one, if i = 0 then "ahead" else if i = 1 then "late" else "between", pick nms (tk ns d1 6)], tks ns d1 6)
noncomputable def turnF (ns : List Int) (d : DS) : DS :=
  let nm := names ns d 6
  let dd := deedsF ns nm.1 nm.2
  let cl := clashF ns nm.1 dd.2
  let n := tk ns cl.2 7
  let ln := namesF ns nm.1 (tks ns cl.2 7) n.toNat
  let rw := mapD (protF ns nm.1) ln.2 ln.1
  let b0 := (bents ns (tX (dd.1.map ddW)) rw.2).2
  let b1 := (bents ns (rT ln.1) b0).2
  (bents ns (rT (clW cl.1)) b1).2
theorem prot_nm {ns : List Int} {nms : List Str} (hl : nms.length = 6) (hn : ∀ n ∈ nms, nmB n = true) {l : List Str} (h : ∀ n ∈ l, nmB n = true) (d : DS) : ∀ r ∈ (mapD (protF ns nms) d l).1, (∀ w ∈ r, nmB w = true) ∧ r.length = 3 := by
  refine mapD_all (P := fun r : List Str => (∀ w ∈ r, nmB w = true) ∧ r.length = 3) _ _ fun a ha d => ?_
  unfold protF
  dsimp only
  refine ⟨fun w hw => ?_, rfl⟩
  simp only [List.mem_cons, List.not_mem_nil, or_false] at hw
  rcases hw with rfl | rfl | rfl
  · exact h _ ha
  · split
    · decide +kernel
    · split <;> decide +kernel
  · exact hn _ (pick_mem tk_lo (by rw [hl]; exact tk_lt (by decide)))
theorem ev_turn {ns : List Int} {d : DS} {sc z2 : D} {z : Option D} (hs : noRef sc = true) (hz2 : noRef z2 = true) :
    ∃ e J, b_law_3 [some sc, some (.ref 0), some z2, none, none, none, none, none, none, none, z, none, none, none, none] [sto ns d] = .nx e ([sto ns (turnF ns d)] ++ J) ∧ wipeE e [2, 3, 4, 5, 6, 7, 8, 9, 11, 12, 14] = [some sc, some (.ref 0), none, none, none, none, none, none, none, none, some (.int 2), none, none, none, none] := by
  have t1 := ev_names (ns := ns) (d := d) (T := []) 6 (m := 6)
  unfold turnF
  dsimp only
  have hl := names_len (ns := ns) (d := d) (many := 6)
  have hn := names_nm (ns := ns) (d := d) (many := 6)
  generalize names ns d 6 = nm at *
  obtain ⟨nms, d1⟩ := nm
  dsimp only at *
  have t2 := ev_deeds (ns := ns) (d := d1) (T := [.lst (nms.map .str)]) (k := 0) hl rfl
  have dok := deedsF_ok (ns := ns) (d := d1) hl hn
  have dln := deedsF_len (ns := ns) (d := d1) (nms := nms)
  generalize deedsF ns nms d1 = dd at *
  obtain ⟨ds, d2⟩ := dd
  dsimp only at *
  have t3 := ev_clash (ns := ns) (d := d2) (T := [.lst (nms.map .str)]) (k := 0) hl rfl
  have cok := clashF_ok (ns := ns) (d := d2) hl hn
  generalize clashF ns nms d2 = cc at *
  obtain ⟨cl, d3⟩ := cc
  dsimp only at *
  have t4 := ev_tki (ns := ns) (d := d3) (T := [.lst (nms.map .str)]) 7
  have n0 := tk_lo (ns := ns) (d := d3) (b := 7)
  have n1 := tk_lt (ns := ns) (d := d3) (b := 7) (by decide)
  generalize tk ns d3 7 = n at *
  generalize tks ns d3 7 = d4 at *
  have hixn : ∀ (d' : DS) (J : Sto) (i : Int), 0 ≤ i → i < 6 → ixF (.ref 1) (.int i) (sto ns d' :: .lst (nms.map .str) :: J) = .ok (.str (pick nms i)) (sto ns d' :: .lst (nms.map .str) :: J) := fun d' J i h0 h1 =>
    ix_ref (k := 1) rfl h0 (by rw [hl]; exact h1)
  have tln : lcF (rngI1 (consA (alF (runF La.f__law_take [] (consA (varF 1) (consA (cF (.int 7)) nilA)))) nilA)) (nmG 12) yesF e_law_1 [12] [some sc, some (.ref 0), some z2, some (.ref 1), some (.tup (ds.map ddD)), some (clD cl), none, none, none, none, z, none, none, none, none] [sto ns d3, .lst (nms.map .str)] = .ok (.tml ((namesF ns nms d4 n.toNat).1.map .str)) [sto ns (namesF ns nms d4 n.toNat).2, .lst (nms.map .str)] := by
    refine lc_st (T := [.lst (nms.map .str)]) (List.range n.toNat) (fun i : Nat => D.int (0 + (i : Int))) D.str (fun d (_ : Nat) => (pick nms (tk ns d 6), tks ns d 6)) (d := d4) ?_ (by rw [List.length_range]; omega) fun a ha d => ⟨_, rfl, ?_⟩
    · exact rng1I (n := n) (by simp [t4]) (n62 n0 (by omega))
    · have t1 := ev_tki (ns := ns) (d := d) (T := [.lst (nms.map .str)]) 6
      have a1 := hixn (tks ns d 6) [] _ (tk_lo (ns := ns) (d := d) (b := 6)) (tk_lt (by decide))
      generalize D.int (0 + (a : Int)) = z
      unfold e_law_1
      simp [t1, a1]
  have lok := namesF_nm (ns := ns) (d := d4) (n := n.toNat) hl hn
  have lln := namesF_len (ns := ns) (nms := nms) (d := d4) (n := n.toNat)
  generalize namesF ns nms d4 n.toNat = ll at *
  obtain ⟨ln, d5⟩ := ll
  dsimp only at *
  have hlnl : ln.length ≤ 6 := by omega
  have trw : lcF (seqI (varF 6)) (nmG 14) yesF e_law_2 [14] [some sc, some (.ref 0), some z2, some (.ref 1), some (.tup (ds.map ddD)), some (clD cl), some (.tup (ln.map .str)), none, none, none, z, none, none, none, none] [sto ns d5, .lst (nms.map .str)] = .ok (.tml ((mapD (protF ns nms) d5 ln).1.map fun r => .tup (r.map .str))) [sto ns (mapD (protF ns nms) d5 ln).2, .lst (nms.map .str)] := by
    refine lc_st (T := [.lst (nms.map .str)]) ln D.str (fun r : List Str => D.tup (r.map .str)) (protF ns nms) (d := d5) (seq_tup (by simp)) (by omega) fun a ha d => ⟨_, rfl, ?_⟩
    unfold protF
    dsimp only
    have t1 := ev_tki (ns := ns) (d := d) (T := [.lst (nms.map .str)]) 3
    have b0 := tk_lo (ns := ns) (d := d) (b := 3)
    have b1 := tk_lt (ns := ns) (d := d) (b := 3) (by decide)
    generalize tk ns d 3 = i at *
    generalize tks ns d 3 = e1 at *
    have t2 := ev_tki (ns := ns) (d := e1) (T := [.lst (nms.map .str)]) 6
    have a2 := hixn (tks ns e1 6) [] _ (tk_lo (ns := ns) (d := e1) (b := 6)) (tk_lt (by decide))
    have x3 : ∀ (S : Sto), ixF (.tml [.str "ahead", .str "late", .str "between"]) (.int i) S = .ok (.str (if i = 0 then "ahead" else if i = 1 then "late" else "between")) S := fun S => by
      have : i = 0 ∨ i = 1 ∨ i = 2 := by omega
      rcases this with rfl | rfl | rfl <;> rfl
    unfold e_law_2
    simp [t1, x3, t2, a2]
  have pok := prot_nm (ns := ns) hl hn lok d5
  have pln := mapD_length (protF ns nms) ln d5
  generalize mapD (protF ns nms) d5 ln = pp at *
  obtain ⟨ps, d6⟩ := pp
  dsimp only at *
  have rwp : ∀ r ∈ ps, RwOk r := fun r hr => ⟨(by have := (pok r hr).2; intro z; rw [z] at this; cases this), (by have := (pok r hr).2; omega), fun w hw => wd_nm ((pok r hr).1 w hw)⟩
  have h1 : ∀ S, f_protests_text [.tup (ps.map fun r => .tup (r.map .str))] S = .ok (.str (tX ps)) S := fun S => ev_protests_text rwp (by omega)
  have hgt : ∀ J d', Ah.gTup [.ref 2] (sto ns d' :: .lst (nms.map .str) :: .lst (ps.map fun r => .tup (r.map .str)) :: J) = .ok (.tup (ps.map fun r => .tup (r.map .str))) (sto ns d' :: .lst (nms.map .str) :: .lst (ps.map fun r => .tup (r.map .str)) :: J) := fun J d' => rfl
  have itr : ∀ r ∈ ps, (r.map Pg.It.nm).map itW = r := fun r hr => by
    rw [List.map_map]
    refine (List.map_congr_left fun w hw => ?_).trans (List.map_id r)
    exact itW_nm ((pok r hr).1 w hw)
  have h2 : ∀ J d', f__law_rows_text [.ref 2] (sto ns d' :: .lst (nms.map .str) :: .lst (ps.map fun r => .tup (r.map .str)) :: J) = .ok (.str (tX ps)) (sto ns d' :: .lst (nms.map .str) :: .lst (ps.map fun r => .tup (r.map .str)) :: J) := fun J d' => by
    have e : (ps.map fun r => D.tup (r.map .str)) = (ps.map fun r => r.map Pg.It.nm).map fun r => .tup (r.map itD) := by
      rw [List.map_map]
      refine List.map_congr_left fun r hr => ?_
      simp [itD]
    have := ev_rows_text (S := sto ns d' :: .lst (nms.map .str) :: .lst (ps.map fun r => .tup (r.map .str)) :: J) (rs := ps.map fun r => r.map Pg.It.nm) (d := .ref 2) (fun r hr => by
      obtain ⟨q, hq, rfl⟩ := List.mem_map.mp hr
      refine ⟨fun x hx => ?_, (by have h3 := (pok q hq).2; intro z; have := congrArg List.length z; rw [List.length_map, h3] at this; simp at this), (by have h3 := (pok q hq).2; simp [h3])⟩
      obtain ⟨w, hw, rfl⟩ := List.mem_map.mp hx
      exact .inr ((pok q hq).1 w hw)) (by simp; omega) (.inr ⟨2, rfl, by rw [← e]; rfl⟩)
    rw [this, List.map_map]
    congr 3
    exact (List.map_congr_left fun r hr => itr r hr).trans (List.map_id ps)
  have tl1 : (tX ps).length ≤ 300 := by
    have := tX_len (rs := ps) (n := 3) fun r hr => ⟨rwp r hr, by have := (pok r hr).2; omega⟩
    omega
  obtain ⟨s1, r1⟩ := Gd.repr_str (tX_asc rwp).ok (by omega : (tX ps).length ≤ 2 ^ 20)
  have k1 : ∀ S, f_history_text [.tup (ds.map ddD)] S = .ok (.str (tX (ds.map ddW))) S := fun S => ev_history_text dok (by omega)
  have k2 : ∀ S, f_line_text [.tup (ln.map .str)] S = .ok (.str (rT ln)) S := fun S => ev_line_text lok (by omega)
  have k3 : ∀ S, f_clash_text [clD cl] S = .ok (.str (rT (clW cl))) S := fun S => ev_clash_text cok
  have m1 : ∀ S, f__law_rows_text [.tup (ds.map ddD)] S = .ok (.str (tX (ds.map ddW))) S := fun S => by
    have := ev_rows_text (S := S) (rs := ds.map ddI) (d := .tup (ds.map ddD)) (fun r hr => by
      obtain ⟨q, hq, rfl⟩ := List.mem_map.mp hr
      exact ⟨dd_its (dok q hq), by cases q <;> simp [ddI], by cases q <;> simp [ddI]⟩) (by simp; omega) (.inl (by rw [List.map_map]; rfl))
    rw [this, List.map_map]
    rfl
  have m2 : ∀ S, gJoin (.str " ") [.tup (ln.map .str)] S = .ok (.str (rT ln)) S := fun S => by
    unfold gJoin
    simp only [seqD, Option.bind_some, strsD_map]
    have hs := sum_le (ys := ln) (n := 8) fun y hy => nmB_le (lok y hy)
    rw [if_pos (by rw [show (" " : Str).length = 1 from by decide +kernel]; omega)]
    rfl
  have m3 : ∀ S, f__law_clash_text [clD cl] S = .ok (.str (rT (clW cl))) S := fun S => ev_lclash_text cok
  have drw : ∀ r ∈ ds.map ddW, RwOk r := fun r hr => by
    obtain ⟨q, hq, rfl⟩ := List.mem_map.mp hr
    exact dd_rw (dok q hq)
  have th0 : Thg 0 (tX (ds.map ddW)) (.tup (ds.map ddD)) := ⟨⟨tX_asc drw, by
    have := tX_len (rs := ds.map ddW) (n := 4) fun r hr => ⟨drw r hr, by
      obtain ⟨q, hq, rfl⟩ := List.mem_map.mp hr
      exact dd_len q⟩
    rw [List.length_map] at this
    omega⟩, hist_back dok, noRefs_dd ds, rfl⟩
  have th1 : Thg 1 (rT ln) (.tup (ln.map .str)) := ⟨⟨nm_asc lok, by have := nm_len lok; omega⟩, line_back lok, noRefs_strs ln, rfl⟩
  have clen : (clW cl).length ≤ 31 := by
    cases cl with
    | late n => simp [clW]
    | many w l => have := cok.2.2.1; simp [clW]; omega
  have th2 : Thg 2 (rT (clW cl)) (clD cl) := ⟨⟨nm_asc (clW_nm cok), by have := nm_len (clW_nm cok); omega⟩, clash_back cok, noRef_cl cl, by cases cl <;> rfl⟩
  obtain ⟨s2, r2⟩ := (Gds.cons (k := 0) (w1 := 10000) (w2 := 20002) (w := 30003) (Gd.str th0.bt.a.ok th0.bt.l) (Gds.cons (w1 := 10000) (w2 := 10001) (Gd.str th1.bt.a.ok th1.bt.l) (Gds.cons (w1 := 10000) (w2 := 0) (Gd.str th2.bt.a.ok th2.bt.l) Gds.nil (by omega)) (by omega)) (by omega)).repr (by decide) (by decide)
  obtain ⟨tt, htt⟩ : ∃ tt, clD cl = .tup tt := by cases cl <;> exact ⟨_, rfl⟩
  have ncl : noRef (clD cl) = true := noRef_cl cl
  rw [htt] at t3 tln trw k3 m3 th2 ncl
  let T4 : Sto := [.lst (nms.map D.str), .lst (ps.map fun r => D.tup (r.map D.str)), .lst [D.str (tX (ds.map ddW)), D.str (rT ln), D.str (rT (clW cl))], .lst [D.tup (ds.map ddD), D.tup (ln.map D.str), D.tup tt]]
  let D1 := bents ns (tX (ds.map ddW)) d6
  let D2 := bents ns (rT ln) D1.2
  let D3 := bents ns (rT (clW cl)) D2.2
  refine ⟨[some sc, some (.ref 0), some z2, some (.ref 1), some (D.tup (ds.map ddD)), some (D.tup tt), some (D.tup (ln.map D.str)), some (.ref 2), some (.ref 3), some (.ref 4), some (.int 2), none, none, none, none], T4, ?_, rfl⟩
  have nS : D.bel 5 sc = true := bel_of hs
  have n2 : D.bel 5 z2 = true := bel_of hz2
  have n3 : D.bels 5 (ds.map ddD) = true := bels_of (noRefs_dd ds)
  have n4 : D.bels 5 (ln.map D.str) = true := bels_of (noRefs_strs ln)
  have n5 : D.bels 5 tt = true := bels_of (ds := tt) ncl
  have hbd : ∀ i : Int, belE 5 [some sc, some z2, some (.ref 1), some (D.tup (ds.map ddD)), some (D.tup tt), some (D.tup (ln.map D.str)), some (.ref 2), some (.ref 3), some (.ref 4), some (.int i), none, none] = true := fun i => by
    unfold belE
    simp [nS, n2, n3, n4, n5, D.bel]
  have dr : ∀ (i : Int) (t : Str) (x : D) (d : DS), 0 ≤ i → i < 3 → atI [D.str (tX (ds.map ddW)), D.str (rT ln), D.str (rT (clW cl))] i = some (D.str t) → atI [D.tup (ds.map ddD), D.tup (ln.map D.str), D.tup tt] i = some x → Thg i t x →
      gcS [11, 12] b_law_2 [some sc, some (.ref 0), some z2, some (.ref 1), some (D.tup (ds.map ddD)), some (D.tup tt), some (D.tup (ln.map D.str)), some (.ref 2), some (.ref 3), some (.ref 4), some (.int i), none, none, none, none] (sto ns d :: T4) =
        .nx [some sc, some (.ref 0), some z2, some (.ref 1), some (D.tup (ds.map ddD)), some (D.tup tt), some (D.tup (ln.map D.str)), some (.ref 2), some (.ref 3), some (.ref 4), some (.int i), none, none, none, none] (sto ns (bents ns t d).2 :: T4) := fun i t x d i0 i1 it ix g => by
    refine gc_nx (J := []) (e := [some sc, some (.ref 0), some z2, some (.ref 1), some (D.tup (ds.map ddD)), some (D.tup tt), some (D.tup (ln.map D.str)), some (.ref 2), some (.ref 3), some (.ref 4), some (.int i), some (D.str (bents ns t d).1), none, none, none]) ?_ (Chg2.cons sto_bel Chg2.refl) ?_
    · rw [List.append_nil]
      exact ev_door (z := none) (T := T4) (texts := [D.str (tX (ds.map ddW)), D.str (rT ln), D.str (rT (clW cl))]) (things := [D.tup (ds.map ddD), D.tup (ln.map D.str), D.tup tt]) i0 i1 rfl rfl it ix g (hbd i)
    · have := hbd i
      unfold belE at this ⊢
      simp [nS, n2, n3, n4, n5, D.bel, T4]
  have q0 := dr 0 _ _ d6 (by decide) (by decide) rfl rfl th0
  have q1 := dr 1 _ _ D1.2 (by decide) (by decide) rfl rfl th1
  have q2 := dr 2 _ _ D2.2 (by decide) (by decide) rfl rfl th2
  unfold b_law_3
  refine (seq_nx (e := [some sc, some (.ref 0), some z2, some (.ref 1), none, none, none, none, none, none, z, none, none, none, none]) (S1 := [sto ns d1, .lst (nms.map D.str)]) ?_).trans ?_
  · simp [t1]
  refine (seq_nx (e := [some sc, some (.ref 0), some z2, some (.ref 1), some (D.tup (ds.map ddD)), some (D.tup tt), none, none, none, none, z, none, none, none, none]) (S1 := [sto ns d3, .lst (nms.map D.str)]) ?_).trans ?_
  · simp [t2, t3]
  refine (seq_nx (e := [some sc, some (.ref 0), some z2, some (.ref 1), some (D.tup (ds.map ddD)), some (D.tup tt), some (D.tup (ln.map D.str)), none, none, none, z, none, none, none, none]) (S1 := [sto ns d5, .lst (nms.map D.str)]) ?_).trans ?_
  · simp [tln, show ∀ (l : List D) (S : Sto), Ah.gTup [.tml l] S = .ok (.tup l) S from fun _ _ => rfl]
  refine (seq_nx (e := [some sc, some (.ref 0), some z2, some (.ref 1), some (D.tup (ds.map ddD)), some (D.tup tt), some (D.tup (ln.map D.str)), some (.ref 2), none, none, z, none, none, none, none]) (S1 := [sto ns d6, .lst (nms.map D.str), .lst (ps.map fun r => D.tup (r.map D.str))]) ?_).trans ?_
  · simp [trw]
  have hgt' := hgt [] d6
  have h2' := h2 [] d6
  refine (seq_nx (e := [some sc, some (.ref 0), some z2, some (.ref 1), some (D.tup (ds.map ddD)), some (D.tup tt), some (D.tup (ln.map D.str)), some (.ref 2), none, none, z, none, none, none, none]) (S1 := [sto ns d6, .lst (nms.map D.str), .lst (ps.map fun r => D.tup (r.map D.str))]) ?_).trans ?_
  · simp [hgt', h1, h2', r1]
  refine (seq_nx (e := [some sc, some (.ref 0), some z2, some (.ref 1), some (D.tup (ds.map ddD)), some (D.tup tt), some (D.tup (ln.map D.str)), some (.ref 2), some (.ref 3), none, z, none, none, none, none]) (S1 := [sto ns d6, .lst (nms.map D.str), .lst (ps.map fun r => D.tup (r.map D.str)), .lst [D.str (tX (ds.map ddW)), D.str (rT ln), D.str (rT (clW cl))]]) ?_).trans ?_
  · simp [k1, k2, k3]
  refine (seq_nx (e := [some sc, some (.ref 0), some z2, some (.ref 1), some (D.tup (ds.map ddD)), some (D.tup tt), some (D.tup (ln.map D.str)), some (.ref 2), some (.ref 3), none, z, none, none, none, none]) (S1 := [sto ns d6, .lst (nms.map D.str), .lst (ps.map fun r => D.tup (r.map D.str)), .lst [D.str (tX (ds.map ddW)), D.str (rT ln), D.str (rT (clW cl))]]) ?_).trans ?_
  · have e : gRepr [.ref 3] [sto ns d6, .lst (nms.map D.str), .lst (ps.map fun r => D.tup (r.map D.str)), .lst [D.str (tX (ds.map ddW)), D.str (rT ln), D.str (rT (clW cl))]] = .ok (D.str s2) [sto ns d6, .lst (nms.map D.str), .lst (ps.map fun r => D.tup (r.map D.str)), .lst [D.str (tX (ds.map ddW)), D.str (rT ln), D.str (rT (clW cl))]] := (repr_ref rfl).trans (r2 _)
    simp [e, m1, m2, m3, r2]
  refine (seq_nx (e := [some sc, some (.ref 0), some z2, some (.ref 1), some (D.tup (ds.map ddD)), some (D.tup tt), some (D.tup (ln.map D.str)), some (.ref 2), some (.ref 3), some (.ref 4), z, none, none, none, none]) (S1 := sto ns d6 :: T4) ?_).trans ?_
  · simp [T4]
  rw [v_wp]
  simp only [v_wipe1, v_wipe0, List.set_cons_succ, List.set_cons_zero]
  refine (for_of (S1 := sto ns d6 :: T4) (safe := Alw) (items := [.int 0, .int 1, .int 2]) ?_ trivial (?_ : _ = RS.nx [some sc, some (.ref 0), some z2, some (.ref 1), some (D.tup (ds.map ddD)), some (D.tup tt), some (D.tup (ln.map D.str)), some (.ref 2), some (.ref 3), some (.ref 4), some (.int 2), none, none, none, none] (sto ns D3.2 :: T4)))
  · rw [v_rng1]
    simp only [v_consA, v_c, v_nilA, v_bind]
    rw [if_pos (by decide)]
    rfl
  · unfold loopF
    simp only [v_nm, List.set_cons_succ, List.set_cons_zero]
    rw [q0]
    dsimp only
    rw [if_pos (show Alw _ from trivial)]
    unfold loopF
    simp only [v_nm, List.set_cons_succ, List.set_cons_zero]
    rw [q1]
    dsimp only
    rw [if_pos (show Alw _ from trivial)]
    unfold loopF
    simp only [v_nm, List.set_cons_succ, List.set_cons_zero]
    rw [q2]
    dsimp only
    rw [if_pos (show Alw _ from trivial)]
    rfl
end Lk85

set_option maxHeartbeats 4000000
namespace Lk85
open PySem PySem.Spec PyProof.Rows L2 Ah Pg La PySem.NumText
theorem turns {ns : List Int} (l : List Int) (s : DS × Option D) : loopF (nmG 2) Alw (gcS [2, 3, 4, 5, 6, 7, 8, 9, 11, 12, 14] b_law_3) (l.map D.int) [some (.rls (ns.map .int)), some (.ref 0), none, none, none, none, none, none, none, none, s.2, none, none, none, none] [sto ns s.1] =
    let r := l.foldl (fun s _ => (turnF ns s.1, some (.int 2))) s
    .nx [some (.rls (ns.map .int)), some (.ref 0), none, none, none, none, none, none, none, none, r.2, none, none, none, none] [sto ns r.1] := by
  refine (loop_fold (g := nmG 2) (safe := Alw) (b := gcS [2, 3, 4, 5, 6, 7, 8, 9, 11, 12, 14] b_law_3) (fun _ _ => True) D.int (fun s : DS × Option D => [some (.rls (ns.map .int)), some (.ref 0), none, none, none, none, none, none, none, none, s.2, none, none, none, none]) (fun s => [sto ns s.1]) (fun s _ => (turnF ns s.1, some (.int 2))) (fun _ _ _ => trivial)
    (fun x l s _ => ⟨trivial, _, rfl, ?_⟩) l s trivial).2
  obtain ⟨e, J, h1, h2⟩ := ev_turn (ns := ns) (d := s.1) (sc := .rls (ns.map .int)) (z2 := .int x) (z := s.2) (show noRefs (ns.map D.int) = true from noRefs_ints ns) rfl
  refine (gc_nx (S1 := [sto ns (turnF ns s.1)]) h1 (Chg2.cons sto_bel Chg2.refl) ?_).trans ?_
  · rw [h2]
    have : D.bel 1 (.rls (ns.map .int)) = true := bel_of (show noRefs (ns.map D.int) = true from noRefs_ints ns)
    unfold belE
    simp only [List.all_cons, this, List.length_cons, List.length_nil]
    rfl
  · rw [h2]
theorem law_true (ns : List Int) (hl : ns.length ≤ 63) : ∃ S', f_law [.rls (ns.map .int)] [] = .ok (.bl true) S' := by
  have tn := turns (ns := ns) [0, 1, 2, 3] (d0 85, none)
  generalize List.foldl (fun (s : DS × Option D) (_ : Int) => (turnF ns s.1, some (D.int 2))) (d0 85, none) [(0 : Int), 1, 2, 3] = r at tn
  obtain ⟨d1, z⟩ := r
  dsimp only at tn
  have t2 := ev_tki (ns := ns) (d := d1) (T := [.lst [.str "ring a b"], .dct false []]) 6
  have v0 := tk_lo (ns := ns) (d := d1) (b := 6)
  have v1 := tk_lt (ns := ns) (d := d1) (b := 6) (by decide)
  generalize tk ns d1 6 = v at *
  generalize tks ns d1 6 = d2 at *
  obtain ⟨s, w⟩ := (Gds.cons (k := 1) (w1 := 4) (w2 := 1) (w := 10) (Gd.str (x := "text") (by decide +kernel) (by decide +kernel)) (Gds.cons (w1 := 0) (w2 := 0) Gd.non Gds.nil (by omega)) (by omega)).repr (by decide) (by decide)
  let S2 : Sto := [sto ns d2, .lst [.str "ring a b"], .dct false []]
  obtain ⟨odd, hix, htold⟩ : ∃ odd : D, ixF (.tml [.non, .int 5, .bl true, .tup [.str "a"], .ref 1, .ref 2]) (.int v) S2 = .ok odd S2 ∧ ∀ door, 0 ≤ door → door < 3 → f__law_told [.int door, odd] S2 = .ok (.tml [.str "text", .non]) S2 := by
    have hv : v = 0 ∨ v = 1 ∨ v = 2 ∨ v = 3 ∨ v = 4 ∨ v = 5 := by omega
    rcases hv with rfl | rfl | rfl | rfl | rfl | rfl
    · exact ⟨_, rfl, fun _ a b => ev_told_odd (T := "NoneType") a b rfl (by decide +kernel) rfl⟩
    · exact ⟨_, rfl, fun _ a b => ev_told_odd (T := "int") a b rfl (by decide +kernel) rfl⟩
    · exact ⟨_, rfl, fun _ a b => ev_told_odd (T := "bool") a b rfl (by decide +kernel) rfl⟩
    · exact ⟨_, rfl, fun _ a b => ev_told_odd (T := "tuple") a b rfl (by decide +kernel) rfl⟩
    · exact ⟨_, rfl, fun _ a b => ev_told_odd (T := "list") a b rfl (by decide +kernel) rfl⟩
    · exact ⟨_, rfl, fun _ a b => ev_told_odd (T := "dict") a b rfl (by decide +kernel) rfl⟩
  have hpl : ∀ S' : Sto, Kept [] S' := fun S' => ⟨Nat.zero_le _, fun i o hi h => absurd hi (Nat.not_lt_zero _)⟩
  have hlc : ∀ en : En, en = [some (.rls (ns.map .int)), some (.ref 0), none, none, none, none, none, none, none, none, z, none, none, some odd, none] → lcF (rngI1 (consA (cF (.int 3)) nilA)) (nmG 10) t_law_1 (varF 10) [10] en S2 = .ok (.tml []) S2 := fun en he => by
    subst he
    refine (lc_fm (g := nmG 10) (S1 := S2) (safe := Alw) (l := [(0 : Int), 1, 2]) D.int D.int (fun _ => false) ?_ trivial (by decide) fun a ha => ⟨_, rfl, ?_, fun h => by cases h⟩)
    · rw [v_rng1]
      simp only [v_consA, v_c, v_nilA, v_bind]
      rw [if_pos (by decide)]
      rfl
    · have ha : 0 ≤ a ∧ a < 3 := by
        simp only [List.mem_cons, List.not_mem_nil, or_false] at ha
        omega
      have h1 := htold a ha.1 ha.2
      unfold t_law_1
      simp [h1, w]
  refine ⟨_, wrap_pl (S' := S2) (body_rt ?_) (hpl _) rfl rfl⟩
  unfold s_law
  rw [show enD 15 [D.rls (ns.map .int)] = [some (.rls (ns.map .int)), none, none, none, none, none, none, none, none, none, none, none, none, none, none] from rfl]
  refine (seq_nx (e := [some (.rls (ns.map .int)), some (.ref 0), none, none, none, none, none, none, none, none, none, none, none, none, none]) (S1 := [sto ns (d0 85)]) (by simp [sto, d0, stO])).trans ?_
  refine (seq_nx (e := [some (.rls (ns.map .int)), some (.ref 0), none, none, none, none, none, none, none, none, z, none, none, none, none]) (S1 := [sto ns d1]) ?_).trans ?_
  · rw [v_wp]
    simp only [v_wipe1, v_wipe0, List.set_cons_succ, List.set_cons_zero]
    refine for_of (S1 := [sto ns (d0 85)]) (safe := Alw) (items := [.int 0, .int 1, .int 2, .int 3]) ?_ trivial tn
    rw [v_rng1]
    simp only [v_consA, v_c, v_nilA, v_bind]
    rw [if_pos (by decide)]
    rfl
  refine (seq_nx (e := [some (.rls (ns.map .int)), some (.ref 0), none, none, none, none, none, none, none, none, z, none, none, some odd, none]) (S1 := S2) ?_).trans ?_
  · simp only [S2] at hix
    simp [t2, hix, S2]
  · simp [hlc _ rfl, show ∀ S : Sto, pEq (.tml []) (.tml []) S = some true from fun _ => rfl]
end Lk85

open PySem PySem.W PySem.Calls PyProof.Rows
theorem PySem.Challenge.cw_aheadseen_k85_other_texts_holds : PySem.Challenge.rw_aheadseen_k85_other_texts.Holds := by
  w_on; o_law
  refine HandSHeadRun.head_any (r := OpenLaw.row PySem.Challenge.rw_aheadseen_k85_other_texts) (q := view (OpenLaw.row PySem.Challenge.rw_aheadseen_k85_other_texts).prog [45]) (H := Lk85.hk) (ob := Lk85.ob) (M := 4000) (loose := Lk85.loose) (d := HandSHeadRun.topDef (OpenLaw.row PySem.Challenge.rw_aheadseen_k85_other_texts).prog 45) (kwd := []) Lk85.ob_eq
    (by kernel_rfl) (fun s => by kernel_rfl) Lk85.run (by kernel_rfl) (by kernel_rfl) (by kernel_rfl) (by rfl) (by first | assumption | decide +kernel) (by decide +kernel) ⟨rfl, rfl, rfl, rfl, rfl, by decide +kernel⟩ ?hw ?hc
  case hw => w_witness2
  case hc =>
    refine Ah.walk_G (l := PySem.Challenge.rw_aheadseen_k85_other_texts) (n := 63) (k := 7) (x := "script") rfl (by decide) (by kernel_rfl) ⟨rfl, by decide, by decide⟩ ?F
    intro w mg fa h Y G hmg0
    obtain ⟨K, KX, c, hc⟩ := Y
    have hmg : mg ("law" : PySem.Str) = some (.ref fa) := by
      have e : (HandSHeadRun.topDef (OpenLaw.row PySem.Challenge.rw_aheadseen_k85_other_texts).prog 45).name = ("law" : PySem.Str) := by kernel_rfl
      rw [← e]
      exact hmg0
    obtain ⟨fd, hb, hF⟩ := Lk85.facts (P := (PySem.Challenge.rw_aheadseen_k85_other_texts).prog) (w := w) KX G hmg c hc
    exact ⟨K, fd, Lk85.f_law, KX, hb, fun ns hl => Lk85.law_true ns hl, hF⟩

