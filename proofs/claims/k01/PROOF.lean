import PyProof.Rows.All
import Wide.All
import OpenK.AllK
import Wide.FinOn
import HandS.ForMost
import HandS.Exc
import HandS.Defaults
import HandS.TupAny
import HandS.Conv
import HandS.Text
import HandS.IsInst
import HandS.Walk
import HandS.Flow
import HandS.Iter
import HandS.EndBits
import HandS.HeadEnd
import KE.KStateDown
import Lean
import HandS.More
import HandS.Words
import HandS.WordsExc
import HandS.Head0
import HandS.Head1
import HandS.Head2
import HandS.HeadHook1
import HandS.HeadHook2
import PySem.Challenge.RW_anyheir_k01_names_and_words
set_option Elab.async false
set_option linter.all false
set_option maxRecDepth 100000
set_option maxHeartbeats 0
namespace An
open PySem L2

/-! ### values, cells -/
inductive D where
  | non
  | bl (b : Bool)
  | int (i : Int)
  | str (s : Str)
  | rep (s : Str)
  | tup (xs : List D)
  | lst (xs : List D)
  | dct (ks vs : List D)
  | ref (i : Nat)
  | obj (c : Nat) (ns : List Str) (fs : List D)
  | cls (c : Nat)
  | exc (c : Nat) (ns : List Str) (fs : List D)
  | clo (l : Nat) (env : List D)
inductive C where
  | lst (xs : List D)
  | dct (ks vs : List D)
  | ins (c : Nat) (ns : List Str) (fs : List D)
/-- a frozen cell -/
def C.toD : C → D
  | .lst xs => .lst xs
  | .dct ks vs => .dct ks vs
  | .ins c ns fs => .obj c ns fs
/-- what a name holds -/
inductive Sl where
  | none
  | val (d : D)
  | own (c : C)

/-- the ground: the program's written part, the addresses of its classes -/
structure GX where
  K : PySem.W.Frag
  ca : Nat → Option Addr

/-! ### what a value denotes -/
def KeyD : Key → D
  | .inl i => .int i
  | .inr s => .str s
def KLst (K : PySem.W.Frag) (a : Addr) (xs : List V) : Prop :=
  ∃ (o : Obj) (its : Array Value) (n : Nat), K.lookup a = some o ∧ o.cls = .type "list" ∧ o.dict = none ∧ o.data = .seq its n ∧ its.size ≤ sizeLine ∧ Vals xs its.toList
def KTup (K : PySem.W.Frag) (a : Addr) (xs : List V) : Prop :=
  ∃ (o : Obj) (its : Array Value) (n : Nat), K.lookup a = some o ∧ o.cls = .type "tuple" ∧ o.data = .seq its n ∧ its.size ≤ sizeLine ∧ Vals xs its.toList
/-- a dict's content at a: its keys and values; M: not to be changed -/
def DctAt (M : Addr → Prop) (H : Hp) (a : Addr) (ks : List D) (vvs : List V) : Prop :=
  (∃ kvs : List (Key × V), Rd H a (.dK kvs) ∧ ¬ M a ∧ ks = kvs.map (fun p => KeyD p.1) ∧ vvs = kvs.map (·.2)) ∨
  (∃ kvs : List (List Key × V), Rd H a (.dT kvs) ∧ ¬ M a ∧ ks = kvs.map (fun p => D.tup (p.1.map KeyD)) ∧ vvs = kvs.map (·.2))
section
variable (G : GX) (φ : List Addr) (M : Addr → Prop) (H : Hp)
mutual
def RelD : D → V → Prop
  | .non, v => v = .non
  | .bl b, v => v = .bl b
  | .int i, v => v = .int i
  | .str s, v => v = .str s ∧ PyData.strOk s = true ∧ s.length ≤ 16777216
  | .rep s, v => v = .str s
  | .tup xs, v => ∃ a vs, v = .ref a ∧ ((Rd H a (.tup vs) ∧ ¬ M a) ∨ KTup G.K a vs) ∧ vs.length ≤ 16777216 ∧ RelDs xs vs
  | .lst xs, v => ∃ a vs, v = .ref a ∧ ((Rd H a (.lst vs) ∧ ¬ M a) ∨ KLst G.K a vs) ∧ vs.length ≤ 16777216 ∧ RelDs xs vs
  | .dct ks vs, v => ∃ a vvs, v = .ref a ∧ DctAt M H a ks vvs ∧ RelDs vs vvs
  | .ref i, v => ∃ a, φ[i]? = some a ∧ v = .ref a
  | .obj c ns fs, v => ∃ a C dx fvs, v = .ref a ∧ G.ca c = some C ∧ H a = some (.ins C dx fvs) ∧ ¬ M a ∧ fvs.map (·.1) = ns ∧ RelDs fs (fvs.map (·.2))
  | .cls c, v => ∃ C, G.ca c = some C ∧ v = .ref C
  | .exc _ _ _, _ => False
  | .clo _ _, _ => False
def RelDs : List D → List V → Prop
  | [], vs => vs = []
  | d :: ds, vs => ∃ v r, vs = v :: r ∧ RelD d v ∧ RelDs ds r
end
end

section
variable {G : GX} {φ φ' : List Addr} {M M' : Addr → Prop} {H H' : Hp}
example {i : Int} {v : V} : RelD G φ M H (.int i) v = (v = .int i) := rfl
/-- what is told of a frozen thing stays: the part that may change is M -/
structure Stay (φ φ' : List Addr) (M M' : Addr → Prop) (H H' : Hp) : Prop where
  grow : φ <+: φ'
  less : ∀ a, M' a → M a ∨ H a = none
  keep : ∀ b o, H b = some o → ¬ M b → H' b = some o
theorem Stay.refl : Stay φ φ M M H H := ⟨List.prefix_refl _, fun _ h => .inl h, fun _ _ h _ => h⟩
theorem Stay.rd (S : Stay φ φ' M M' H H') {a : Addr} {u : HO} (h : Rd H a u) (n : ¬ M a) : Rd H' a u ∧ ¬ M' a := by
  rcases h with h | ⟨o, h⟩
  · exact ⟨.inl (S.keep _ _ h n), fun q => (S.less a q).elim n fun z => by rw [h] at z; cases z⟩
  · exact ⟨.inr ⟨o, S.keep _ _ h n⟩, fun q => (S.less a q).elim n fun z => by rw [h] at z; cases z⟩
theorem DctAt.mono (S : Stay φ φ' M M' H H') {a : Addr} {ks : List D} {vvs : List V} : DctAt M H a ks vvs → DctAt M' H' a ks vvs
  | .inl ⟨kvs, r, n, e1, e2⟩ => let ⟨r', n'⟩ := S.rd r n; .inl ⟨kvs, r', n', e1, e2⟩
  | .inr ⟨kvs, r, n, e1, e2⟩ => let ⟨r', n'⟩ := S.rd r n; .inr ⟨kvs, r', n', e1, e2⟩
theorem prefix_get {α : Type} {l l' : List α} (h : l <+: l') {i : Nat} {x : α} (e : l[i]? = some x) : l'[i]? = some x := by
  obtain ⟨t, rfl⟩ := h
  rw [List.getElem?_append_left (List.getElem?_eq_some_iff.mp e).1]
  exact e
mutual
theorem RelD.mono (S : Stay φ φ' M M' H H') : ∀ {d : D} {v : V}, RelD G φ M H d v → RelD G φ' M' H' d v
  | .non, _, h => h
  | .bl _, _, h => h
  | .int _, _, h => h
  | .str _, _, h => h
  | .rep _, _, h => h
  | .tup xs, v, h => by
    obtain ⟨a, vs, e, r, z, t⟩ := (show ∃ a vs, v = .ref a ∧ ((Rd H a (.tup vs) ∧ ¬ M a) ∨ KTup G.K a vs) ∧ vs.length ≤ 16777216 ∧ RelDs G φ M H xs vs from h)
    exact ⟨a, vs, e, r.imp (fun ⟨r, n⟩ => S.rd r n) id, z, RelDs.mono S t⟩
  | .lst xs, v, h => by
    obtain ⟨a, vs, e, r, z, t⟩ := (show ∃ a vs, v = .ref a ∧ ((Rd H a (.lst vs) ∧ ¬ M a) ∨ KLst G.K a vs) ∧ vs.length ≤ 16777216 ∧ RelDs G φ M H xs vs from h)
    exact ⟨a, vs, e, r.imp (fun ⟨r, n⟩ => S.rd r n) id, z, RelDs.mono S t⟩
  | .dct ks xs, v, h => by
    obtain ⟨a, vvs, e, r, t⟩ := (show ∃ a vvs, v = .ref a ∧ DctAt M H a ks vvs ∧ RelDs G φ M H xs vvs from h)
    exact ⟨a, vvs, e, r.mono S, RelDs.mono S t⟩
  | .ref i, v, h => by
    obtain ⟨a, e1, e2⟩ := (show ∃ a, φ[i]? = some a ∧ v = .ref a from h)
    exact ⟨a, prefix_get S.grow e1, e2⟩
  | .obj c ns fs, v, h => by
    obtain ⟨a, C, dx, fvs, e, ec, r, n, en, t⟩ := (show ∃ a C dx fvs, v = .ref a ∧ G.ca c = some C ∧ H a = some (.ins C dx fvs) ∧ ¬ M a ∧ fvs.map (·.1) = ns ∧ RelDs G φ M H fs (fvs.map (·.2)) from h)
    exact ⟨a, C, dx, fvs, e, ec, S.keep _ _ r n, (S.rd (.inl r) n).2, en, RelDs.mono S t⟩
  | .cls _, _, h => h
  | .exc _ _ _, _, h => h
  | .clo _ _, _, h => h
theorem RelDs.mono (S : Stay φ φ' M M' H H') : ∀ {ds : List D} {vs : List V}, RelDs G φ M H ds vs → RelDs G φ' M' H' ds vs
  | [], _, h => h
  | d :: ds, vs, h => by
    obtain ⟨v, r, e, h1, h2⟩ := (show ∃ v r, vs = v :: r ∧ RelD G φ M H d v ∧ RelDs G φ M H ds r from h)
    exact ⟨v, r, e, h1.mono S, RelDs.mono S h2⟩
end
theorem RelDs.nil_iff {vs : List V} : RelDs G φ M H [] vs ↔ vs = [] := Iff.rfl
theorem RelDs.cons_iff {d : D} {ds : List D} {vs : List V} : RelDs G φ M H (d :: ds) vs ↔ ∃ v r, vs = v :: r ∧ RelD G φ M H d v ∧ RelDs G φ M H ds r := Iff.rfl
theorem RelDs.length : ∀ {ds : List D} {vs : List V}, RelDs G φ M H ds vs → vs.length = ds.length
  | [], _, h => by rw [RelDs.nil_iff.mp h]; rfl
  | _ :: _, _, h => by
    obtain ⟨v, r, e, _, h2⟩ := RelDs.cons_iff.mp h
    rw [e, List.length_cons, List.length_cons, RelDs.length h2]
theorem RelDs.get : ∀ {ds : List D} {vs : List V} {i : Nat} {d : D}, RelDs G φ M H ds vs → ds[i]? = some d → ∃ v, vs[i]? = some v ∧ RelD G φ M H d v
  | [], _, _, _, _, e => by simp at e
  | _ :: _, _, 0, _, h, e => by
    obtain ⟨v, r, e1, h1, _⟩ := RelDs.cons_iff.mp h
    simp at e; subst e; subst e1
    exact ⟨v, rfl, h1⟩
  | _ :: _, _, i + 1, _, h, e => by
    obtain ⟨v, r, e1, _, h2⟩ := RelDs.cons_iff.mp h
    subst e1
    obtain ⟨u, e2, h3⟩ := RelDs.get (i := i) h2 (by simpa using e)
    exact ⟨u, by simpa using e2, h3⟩
theorem RelDs.append : ∀ {ds es : List D} {vs us : List V}, RelDs G φ M H ds vs → RelDs G φ M H es us → RelDs G φ M H (ds ++ es) (vs ++ us)
  | [], _, _, _, h, k => by rw [RelDs.nil_iff.mp h]; exact k
  | _ :: _, _, _, _, h, k => by
    obtain ⟨v, r, e1, h1, h2⟩ := RelDs.cons_iff.mp h
    subst e1
    exact ⟨v, _, rfl, h1, RelDs.append h2 k⟩
theorem RelDs.drop : ∀ {ds : List D} {vs : List V} (n : Nat), RelDs G φ M H ds vs → RelDs G φ M H (ds.drop n) (vs.drop n)
  | _, _, 0, h => h
  | [], _, _ + 1, h => by rw [RelDs.nil_iff.mp h]; exact rfl
  | _ :: _, _, n + 1, h => by
    obtain ⟨v, r, e1, _, h2⟩ := RelDs.cons_iff.mp h
    subst e1
    exact RelDs.drop n h2
theorem RelDs.take : ∀ {ds : List D} {vs : List V} (n : Nat), RelDs G φ M H ds vs → RelDs G φ M H (ds.take n) (vs.take n)
  | _, _, 0, _ => rfl
  | [], _, _ + 1, h => by rw [RelDs.nil_iff.mp h]; exact rfl
  | _ :: _, _, n + 1, h => by
    obtain ⟨v, r, e1, h1, h2⟩ := RelDs.cons_iff.mp h
    subst e1
    exact ⟨v, _, rfl, h1, RelDs.take n h2⟩
theorem RelDs.set : ∀ {ds : List D} {vs : List V} (n : Nat) {d : D} {v : V}, RelDs G φ M H ds vs → RelD G φ M H d v → RelDs G φ M H (ds.set n d) (vs.set n v)
  | [], _, _, _, _, h, _ => by rw [RelDs.nil_iff.mp h]; exact rfl
  | _ :: _, _, 0, _, _, h, k => by
    obtain ⟨v, r, e1, h1, h2⟩ := RelDs.cons_iff.mp h
    subst e1
    exact ⟨_, _, rfl, k, h2⟩
  | _ :: _, _, n + 1, _, _, h, k => by
    obtain ⟨v, r, e1, h1, h2⟩ := RelDs.cons_iff.mp h
    subst e1
    exact ⟨v, _, rfl, h1, RelDs.set n h2 k⟩

/-! ### cells, holders -/
/-- a mutable cell at a -/
def RelC (G : GX) (φ : List Addr) (M : Addr → Prop) (H : Hp) : C → Addr → Prop
  | .lst xs, a => ∃ vs, H a = some (.lst vs) ∧ vs.length ≤ 16777216 ∧ RelDs G φ M H xs vs
  | .dct ks xs, a => (∃ kvs : List (Key × V), H a = some (.dK kvs) ∧ ks = kvs.map (fun p => KeyD p.1) ∧ RelDs G φ M H xs (kvs.map (·.2))) ∨
      ∃ kvs : List (List Key × V), H a = some (.dT kvs) ∧ ks = kvs.map (fun p => D.tup (p.1.map KeyD)) ∧ RelDs G φ M H xs (kvs.map (·.2))
  | .ins c ns fs, a => ∃ C dx fvs, G.ca c = some C ∧ H a = some (.ins C dx fvs) ∧ fvs.map (·.1) = ns ∧ RelDs G φ M H fs (fvs.map (·.2))
theorem RelC.there {c : C} {a : Addr} (h : RelC G φ M H c a) : ∃ o, H a = some o ∧ Mut (some o) := by
  cases c with
  | lst xs => obtain ⟨vs, e, _⟩ := h; exact ⟨_, e, True.intro⟩
  | dct ks xs =>
    rcases h with ⟨kvs, e, _⟩ | ⟨kvs, e, _⟩
    · exact ⟨_, e, True.intro⟩
    · exact ⟨_, e, True.intro⟩
  | ins c ns fs => obtain ⟨C, dx, fvs, _, e, _⟩ := h; exact ⟨_, e, True.intro⟩
theorem RelC.mono (S : Stay φ φ' M M' H H') {c : C} {a : Addr} (h : RelC G φ M H c a) (e : H' a = H a) : RelC G φ' M' H' c a := by
  cases c with
  | lst xs => obtain ⟨vs, e1, z, t⟩ := h; exact ⟨vs, e.trans e1, z, t.mono S⟩
  | dct ks xs =>
    rcases h with ⟨kvs, e1, e2, t⟩ | ⟨kvs, e1, e2, t⟩
    · exact .inl ⟨kvs, e.trans e1, e2, t.mono S⟩
    · exact .inr ⟨kvs, e.trans e1, e2, t.mono S⟩
  | ins c ns fs => obtain ⟨C, dx, fvs, ec, e1, en, t⟩ := h; exact ⟨C, dx, fvs, ec, e.trans e1, en, t.mono S⟩
/-- a cell that is not changed any more is a value -/
theorem RelC.toD {c : C} {a : Addr} (h : RelC G φ M H c a) (n : ¬ M a) : RelD G φ M H c.toD (.ref a) := by
  cases c with
  | lst xs => obtain ⟨vs, e1, z, t⟩ := h; exact ⟨a, vs, rfl, .inl ⟨.inl e1, n⟩, z, t⟩
  | dct ks xs =>
    rcases h with ⟨kvs, e1, e2, t⟩ | ⟨kvs, e1, e2, t⟩
    · exact ⟨a, _, rfl, .inl ⟨kvs, .inl e1, n, e2, rfl⟩, t⟩
    · exact ⟨a, _, rfl, .inr ⟨kvs, .inl e1, n, e2, rfl⟩, t⟩
  | ins c ns fs => obtain ⟨C, dx, fvs, ec, e1, en, t⟩ := h; exact ⟨a, C, dx, fvs, rfl, ec, e1, n, en, t⟩
def RelS (G : GX) (φ : List Addr) (M : Addr → Prop) (H : Hp) : Sl → V → Prop
  | .none, _ => False
  | .val d, v => RelD G φ M H d v
  | .own c, v => ∃ a, v = .ref a ∧ RelC G φ M H c a
/-- the addresses that a holder owns -/
def own1 : V × Sl → Option Addr
  | (.ref a, .own _) => some a
  | _ => none
def owns (hs : List (V × Sl)) : List Addr := hs.filterMap own1
theorem owns_cons_val {v : V} {d : D} {hs : List (V × Sl)} : owns ((v, .val d) :: hs) = owns hs := by
  unfold owns
  rw [List.filterMap_cons]
  cases v <;> rfl
theorem owns_cons_own {a : Addr} {c : C} {hs : List (V × Sl)} : owns ((.ref a, .own c) :: hs) = a :: owns hs := rfl
theorem owns_append {hs ts : List (V × Sl)} : owns (hs ++ ts) = owns hs ++ owns ts := List.filterMap_append ..
/-- what is fixed through a frame: the abstract heap and the cells at its entry; Z: what the callers own -/
structure FX where
  H0 : Hp
  φ0 : List Addr
  Z : Addr → Prop
/-- what may change -/
def MZ (F : FX) (φ : List Addr) (hs : List (V × Sl)) (a : Addr) : Prop := a ∈ φ ∨ F.Z a ∨ a ∈ owns hs
/-- dicts that are walked are locked -/
def lk (L : List (Addr × Obj)) (b : Addr) (o : HO) : HO := match L.lookup b with
  | some od => .frz od o
  | none => o
structure Wf (G : GX) (F : FX) (L : List (Addr × Obj)) (φ : List Addr) (h : List C) (H : Hp) (hs : List (V × Sl)) : Prop where
  grow : F.φ0 <+: φ
  len : φ.length = h.length
  nd : (φ ++ owns hs).Nodup
  zout : ∀ a ∈ φ ++ owns hs, ¬ F.Z a
  zin : ∀ a, F.Z a → F.H0 a ≠ none
  keep : ∀ b o, F.H0 b = some o → b ∉ F.φ0 → H b = some (lk L b o)
  fresh : ∀ a ∈ φ ++ owns hs, a ∈ F.φ0 ∨ F.H0 a = none
  cell : ∀ (i : Nat) (a : Addr) (c : C), φ[i]? = some a → h[i]? = some c → RelC G φ (MZ F φ hs) H c a
  hold : ∀ v s, (v, s) ∈ hs → RelS G φ (MZ F φ hs) H s v

section
variable {F : FX} {L : List (Addr × Obj)} {h h' : List C} {hs hs' : List (V × Sl)} {a p : Addr} {o : HO} {c : C} {d : D} {v : V}
theorem mz_perm (e : hs.Perm hs') : MZ F φ hs = MZ F φ hs' := by
  funext a
  have q : a ∈ owns hs ↔ a ∈ owns hs' := (e.filterMap own1).mem_iff
  unfold MZ
  rw [propext q]
theorem Wf.perm (W : Wf G F L φ h H hs) (e : hs.Perm hs') : Wf G F L φ h H hs' := by
  have q : (owns hs).Perm (owns hs') := e.filterMap own1
  refine ⟨W.grow, W.len, (List.Perm.append_left φ q).nodup_iff.mp W.nd, fun a ha => W.zout a ?_, W.zin, W.keep, fun a ha => W.fresh a ?_, ?_, fun v s hm => ?_⟩
  · exact (List.Perm.append_left φ q).mem_iff.mpr ha
  · exact (List.Perm.append_left φ q).mem_iff.mpr ha
  · rw [← mz_perm e]; exact W.cell
  · rw [← mz_perm e]; exact W.hold v s (e.mem_iff.mpr hm)
/-- what is tracked by us stands in H -/
theorem Wf.there (W : Wf G F L φ h H hs) (m : MZ F φ hs a) : H a ≠ none := by
  rcases m with m | m | m
  · obtain ⟨i, hi, e⟩ := List.getElem_of_mem m
    have hi' : i < h.length := by rw [← W.len]; exact hi
    obtain ⟨o, e1, _⟩ := (W.cell i a h[i] (by rw [List.getElem?_eq_getElem hi, e]) (List.getElem?_eq_getElem hi')).there
    rw [e1]; exact fun z => nomatch z
  · have z := W.zin a m
    cases q : F.H0 a with
    | none => exact absurd q z
    | some o =>
      have n : a ∉ F.φ0 := fun hm => W.zout a (List.mem_append_left _ (W.grow.subset hm)) m
      rw [W.keep a o q n]; exact fun z => nomatch z
  · obtain ⟨⟨v, s⟩, hm, e⟩ := List.mem_filterMap.mp m
    have r := W.hold v s hm
    cases s with
    | none => exact r.elim
    | val d => cases v <;> cases e
    | own c =>
      obtain ⟨b, rfl, rc⟩ := r
      cases e
      obtain ⟨o, e1, _⟩ := rc.there
      rw [e1]; exact fun z => nomatch z
theorem Wf.notM (W : Wf G F L φ h H hs) (n : H p = none) : ¬ MZ F φ hs p := fun m => W.there m n
theorem Wf.f0 (W : Wf G F L φ h H hs) (n : H p = none) : F.H0 p = none := by
  cases q : F.H0 p with
  | none => rfl
  | some o =>
    by_cases hm : p ∈ F.φ0
    · exact absurd n (W.there (.inl (W.grow.subset hm)))
    · rw [W.keep p o q hm] at n; cases n
theorem stay_new (W : Wf G F L φ h H hs) (n : H p = none) : Stay φ φ (MZ F φ hs) (MZ F φ hs) H (upd H p o) :=
  ⟨List.prefix_refl _, fun _ h => .inl h, fun b o e _ => by rw [upd_ne (ne_of_none e n)]; exact e⟩
/-- something new is laid, and not held -/
theorem Wf.alloc (W : Wf G F L φ h H hs) (n : H p = none) : Wf G F L φ h (upd H p o) hs := by
  have S : Stay φ φ (MZ F φ hs) (MZ F φ hs) H (upd H p o) := stay_new W n
  have ne : ∀ b, H b ≠ none → b ≠ p := fun b hb z => hb (by rw [z]; exact n)
  refine ⟨W.grow, W.len, W.nd, W.zout, W.zin, fun b ob e hb => ?_, W.fresh, fun i b c e1 e2 => ?_, fun v s hm => ?_⟩
  · have q := W.keep b ob e hb
    rw [upd_ne (ne b (by rw [q]; exact fun z => nomatch z))]; exact q
  · exact (W.cell i b c e1 e2).mono S (upd_ne (ne b (W.there (.inl (List.mem_of_getElem? e1)))))
  · have r := W.hold v s hm
    cases s with
    | none => exact r
    | val d => exact RelD.mono S r
    | own c =>
      obtain ⟨b, rfl, rc⟩ := r
      exact ⟨b, rfl, rc.mono S (upd_ne (ne b (W.there (.inr (.inr (List.mem_filterMap.mpr ⟨_, hm, rfl⟩))))))⟩
theorem mz_val : MZ F φ ((v, .val d) :: hs) = MZ F φ hs := by
  funext a
  unfold MZ
  rw [owns_cons_val]
theorem Wf.push (W : Wf G F L φ h H hs) (r : RelD G φ (MZ F φ hs) H d v) : Wf G F L φ h H ((v, .val d) :: hs) := by
  refine ⟨W.grow, W.len, by rw [owns_cons_val]; exact W.nd, by rw [owns_cons_val]; exact W.zout, W.zin, W.keep, by rw [owns_cons_val]; exact W.fresh, by rw [mz_val]; exact W.cell, fun u s hm => ?_⟩
  rw [mz_val]
  rcases List.mem_cons.mp hm with e | hm
  · cases e; exact r
  · exact W.hold u s hm
theorem owns_sub (e : hs'.Sublist hs) : (owns hs').Sublist (owns hs) := e.filterMap own1
/-- holders are forgotten -/
theorem Wf.sub (W : Wf G F L φ h H hs) (e : hs'.Sublist hs) : Wf G F L φ h H hs' := by
  have so : (φ ++ owns hs').Sublist (φ ++ owns hs) := (List.Sublist.refl φ).append (owns_sub e)
  have S : Stay φ φ (MZ F φ hs) (MZ F φ hs') H H := ⟨List.prefix_refl _, fun a m => .inl (m.imp id (Or.imp id fun z => (owns_sub e).subset z)), fun _ _ h _ => h⟩
  refine ⟨W.grow, W.len, W.nd.sublist so, fun a ha => W.zout a (so.subset ha), W.zin, W.keep, fun a ha => W.fresh a (so.subset ha), fun i b c e1 e2 => (W.cell i b c e1 e2).mono S rfl, fun v s hm => ?_⟩
  have r := W.hold v s (e.subset hm)
  cases s with
  | none => exact r
  | val d => exact RelD.mono S r
  | own c =>
    obtain ⟨b, rfl, rc⟩ := r
    exact ⟨b, rfl, rc.mono S rfl⟩
theorem Wf.drop {x : V × Sl} (W : Wf G F L φ h H (x :: hs)) : Wf G F L φ h H hs := W.sub (List.sublist_cons_self _ _)
theorem mz_own : MZ F φ ((.ref a, .own c) :: hs) = fun b => MZ F φ hs b ∨ b = a := by
  funext b
  unfold MZ
  rw [owns_cons_own]
  refine propext ⟨fun z => ?_, fun z => ?_⟩
  · rcases z with z | z | z
    · exact .inl (.inl z)
    · exact .inl (.inr (.inl z))
    · rcases List.mem_cons.mp z with e | z
      · exact .inr e
      · exact .inl (.inr (.inr z))
  · rcases z with (z | z | z) | z
    · exact .inl z
    · exact .inr (.inl z)
    · exact .inr (.inr (List.mem_cons_of_mem _ z))
    · exact .inr (.inr (List.mem_cons.mpr (.inl z)))
theorem stay_own (W : Wf G F L φ h H hs) (n : H p = none) : Stay φ φ (MZ F φ hs) (MZ F φ ((.ref p, .own c) :: hs)) H (upd H p o) := by
  refine ⟨List.prefix_refl _, fun b m => ?_, fun b o e _ => by rw [upd_ne (ne_of_none e n)]; exact e⟩
  rw [mz_own] at m
  rcases m with m | m
  · exact .inl m
  · exact .inr (by rw [m]; exact n)
/-- a new thing that only we hold -/
theorem Wf.allocOwn (W : Wf G F L φ h H hs) (n : H p = none) (r : RelC G φ (MZ F φ ((.ref p, .own c) :: hs)) (upd H p o) c p) : Wf G F L φ h (upd H p o) ((.ref p, .own c) :: hs) := by
  have S : Stay φ φ (MZ F φ hs) (MZ F φ ((.ref p, .own c) :: hs)) H (upd H p o) := stay_own W n
  have ne : ∀ b, H b ≠ none → b ≠ p := fun b hb z => hb (by rw [z]; exact n)
  have npm := W.notM n
  have pm : (φ ++ owns ((.ref p, .own c) :: hs)).Perm (p :: (φ ++ owns hs)) := by rw [owns_cons_own]; exact List.perm_middle
  refine ⟨W.grow, W.len, pm.nodup_iff.mpr (List.nodup_cons.mpr ⟨fun z => npm ?_, W.nd⟩), fun b hb => ?_, W.zin, fun b ob e hb => ?_, fun b hb => ?_, fun i b c e1 e2 => ?_, fun v s hm => ?_⟩
  · rcases List.mem_append.mp z with z | z
    · exact .inl z
    · exact .inr (.inr z)
  · rcases List.mem_cons.mp (pm.mem_iff.mp hb) with e | z
    · rw [e]; exact fun q => npm (.inr (.inl q))
    · exact W.zout b z
  · have q := W.keep b ob e hb
    rw [upd_ne (ne b (by rw [q]; exact fun z => nomatch z))]; exact q
  · rcases List.mem_cons.mp (pm.mem_iff.mp hb) with e | z
    · rw [e]; exact .inr (W.f0 n)
    · exact W.fresh b z
  · exact (W.cell i b c e1 e2).mono S (upd_ne (ne b (W.there (.inl (List.mem_of_getElem? e1)))))
  · rcases List.mem_cons.mp hm with e | hm
    · cases e; exact ⟨p, rfl, r⟩
    · have r := W.hold v s hm
      cases s with
      | none => exact r
      | val d => exact RelD.mono S r
      | own c =>
        obtain ⟨b, rfl, rc⟩ := r
        exact ⟨b, rfl, rc.mono S (upd_ne (ne b (W.there (.inr (.inr (List.mem_filterMap.mpr ⟨_, hm, rfl⟩))))))⟩
theorem Wf.own_at (W : Wf G F L φ h H ((v, .own c) :: hs)) : ∃ a, v = .ref a ∧ RelC G φ (MZ F φ ((v, .own c) :: hs)) H c a := W.hold v (.own c) List.mem_cons_self
theorem Wf.own_apart (W : Wf G F L φ h H ((.ref a, .own c) :: hs)) : ¬ MZ F φ hs a := fun m => by
  have pm : (φ ++ owns ((.ref a, .own c) :: hs)).Perm (a :: (φ ++ owns hs)) := by rw [owns_cons_own]; exact List.perm_middle
  have nd := (List.nodup_cons.mp (pm.nodup_iff.mp W.nd)).1
  rcases m with m | m | m
  · exact nd (List.mem_append_left _ m)
  · exact W.zout a (pm.mem_iff.mpr List.mem_cons_self) m
  · exact nd (List.mem_append_right _ m)
/-- what we alone hold is changed no more: it is a value -/
theorem Wf.freeze (W : Wf G F L φ h H ((v, .own c) :: hs)) : Wf G F L φ h H ((v, .val c.toD) :: hs) := by
  obtain ⟨a, rfl, r⟩ := W.own_at
  have W' := W.drop
  refine W'.push (RelC.toD (r.mono (M' := MZ F φ hs) ⟨List.prefix_refl _, fun b m => .inl ?_, fun _ _ h _ => h⟩ rfl) W.own_apart)
  rw [mz_own]; exact .inl m
/-- what we alone hold becomes a cell -/
theorem Wf.toCell (W : Wf G F L φ h H ((.ref a, .own c) :: hs)) : Wf G F L (φ ++ [a]) (h ++ [c]) H ((.ref a, .val (.ref h.length)) :: hs) := by
  have r : RelC G φ (MZ F φ ((.ref a, .own c) :: hs)) H c a := by
    obtain ⟨b, e, r⟩ := W.own_at
    cases e; exact r
  have me : MZ F (φ ++ [a]) ((.ref a, .val (.ref h.length)) :: hs) = MZ F φ ((.ref a, .own c) :: hs) := by
    rw [mz_val, mz_own]
    funext b
    unfold MZ
    refine propext ⟨fun z => ?_, fun z => ?_⟩
    · rcases z with z | z | z
      · rcases List.mem_append.mp z with z | z
        · exact .inl (.inl z)
        · exact .inr (List.mem_singleton.mp z)
      · exact .inl (.inr (.inl z))
      · exact .inl (.inr (.inr z))
    · rcases z with (z | z | z) | z
      · exact .inl (List.mem_append_left _ z)
      · exact .inr (.inl z)
      · exact .inr (.inr z)
      · exact .inl (List.mem_append_right _ (List.mem_singleton.mpr z))
  have S : Stay φ (φ ++ [a]) (MZ F φ ((.ref a, .own c) :: hs)) (MZ F φ ((.ref a, .own c) :: hs)) H H := ⟨List.prefix_append _ _, fun _ h => .inl h, fun _ _ h _ => h⟩
  have pm : (φ ++ [a] ++ owns ((.ref a, .val (.ref h.length)) :: hs)) = φ ++ owns ((.ref a, .own c) :: hs) := by
    rw [owns_cons_val, owns_cons_own, List.append_assoc]; rfl
  refine ⟨W.grow.trans (List.prefix_append _ _), by rw [List.length_append, List.length_append, W.len]; rfl, by rw [pm]; exact W.nd, by rw [pm]; exact W.zout, W.zin, W.keep, by rw [pm]; exact W.fresh, fun i b c' e1 e2 => ?_, fun v s hm => ?_⟩
  · rw [me]
    by_cases hi : i < φ.length
    · rw [List.getElem?_append_left hi] at e1
      rw [List.getElem?_append_left (by rw [← W.len]; exact hi)] at e2
      exact (W.cell i b c' e1 e2).mono S rfl
    · have hi2 : φ.length ≤ i := Nat.le_of_not_lt hi
      rw [List.getElem?_append_right hi2] at e1
      rw [List.getElem?_append_right (by rw [← W.len]; exact hi2), ← W.len] at e2
      cases q : i - φ.length with
      | zero =>
        rw [q] at e1 e2
        cases e1; cases e2
        exact r.mono S rfl
      | succ n => rw [q] at e1; cases e1
  · rw [me]
    rcases List.mem_cons.mp hm with e | hm
    · cases e
      refine ⟨a, ?_, rfl⟩
      rw [← W.len, List.getElem?_append_right (Nat.le_refl _), Nat.sub_self]; rfl
    · have r := W.hold v s (List.mem_cons_of_mem _ hm)
      cases s with
      | none => exact r
      | val d => exact RelD.mono S r
      | own c =>
        obtain ⟨b, rfl, rc⟩ := r
        exact ⟨b, rfl, rc.mono S rfl⟩
theorem stay_set (m : MZ F φ hs a) : Stay φ φ (MZ F φ hs) (MZ F φ hs) H (upd H a o) :=
  ⟨List.prefix_refl _, fun _ h => .inl h, fun b o e n => by rw [upd_ne fun z => n (by rw [z]; exact m)]; exact e⟩
/-- a cell is changed -/
theorem Wf.setCell (W : Wf G F L φ h H hs) {i : Nat} (e : φ[i]? = some a) (r : RelC G φ (MZ F φ hs) (upd H a o) c a) : Wf G F L φ (h.set i c) (upd H a o) hs := by
  have ma : MZ F φ hs a := .inl (List.mem_of_getElem? e)
  have S : Stay φ φ (MZ F φ hs) (MZ F φ hs) H (upd H a o) := stay_set ma
  have ndφ : φ.Nodup := (List.nodup_append.mp W.nd).1
  refine ⟨W.grow, by rw [List.length_set]; exact W.len, W.nd, W.zout, W.zin, fun b ob e1 hb => ?_, W.fresh, fun j b c' e1 e2 => ?_, fun v s hm => ?_⟩
  · have q := W.keep b ob e1 hb
    refine (upd_ne fun z => ?_).trans q
    rcases W.fresh a (List.mem_append_left _ (List.mem_of_getElem? e)) with f | f
    · exact hb (by rw [z]; exact f)
    · rw [z, f] at e1; cases e1
  · by_cases hj : j = i
    · subst hj
      rw [e] at e1; cases e1
      have hl : j < h.length := by rw [← W.len]; exact (List.getElem?_eq_some_iff.mp e).1
      rw [List.getElem?_set_self hl] at e2
      cases e2
      exact r
    · rw [List.getElem?_set_ne (Ne.symm hj)] at e2
      refine (W.cell j b c' e1 e2).mono S (upd_ne fun z => hj ?_)
      subst z
      obtain ⟨h1, q1⟩ := List.getElem?_eq_some_iff.mp e
      obtain ⟨h2, q2⟩ := List.getElem?_eq_some_iff.mp e1
      exact (List.getElem_inj ndφ).mp (q2.trans q1.symm)
  · have r := W.hold v s hm
    cases s with
    | none => exact r
    | val d => exact RelD.mono S r
    | own c =>
      obtain ⟨b, rfl, rc⟩ := r
      refine ⟨b, rfl, rc.mono S (upd_ne fun z => ?_)⟩
      subst z
      have mo : b ∈ owns hs := List.mem_filterMap.mpr ⟨_, hm, rfl⟩
      exact (List.nodup_append.mp W.nd).2.2 b (List.mem_of_getElem? e) b mo rfl
/-- what we alone hold is changed -/
theorem Wf.setOwn {c' : C} (W : Wf G F L φ h H ((.ref a, .own c) :: hs)) (r : RelC G φ (MZ F φ ((.ref a, .own c) :: hs)) (upd H a o) c' a) : Wf G F L φ h (upd H a o) ((.ref a, .own c') :: hs) := by
  have me : MZ F φ ((.ref a, .own c') :: hs) = MZ F φ ((.ref a, .own c) :: hs) := by rw [mz_own, mz_own]
  have ma : MZ F φ ((.ref a, .own c) :: hs) a := by rw [mz_own]; exact .inr rfl
  have S : Stay φ φ (MZ F φ ((.ref a, .own c) :: hs)) (MZ F φ ((.ref a, .own c) :: hs)) H (upd H a o) := stay_set ma
  have ap := W.own_apart
  have ea : a ∈ φ ++ owns ((.ref a, .own c) :: hs) := List.mem_append_right _ (by rw [owns_cons_own]; exact List.mem_cons_self)
  refine ⟨W.grow, W.len, W.nd, W.zout, W.zin, fun b ob e1 hb => ?_, W.fresh, fun j b c1 e1 e2 => ?_, fun v s hm => ?_⟩
  · have q := W.keep b ob e1 hb
    refine (upd_ne fun z => ?_).trans q
    rcases W.fresh a ea with f | f
    · exact hb (by rw [z]; exact f)
    · rw [z, f] at e1; cases e1
  · rw [me]
    exact (W.cell j b c1 e1 e2).mono S (upd_ne fun z => ap (by rw [← z]; exact .inl (List.mem_of_getElem? e1)))
  · rw [me]
    rcases List.mem_cons.mp hm with e | hm
    · cases e; exact ⟨a, rfl, r⟩
    · have r := W.hold v s (List.mem_cons_of_mem _ hm)
      cases s with
      | none => exact r
      | val d => exact RelD.mono S r
      | own c =>
        obtain ⟨b, rfl, rc⟩ := r
        exact ⟨b, rfl, rc.mono S (upd_ne fun z => ap (by rw [← z]; exact .inr (.inr (List.mem_filterMap.mpr ⟨_, hm, rfl⟩))))⟩
end
end
end An

namespace An
open PySem L2

/-! ### the small language -/
inductive Bop where
  | add | sub | mul | fdiv | mod | pow
inductive Cop where
  | eq | ne | lt | le | gt | ge | isN | notN | inn | nin
inductive Bi where
  | len | list | tuple | int | repr | all | any
inductive Mt where
  | join
inductive Ty where
  | str | int | bool | tup | lst
inductive Tg where
  | nm (i : Nat)
  | tp (is : List Nat)
mutual
inductive E where
  | var (i : Nat)
  | pk (i : Nat)
  | gv (x : Str) (d : D)
  | cst (d : D)
  | bin (o : Bop) (a b : E)
  | neg (a : E)
  | cmp (o : Cop) (a b : E)
  | chn (o o' : Cop) (a b c : E)
  | not (a : E)
  | and (a : E) (es : Es)
  | or (a : E) (es : Es)
  | ite (c a b : E)
  | tup (es : Es)
  | lst (es : Es)
  | call (f : Nat) (es : Es) (ks : Ks)
  | bi (b : Bi) (a : E)
  | isi (a : E) (t : Ty)
  | mt (m : Mt) (o : E) (es : Es)
  | ix (a i : E)
  | sl (a : E) (lo hi : Oe)
  | lc (elt : E) (own : List (Str × Nat)) (tg : Tg) (it : It) (c : Oe)
inductive Es where
  | nil
  | cons (e : E) (es : Es)
inductive Ks where
  | nil
  | cons (k : Str) (e : E) (ks : Ks)
inductive Oe where
  | none
  | some (e : E)
inductive It where
  | sq (e : E)
  | rg (e : E)
end
inductive Mode where
  | frz | own | cel
mutual
inductive S where
  | asg (m : Mode) (i : Nat) (e : E)
  | frz (i : Nat)
  | setix (o i e : E)
  | app (i : Nat) (e : E)
  | ex (e : E)
  | ret (m : Mode) (e : E)
  | ite (c : E) (a b : Ss)
  | for (tg : Tg) (it : It) (b : Ss)
  | brk
  | cnt
  | pas
inductive Ss where
  | nil
  | cons (s : S) (r : Ss)
end

def keysOf : Ks → List Str
  | .nil => []
  | .cons k _ ks => k :: keysOf ks
/-! ### what it does -/
abbrev Env := List Sl
abbrev Hh := List C
inductive R where
  | val (d : D)
  | fr (c : C)
  | vw (i : Nat)
inductive Res (α : Type) where
  | ok (a : α)
  | err (x : D) (h : Hh)
  | stuck
def Res.bind {α β : Type} (r : Res α) (f : α → Res β) : Res β := match r with
  | .ok a => f a
  | .err x h => .err x h
  | .stuck => .stuck
def ofO {α : Type} : Option α → Res α
  | some a => .ok a
  | none => .stuck
def alt {α : Type} : Option α → Option α → Option α
  | some a, _ => some a
  | none, b => b
def optAll {α β : Type} (f : α → Option β) : List α → Option (List β)
  | [] => some []
  | x :: xs => (f x).bind fun y => (optAll f xs).map fun ys => y :: ys
/-- the container that a value is -/
def cvw (ρ : Env) (h : Hh) : R → Option C
  | .val (.lst xs) => some (.lst xs)
  | .val (.dct ks vs) => some (.dct ks vs)
  | .val (.obj c ns fs) => some (.ins c ns fs)
  | .val (.ref i) => h[i]?
  | .fr c => some c
  | .vw i => (match ρ[i]? with
    | some (.own c) => some c
    | _ => none)
  | _ => none
def lstOf (ρ : Env) (h : Hh) (r : R) : Option (List D) := match cvw ρ h r with
  | some (.lst xs) => some xs
  | _ => none
def tupOf : R → Option (List D)
  | .val (.tup xs) => some xs
  | _ => none
def seqOf (ρ : Env) (h : Hh) (r : R) : Option (List D) := alt (tupOf r) (lstOf ρ h r)
def intOf : R → Option Int
  | .val (.int i) => some i
  | _ => none
def strOf : R → Option Str
  | .val (.str s) => some s
  | _ => none
def toD : R → Option D
  | .val d => some d
  | .fr c => some c.toD
  | .vw _ => none

/-! data -/
mutual
def pdD (h : Hh) (cell : Nat → Option PyData) : D → Option PyData
  | .non => some .none
  | .bl b => some (.bool b)
  | .int i => some (.int i)
  | .str s => some (.str s)
  | .tup xs => (pdDs h cell xs).map .tuple
  | .lst xs => (pdDs h cell xs).map .list
  | .ref i => cell i
  | .rep _ => none
  | .dct _ _ => none
  | .obj _ _ _ => none
  | .cls _ => none
  | .exc _ _ _ => none
  | .clo _ _ => none
def pdDs (h : Hh) (cell : Nat → Option PyData) : List D → Option (List PyData)
  | [] => some []
  | d :: ds => (pdD h cell d).bind fun x => (pdDs h cell ds).map fun xs => x :: xs
end
def cell0 (h : Hh) (i : Nat) : Option PyData := match h[i]? with
  | some (.lst xs) => (pdDs h (fun _ => none) xs).map .list
  | _ => none
def pdR (ρ : Env) (h : Hh) : R → Option PyData
  | .val d => pdD h (cell0 h) d
  | .fr (.lst xs) => (pdDs h (cell0 h) xs).map .list
  | .vw i => (match ρ[i]? with
    | some (.own (.lst xs)) => (pdDs h (cell0 h) xs).map .list
    | _ => none)
  | _ => none

/-! operators -/
def addR (ρ : Env) (h : Hh) (a b : R) : Option R :=
  alt ((intOf a).bind fun i => (intOf b).map fun j => .val (.int (i + j)))
  (alt ((strOf a).bind fun x => (strOf b).bind fun y => if x.length + y.length ≤ 16777216 then some (.val (.str (x ++ y))) else none)
  (alt ((tupOf a).bind fun xs => (tupOf b).bind fun ys => if xs.length + ys.length ≤ 16777216 then some (.val (.tup (xs ++ ys))) else none)
  ((lstOf ρ h a).bind fun xs => (lstOf ρ h b).bind fun ys => if xs.length + ys.length ≤ 16777216 then some (.fr (.lst (xs ++ ys))) else none)))
def mulR (a b : R) : Option R :=
  alt ((intOf a).bind fun i => (intOf b).bind fun j => if (-(2 ^ 64) < i ∧ i < 2 ^ 64) ∨ (-(2 ^ 64) < j ∧ j < 2 ^ 64) then some (.val (.int (i * j))) else none)
  ((strOf a).bind fun x => (intOf b).bind fun n => if 0 ≤ n ∧ n ≤ 4096 ∧ x.length ≤ 4096 then some (.val (.str (Txt.mul x n))) else none)
def binR (ρ : Env) (h : Hh) : Bop → R → R → Option R
  | .add, a, b => addR ρ h a b
  | .sub, a, b => (intOf a).bind fun i => (intOf b).map fun j => .val (.int (i - j))
  | .mul, a, b => mulR a b
  | .fdiv, a, b => (intOf a).bind fun i => (intOf b).bind fun j => if 0 < j ∧ j < 1073741824 then some (.val (.int (i / j))) else none
  | .mod, a, b => (intOf a).bind fun i => (intOf b).bind fun j => if 0 < j then some (.val (.int (i % j))) else none
  | .pow, a, b => (intOf a).bind fun i => (intOf b).bind fun j => if 0 ≤ j ∧ j ≤ 1000 ∧ i.natAbs < 2 ^ 64 then some (.val (.int (i ^ j.toNat))) else none
def scalD : R → Option D
  | .val .non => some .non
  | .val (.bl b) => some (.bl b)
  | .val (.int i) => some (.int i)
  | .val (.str s) => some (.str s)
  | _ => none
def repOf : R → Option Str
  | .val (.rep s) => some s
  | _ => none
def eqR (ρ : Env) (h : Hh) (a b : R) : Option Bool :=
  alt ((strOf a).bind fun x => (strOf b).map fun y => decide (x = y))
  (alt ((repOf a).bind fun x => (repOf b).map fun y => decide (x = y))
  ((pdR ρ h a).bind fun x => (pdR ρ h b).bind fun y => if x.depth ≤ 64 ∧ y.depth ≤ 64 then some (PyData.eqv x y) else none))
def isNon : R → Bool
  | .val .non => true
  | _ => false
def strIn (x y : Str) : Bool := !(Builtin.Str.occurrences y x 0 y.length 1).isEmpty
/-- == of scalars -/
def eqS : D → D → Bool
  | .non, .non => true
  | .bl a, .bl b => a == b
  | .bl a, .int b => (if a then 1 else 0) == b
  | .int a, .bl b => a == (if b then 1 else 0)
  | .int a, .int b => a == b
  | .str a, .str b => a == b
  | _, _ => false
def flatD : D → Bool
  | .non => true
  | .bl _ => true
  | .int _ => true
  | .str _ => true
  | _ => false
def inR (ρ : Env) (h : Hh) (a b : R) : Option Bool :=
  alt ((strOf a).bind fun x => (strOf b).map fun y => strIn x y)
  ((scalD a).bind fun x => (seqOf ρ h b).bind fun ys => if ys.all flatD then some (ys.any fun y => eqS y x) else none)
def ltS (a b : Str) : Bool := decide (a.cps.toList < b.cps.toList)
def cmpI (p : Int → Int → Bool) (q : Str → Str → Bool) (a b : R) : Option Bool :=
  alt ((intOf a).bind fun i => (intOf b).map fun j => p i j) ((strOf a).bind fun i => (strOf b).map fun j => q i j)
def cmpR (ρ : Env) (h : Hh) : Cop → R → R → Option Bool
  | .eq, a, b => eqR ρ h a b
  | .ne, a, b => (eqR ρ h a b).map (!·)
  | .lt, a, b => cmpI (fun i j => decide (i < j)) ltS a b
  | .le, a, b => cmpI (fun i j => decide (i ≤ j)) (fun x y => !ltS y x) a b
  | .gt, a, b => cmpI (fun i j => decide (j < i)) (fun x y => ltS y x) a b
  | .ge, a, b => cmpI (fun i j => decide (j ≤ i)) (fun x y => !ltS x y) a b
  | .isN, a, b => if isNon b then some (isNon a) else none
  | .notN, a, b => if isNon b then some (!isNon a) else none
  | .inn, a, b => inR ρ h a b
  | .nin, a, b => (inR ρ h a b).map (!·)
/-- a value's truth -/
def truR (ρ : Env) (h : Hh) (r : R) : Option Bool := match r with
  | .val .non => some false
  | .val (.bl b) => some b
  | .val (.int i) => some (i != 0)
  | .val (.str s) => some ((s.length : Int) != 0)
  | .val (.tup xs) => some (!xs.isEmpty)
  | r => (lstOf ρ h r).map fun xs => !xs.isEmpty
def atR {α : Type} (xs : List α) (i : Int) : Option α := atI xs i
def ixR (ρ : Env) (h : Hh) (a i : R) : Option R := (intOf i).bind fun k =>
  alt ((strOf a).bind fun s => (atI s.cps.toList k).map fun c => .val (.str ⟨#[c]⟩))
  ((seqOf ρ h a).bind fun xs => (atI xs k).map .val)
def cutD {α : Type} (xs : List α) (lo hi : Option Int) : List α := (xs.drop (HT.sIx xs.length 0 lo)).take (HT.sIx xs.length xs.length hi - HT.sIx xs.length 0 lo)
def slR (ρ : Env) (h : Hh) (a : R) (lo hi : Option Int) : Option R :=
  alt ((strOf a).map fun s => .val (.str (cutS s lo hi)))
  (alt ((tupOf a).map fun xs => .val (.tup (cutD xs lo hi)))
  ((lstOf ρ h a).map fun xs => .fr (.lst (cutD xs lo hi))))
def blsOf : List D → Option (List Bool)
  | [] => some []
  | .bl b :: r => (blsOf r).map fun bs => b :: bs
  | _ :: _ => none
def strsOf : List D → Option (List Str)
  | [] => some []
  | .str b :: r => (strsOf r).map fun bs => b :: bs
  | _ :: _ => none
def lenR (ρ : Env) (h : Hh) (r : R) : Option Int := alt ((strOf r).map fun s => (s.length : Int)) ((seqOf ρ h r).map fun xs => (xs.length : Int))
def biR (ρ : Env) (h : Hh) : Bi → R → Option R
  | .len, r => (lenR ρ h r).map fun n => .val (.int n)
  | .list, r => (seqOf ρ h r).map fun xs => .fr (.lst xs)
  | .tuple, r => (seqOf ρ h r).map fun xs => .val (.tup xs)
  | .int, r => (match r with
    | .val (.int i) => some (.val (.int i))
    | .val (.bl b) => some (.val (.int (if b then 1 else 0)))
    | _ => none)
  | .repr, r => (pdR ρ h r).bind fun x => if x.showable = true ∧ x.shown.length ≤ 16777216 ∧ x.depth ≤ 64 then some (.val (.rep x.shown)) else none
  | .all, r => (lstOf ρ h r).bind fun xs => (blsOf xs).map fun bs => .val (.bl (bs.all id))
  | .any, r => (lstOf ρ h r).bind fun xs => (blsOf xs).map fun bs => .val (.bl (bs.any id))
def isiR (r : R) : Ty → Option Bool
  | t => (match r with
    | .val .non => some false
    | .val (.bl _) => some (match t with | .int => true | .bool => true | _ => false)
    | .val (.int _) => some (match t with | .int => true | _ => false)
    | .val (.str _) => some (match t with | .str => true | _ => false)
    | .val (.tup _) => some (match t with | .tup => true | _ => false)
    | .val (.lst _) => some (match t with | .lst => true | _ => false)
    | .fr (.lst _) => some (match t with | .lst => true | _ => false)
    | _ => none)
def joinOk (a : Str) (ys : List Str) : Bool := decide ((ys.map (·.length)).sum + ys.length * a.length ≤ 16777216)
def mtR (ρ : Env) (h : Hh) : Mt → R → List R → Option R
  | .join, o, [b] => (strOf o).bind fun a => (seqOf ρ h b).bind fun xs => (strsOf xs).bind fun ys => if joinOk a ys then some (.val (.str (Txt.join a ys))) else none
  | _, _, _ => none
/-- the receiver is one -/
def rcvR : Mt → R → Option Unit
  | .join, r => (strOf r).map fun _ => ()
/-- the items of what is walked -/
def itD (ρ : Env) (h : Hh) (r : R) : Option (List D) :=
  alt ((strOf r).map fun s => s.cps.toList.map fun c => .str ⟨#[c]⟩)
  (alt (tupOf r) (match r with
    | .val (.lst xs) => some xs
    | .fr (.lst xs) => some xs
    | _ => none))
def setTg (ρ : Env) : Tg → D → Option Env
  | .nm i, d => some (ρ.set i (.val d))
  | .tp is, .tup ds => if is.length = ds.length then some ((is.zip ds).foldl (fun ρ p => ρ.set p.1 (.val p.2)) ρ) else none
  | .tp _, _ => none
def wipeR (ρ : Env) : List Nat → Env
  | [] => ρ
  | v :: vs => (wipeR ρ vs).set v .none
def lcL (f : D → Hh → Res (Option D × Hh)) : List D → Hh → Res (List D × Hh)
  | [], h => .ok ([], h)
  | x :: xs, h => (f x h).bind fun r => (lcL f xs r.2).bind fun q => .ok ((match r.1 with
    | some d => d :: q.1
    | none => q.1), q.2)
/-- no exception leaves it -/
def noErr {α : Type} : Res α → Res α
  | .err _ _ => .stuck
  | r => r
section
variable (call : Nat → List D → List (Str × D) → Hh → Res (D × Hh))
mutual
def evE : E → Env → Hh → Res (R × Hh)
  | .var i, ρ, h => (match ρ[i]? with
    | some (.val d) => .ok (.val d, h)
    | _ => .stuck)
  | .pk i, ρ, h => (match ρ[i]? with
    | some (.own _) => .ok (.vw i, h)
    | _ => .stuck)
  | .gv _ d, _, h => .ok (.val d, h)
  | .cst d, _, h => .ok (.val d, h)
  | .bin o a b, ρ, h => (evE a ρ h).bind fun x => (evE b ρ x.2).bind fun y => (ofO (binR ρ y.2 o x.1 y.1)).bind fun z => .ok (z, y.2)
  | .neg a, ρ, h => (evE a ρ h).bind fun x => (ofO (intOf x.1)).bind fun i => .ok (.val (.int (-i)), x.2)
  | .cmp o a b, ρ, h => (evE a ρ h).bind fun x => (evE b ρ x.2).bind fun y => (ofO (cmpR ρ y.2 o x.1 y.1)).bind fun z => .ok (.val (.bl z), y.2)
  | .chn o o' a b c, ρ, h => (evE a ρ h).bind fun x => (evE b ρ x.2).bind fun y => (ofO (cmpR ρ y.2 o x.1 y.1)).bind fun k => match k with
    | false => .ok (.val (.bl false), y.2)
    | true => (evE c ρ y.2).bind fun z => (ofO (cmpR ρ z.2 o' y.1 z.1)).bind fun k' => .ok (.val (.bl k'), z.2)
  | .not a, ρ, h => (evE a ρ h).bind fun x => (ofO (truR ρ x.2 x.1)).bind fun k => .ok (.val (.bl (!k)), x.2)
  | .and a es, ρ, h => (evE a ρ h).bind fun x => evAnd es ρ x.2 x.1
  | .or a es, ρ, h => (evE a ρ h).bind fun x => evOr es ρ x.2 x.1
  | .ite c a b, ρ, h => (evE c ρ h).bind fun x => (ofO (truR ρ x.2 x.1)).bind fun k => match k with
    | true => evE a ρ x.2
    | false => evE b ρ x.2
  | .tup es, ρ, h => (evEs es ρ h).bind fun x => (ofO (optAll toD x.1)).bind fun ds => if ds.length ≤ 16777216 then .ok (.val (.tup ds), x.2) else .stuck
  | .lst es, ρ, h => (evEs es ρ h).bind fun x => (ofO (optAll toD x.1)).bind fun ds => if ds.length ≤ 16777216 then .ok (.fr (.lst ds), x.2) else .stuck
  | .call f es ks, ρ, h => (evEs es ρ h).bind fun x => (ofO (optAll toD x.1)).bind fun ds => (evKs ks ρ x.2).bind fun y => (ofO (optAll toD y.1)).bind fun kd =>
      (call f ds ((keysOf ks).zip kd) y.2).bind fun z => .ok (.val z.1, z.2)
  | .bi b a, ρ, h => (evE a ρ h).bind fun x => (ofO (biR ρ x.2 b x.1)).bind fun z => .ok (z, x.2)
  | .isi a t, ρ, h => (evE a ρ h).bind fun x => (ofO (isiR x.1 t)).bind fun k => .ok (.val (.bl k), x.2)
  | .mt m o es, ρ, h => (evE o ρ h).bind fun x => (ofO (rcvR m x.1)).bind fun _ => (evEs es ρ x.2).bind fun y => (ofO (mtR ρ y.2 m x.1 y.1)).bind fun z => .ok (z, y.2)
  | .ix a i, ρ, h => (evE a ρ h).bind fun x => (evE i ρ x.2).bind fun y => (ofO (ixR ρ y.2 x.1 y.1)).bind fun z => .ok (z, y.2)
  | .sl a lo hi, ρ, h => (evE a ρ h).bind fun x => (evO lo ρ x.2).bind fun y => (evO hi ρ y.2).bind fun z => (ofO (slR ρ z.2 x.1 y.1 z.1)).bind fun r => .ok (r, z.2)
  | .lc elt own tg it c, ρ, h => (evIt it ρ h).bind fun x =>
      (lcL (fun d h => noErr ((ofO (setTg (wipeR ρ (own.map (·.2))) tg d)).bind fun ρ1 => (evC c ρ1 h).bind fun k => match k.1 with
        | false => .ok (none, k.2)
        | true => (evE elt ρ1 k.2).bind fun z => (ofO (toD z.1)).bind fun d => .ok (some d, z.2))) x.1 x.2).bind fun y => .ok (.fr (.lst y.1), y.2)
def evAnd : Es → Env → Hh → R → Res (R × Hh)
  | .nil, _, h, r => .ok (r, h)
  | .cons e es, ρ, h, r => (ofO (truR ρ h r)).bind fun k => match k with
    | true => (evE e ρ h).bind fun x => evAnd es ρ x.2 x.1
    | false => .ok (r, h)
def evOr : Es → Env → Hh → R → Res (R × Hh)
  | .nil, _, h, r => .ok (r, h)
  | .cons e es, ρ, h, r => (ofO (truR ρ h r)).bind fun k => match k with
    | true => .ok (r, h)
    | false => (evE e ρ h).bind fun x => evOr es ρ x.2 x.1
def evEs : Es → Env → Hh → Res (List R × Hh)
  | .nil, _, h => .ok ([], h)
  | .cons e es, ρ, h => (evE e ρ h).bind fun x => (evEs es ρ x.2).bind fun y => .ok (x.1 :: y.1, y.2)
def evKs : Ks → Env → Hh → Res (List R × Hh)
  | .nil, _, h => .ok ([], h)
  | .cons _ e ks, ρ, h => (evE e ρ h).bind fun x => (evKs ks ρ x.2).bind fun y => .ok (x.1 :: y.1, y.2)
def evO : Oe → Env → Hh → Res (Option Int × Hh)
  | .none, _, h => .ok (none, h)
  | .some e, ρ, h => (evE e ρ h).bind fun x => (ofO (intOf x.1)).bind fun i => .ok (some i, x.2)
def evC : Oe → Env → Hh → Res (Bool × Hh)
  | .none, _, h => .ok (true, h)
  | .some e, ρ, h => (evE e ρ h).bind fun x => (ofO (truR ρ x.2 x.1)).bind fun k => .ok (k, x.2)
def evIt : It → Env → Hh → Res (List D × Hh)
  | .sq e, ρ, h => (evE e ρ h).bind fun x => (ofO (itD ρ x.2 x.1)).bind fun ds => .ok (ds, x.2)
  | .rg e, ρ, h => (evE e ρ h).bind fun x => (ofO (intOf x.1)).bind fun n => if -16777216 ≤ n ∧ n ≤ 16777216 then .ok ((List.range n.toNat).map fun (i : Nat) => D.int (i : Int), x.2) else .stuck
end
/-- how a statement ends -/
inductive RS where
  | nx (ρ : Env) (h : Hh)
  | rt (d : D) (h : Hh)
  | bk (ρ : Env) (h : Hh)
  | ct (ρ : Env) (h : Hh)
  | err (x : D) (ρ : Env) (h : Hh)
  | stuck
def RS.seq (r : RS) (f : Env → Hh → RS) : RS := match r with
  | .nx ρ h => f ρ h
  | r => r
/-- of an expression's end -/
def Res.st {α : Type} (r : Res α) (ρ : Env) (f : α → RS) : RS := match r with
  | .ok a => f a
  | .err x h => .err x ρ h
  | .stuck => .stuck
def forL (f : D → Env → Hh → RS) : List D → Env → Hh → RS
  | [], ρ, h => .nx ρ h
  | x :: xs, ρ, h => match f x ρ h with
    | .nx ρ' h' => forL f xs ρ' h'
    | .ct ρ' h' => forL f xs ρ' h'
    | .bk ρ' h' => .nx ρ' h'
    | r => r
def putM (ρ : Env) (i : Nat) (h : Hh) : Mode → R → RS
  | .frz, r => (match toD r with
    | some d => .nx (ρ.set i (.val d)) h
    | none => .stuck)
  | .own, .fr c => .nx (ρ.set i (.own c)) h
  | .cel, .fr c => .nx (ρ.set i (.val (.ref h.length))) (h ++ [c])
  | _, _ => .stuck
def retM (h : Hh) : Mode → R → RS
  | .cel, .fr c => .rt (.ref h.length) (h ++ [c])
  | .frz, r => (match toD r with
    | some d => .rt d h
    | none => .stuck)
  | _, _ => .stuck
/-- o[i] = v, o a cell -/
def setC (h : Hh) (o i v : R) : Option Hh := match o with
  | .val (.ref k) => (match h[k]? with
    | some (.lst xs) => (intOf i).bind fun j => (ixN xs.length j).bind fun n => (toD v).map fun d => h.set k (.lst (xs.set n d))
    | _ => none)
  | _ => none
mutual
def evS : S → Env → Hh → RS
  | .asg m i e, ρ, h => (evE call e ρ h).st ρ fun x => putM ρ i x.2 m x.1
  | .frz i, ρ, h => (match ρ[i]? with
    | some (.own c) => .nx (ρ.set i (.val c.toD)) h
    | _ => .stuck)
  | .setix o i e, ρ, h => (evE call e ρ h).st ρ fun x => (evE call o ρ x.2).st ρ fun y => (evE call i ρ y.2).st ρ fun z => (match setC z.2 y.1 z.1 x.1 with
    | some h' => .nx ρ h'
    | none => .stuck)
  | .app i e, ρ, h => (match ρ[i]? with
    | some (.own (.lst xs)) => (evE call e ρ h).st ρ fun x => (match toD x.1 with
      | some d => if xs.length < 16777216 then .nx (ρ.set i (.own (.lst (xs ++ [d])))) x.2 else .stuck
      | none => .stuck)
    | _ => .stuck)
  | .ex e, ρ, h => (evE call e ρ h).st ρ fun x => .nx ρ x.2
  | .ret m e, ρ, h => (evE call e ρ h).st ρ fun x => retM x.2 m x.1
  | .ite c a b, ρ, h => (evE call c ρ h).st ρ fun x => (match truR ρ x.2 x.1 with
    | some true => evSs a ρ x.2
    | some false => evSs b ρ x.2
    | none => .stuck)
  | .for tg it b, ρ, h => (evIt call it ρ h).st ρ fun x => forL (fun d ρ h => match setTg ρ tg d with
    | some ρ' => evSs b ρ' h
    | none => .stuck) x.1 ρ x.2
  | .brk, ρ, h => .bk ρ h
  | .cnt, ρ, h => .ct ρ h
  | .pas, ρ, h => .nx ρ h
def evSs : Ss → Env → Hh → RS
  | .nil, ρ, h => .nx ρ h
  | .cons s r, ρ, h => (evS s ρ h).seq fun ρ h => evSs r ρ h
end
end

/-! ### a program -/
structure FI where
  ps : List Str
  N : List Str
  dfl : List (Str × D)
  body : Ss
structure Pg where
  fs : List FI
/-- the parameters' values: the written ones, then by keyword, then the defaults -/
def bindG {α : Type} (ps : List Str) (dfl : List (Str × α)) (us : List α) (kd : List (Str × α)) : Option (List α) :=
  if us.length ≤ ps.length then (optAll (fun p => alt (kd.lookup p) (dfl.lookup p)) (ps.drop us.length)).map fun r => us ++ r else none
def endF : RS → Res (D × Hh)
  | .rt d h => .ok (d, h)
  | .nx _ h => .ok (.non, h)
  | .err x _ h => .err x h
  | _ => .stuck
def env0 (N : List Str) (ds : List D) : Env := ds.map Sl.val ++ List.replicate (N.length - ds.length) Sl.none
def callF (P : Pg) : Nat → Nat → List D → List (Str × D) → Hh → Res (D × Hh)
  | 0, _, _, _, _ => .stuck
  | n + 1, f, ds, kd, h => (ofO P.fs[f]?).bind fun fi => (ofO (bindG fi.ps fi.dfl ds kd)).bind fun vs => endF (evSs (callF P n) fi.body (env0 fi.N vs) h)
end An
namespace An
example (call) (d : D) (ρ h) : evE call (.cst d) ρ h = .ok (.val d, h) := rfl
example (call) (a : E) (ρ h) : evE call (.not a) ρ h = (evE call a ρ h).bind fun x => (ofO (truR ρ x.2 x.1)).bind fun k => .ok (.val (.bl (!k)), x.2) := rfl
example (call) (s r) (ρ h) : evSs call (.cons s r) ρ h = (evS call s ρ h).seq fun ρ h => evSs call r ρ h := rfl
end An

namespace An
open PySem L2

/-! ### the small language's text is the row's text -/
structure Ck where
  N : List Str
  sc : Scope
  /-- the defs' names, how each may be called: so many values, these keywords -/
  fn : List (Str × List (Nat × List Str))
  /-- the module's constants -/
  gl : List (Str × D)
def okS (s : Str) : Bool := PyData.strOk s && decide (s.length ≤ 16777216)
def sameD : D → D → Bool
  | .non, .non => true
  | .bl a, .bl b => a == b
  | .int a, .int b => decide (a = b)
  | .str a, .str b => decide (a = b)
  | _, _ => false
def sameC : D → Const → Bool
  | .non, .none => true
  | .bl a, .bool b => a == b
  | .int a, .int b => decide (a = b)
  | .str a, .str b => decide (a = b) && okS a
  | _, _ => false
def sameB : Bop → Operator → Bool
  | .add, .Add => true
  | .sub, .Sub => true
  | .mul, .Mult => true
  | .fdiv, .FloorDiv => true
  | .mod, .Mod => true
  | .pow, .Pow => true
  | _, _ => false
def sameO : Cop → CmpOp → Bool
  | .eq, .Eq => true
  | .ne, .NotEq => true
  | .lt, .Lt => true
  | .le, .LtE => true
  | .gt, .Gt => true
  | .ge, .GtE => true
  | .isN, .Is => true
  | .notN, .IsNot => true
  | .inn, .In => true
  | .nin, .NotIn => true
  | _, _ => false
def biN : Bi → Str
  | .len => "len"
  | .list => "list"
  | .tuple => "tuple"
  | .int => "int"
  | .repr => "repr"
  | .all => "all"
  | .any => "any"
def tyN : Ty → Str
  | .str => "str"
  | .int => "int"
  | .bool => "bool"
  | .tup => "tuple"
  | .lst => "list"
def mtN : Mt → Str
  | .join => "join"
/-- a name of the def -/
def visB (sc : Scope) (x : Str) : Bool := match sc.names.lookup x with
  | some .local => true
  | some .cell => true
  | some .free => true
  | _ => false
def locB (sc : Scope) (x : Str) : Bool := match sc.names.lookup x with
  | some .local => true
  | _ => false
def celB (sc : Scope) (x : Str) : Bool := match sc.names.lookup x with
  | some .cell => true
  | _ => false
def glB (sc : Scope) (x : Str) : Bool := decide (sc.names.lookup x = some .globalImplicit) && decide (x ≠ "__debug__")
def chkV (k : Ck) (i : Nat) (x : Str) : Bool := decide (k.N[i]? = some x) && visB k.sc x && decide (x ≠ "__debug__") && decide (x ≠ "__classdict__")
def chkG (k : Ck) (x y : Str) : Bool := decide (x = y) && glB k.sc x
def plainIx : Expr → Bool
  | .Slice _ _ _ _ => false
  | _ => true
def isSuper : Expr → Bool
  | .Call (.Name id _) [] [] _ => decide (id = "super")
  | _ => false
def isSetE : Expr → Bool
  | .Set _ _ _ => true
  | _ => false
def chkNm (k : Ck) (i : Nat) (x : Str) : Bool := decide (k.N[i]? = some x) && (locB k.sc x || celB k.sc x)
def chkTgs (k : Ck) : List Nat → List Expr → Bool
  | [], [] => true
  | i :: is, .Name x _ :: es => chkNm k i x && chkTgs k is es
  | _, _ => false
def chkTg (k : Ck) : Tg → Expr → Bool
  | .nm i, .Name x _ => chkNm k i x
  | .tp is, .Tuple es _ _ => chkTgs k is es
  | _, _ => false
def tgIn (tg : Tg) (own : List (Str × Nat)) : Bool := match tg with
  | .nm i => decide (i ∈ own.map (·.2))
  | .tp is => is.all fun i => decide (i ∈ own.map (·.2))
mutual
def chkE (k : Ck) : E → Expr → Bool
  | .var i, .Name x _ => chkV k i x
  | .pk i, .Name x _ => chkV k i x
  | .gv x d, .Name y _ => chkG k x y && (match k.gl.lookup x with
    | some d' => sameD d d'
    | none => false)
  | .cst d, .Constant c _ _ => sameC d c
  | .bin o a b, .BinOp x op y _ => sameB o op && chkE k a x && chkE k b y
  | .neg a, .UnaryOp .USub x _ => chkE k a x
  | .cmp o a b, .Compare x [op] [y] _ => sameO o op && chkE k a x && chkE k b y && !behindInMarks op y
  | .chn o o' a b c, .Compare x [op, op'] [y, z] _ => sameO o op && sameO o' op' && chkE k a x && chkE k b y && chkE k c z && !lastMarks [op, op'] [y, z]
  | .not a, .UnaryOp .Not x _ => chkE k a x
  | .and a es, .BoolOp .And (x :: xs) _ => chkE k a x && chkEs k es xs
  | .or a es, .BoolOp .Or (x :: xs) _ => chkE k a x && chkEs k es xs
  | .ite c a b, .IfExp x y z _ => chkE k c x && chkE k a y && chkE k b z
  | .tup es, .Tuple xs _ _ => chkEs k es xs
  | .lst es, .List xs _ => chkEs k es xs
  | .call f es ks, .Call (.Name x _) xs kws _ => (match k.fn[f]? with
    | some y => chkG k y.1 x && decide ((xs.length, keysOf ks) ∈ y.2)
    | none => false) && chkEs k es xs && chkKs k ks kws
  | .bi b a, .Call (.Name x _) [y] [] _ => chkG k (biN b) x && chkE k a y
  | .isi a t, .Call (.Name x _) [y, .Name z _] [] _ => chkG k "isinstance" x && chkE k a y && chkG k (tyN t) z
  | .mt m o es, .Call (.Attribute y x apos) xs [] pos => decide (mtN m = x) && chkE k o y && chkEs k es xs && (apos.endLine == pos.line) && !isSuper y && decide (xs.length < 20) && !xs.isEmpty
  | .ix a i, .Subscript x y _ => chkE k a x && chkE k i y && plainIx y
  | .sl a lo hi, .Subscript x (.Slice l u none _) _ => chkE k a x && chkO k lo l && chkO k hi u
  | .lc elt own tg it c, .ListComp x [⟨t, i, ifs, z⟩] scope _ => decide (z = 0) && blkC k.N k.sc scope own && chkTg { k with sc := scope } tg t && tgIn tg own && chkI k it i && chkE { k with sc := relS scope k.sc } elt x && chkC { k with sc := relS scope k.sc } c ifs && !isSetE i
  | _, _ => false
def chkEs (k : Ck) : Es → List Expr → Bool
  | .nil, [] => true
  | .cons e es, x :: xs => chkE k e x && chkEs k es xs
  | _, _ => false
def chkKs (k : Ck) : Ks → List Keyword → Bool
  | .nil, [] => true
  | .cons n e ks, ⟨some m, x, _⟩ :: xs => decide (n = m) && chkE k e x && chkKs k ks xs
  | _, _ => false
def chkO (k : Ck) : Oe → Option Expr → Bool
  | .none, none => true
  | .some e, some x => chkE k e x
  | _, _ => false
def chkC (k : Ck) : Oe → List Expr → Bool
  | .none, [] => true
  | .some e, [x] => chkE k e x
  | _, _ => false
def chkI (k : Ck) : It → Expr → Bool
  | .sq e, x => chkE k e x
  | .rg e, .Call (.Name x _) [y] [] _ => chkG k "range" x && chkE k e y
  | _, _ => false
end
/-- a comprehension's own names do not hide the name that takes it, and both stand on one line -/
def lcAlone (k : Ck) (y : Str) (py : Pos) : Expr → Bool
  | .ListComp _ [_] scope pos => locB k.sc y && (py.line == pos.line) && !(scope.names.any fun (n, k) => n == y && (k == .local || k == .cell))
  | .ListComp .. => false
  | .SetComp .. => false
  | .DictComp .. => false
  | _ => true
def noComp : Expr → Bool
  | .ListComp .. => false
  | .SetComp .. => false
  | .DictComp .. => false
  | _ => true
/-! views of statements -/
def vAsg : Stmt → Option (Str × Pos × Expr × Pos)
  | .Assign [.Name x px] y pos => some (x, px, y, pos)
  | _ => none
theorem vAsg_eq {s : Stmt} {x px y pos} (h : vAsg s = some (x, px, y, pos)) : s = .Assign [.Name x px] y pos := by
  unfold vAsg at h
  split at h
  · cases h; rfl
  · cases h
def vSet : Stmt → Option (Expr × Expr × Pos × Expr × Pos)
  | .Assign [.Subscript x y p] z pos => some (x, y, p, z, pos)
  | _ => none
theorem vSet_eq {s : Stmt} {x y p z pos} (h : vSet s = some (x, y, p, z, pos)) : s = .Assign [.Subscript x y p] z pos := by
  unfold vSet at h
  split at h
  · cases h; rfl
  · cases h
def vApp : Stmt → Option (Str × Pos × Str × Pos × Expr × Pos × Pos)
  | .Expr (.Call (.Attribute (.Name x p) m apos) [y] [] pos) p2 => some (x, p, m, apos, y, pos, p2)
  | _ => none
theorem vApp_eq {s : Stmt} {x p m apos y pos p2} (h : vApp s = some (x, p, m, apos, y, pos, p2)) : s = .Expr (.Call (.Attribute (.Name x p) m apos) [y] [] pos) p2 := by
  unfold vApp at h
  split at h
  · cases h; rfl
  · cases h
def vEx : Stmt → Option (Expr × Pos)
  | .Expr x pos => some (x, pos)
  | _ => none
theorem vEx_eq {s : Stmt} {x pos} (h : vEx s = some (x, pos)) : s = .Expr x pos := by
  unfold vEx at h
  split at h
  · cases h; rfl
  · cases h
def vRet : Stmt → Option (Expr × Pos)
  | .Return (some x) pos => some (x, pos)
  | _ => none
theorem vRet_eq {s : Stmt} {x pos} (h : vRet s = some (x, pos)) : s = .Return (some x) pos := by
  unfold vRet at h
  split at h
  · cases h; rfl
  · cases h
def vIf : Stmt → Option (Expr × List Stmt × List Stmt × Pos)
  | .If x y z pos => some (x, y, z, pos)
  | _ => none
theorem vIf_eq {s : Stmt} {x y z pos} (h : vIf s = some (x, y, z, pos)) : s = .If x y z pos := by
  unfold vIf at h
  split at h
  · cases h; rfl
  · cases h
def vFor : Stmt → Option (Expr × Expr × List Stmt × Pos)
  | .For t i y [] pos => some (t, i, y, pos)
  | _ => none
theorem vFor_eq {s : Stmt} {t i y pos} (h : vFor s = some (t, i, y, pos)) : s = .For t i y [] pos := by
  unfold vFor at h
  split at h
  · cases h; rfl
  · cases h
def vOne : Stmt → Option (Nat × Pos)
  | .Break pos => some (0, pos)
  | .Continue pos => some (1, pos)
  | .Pass pos => some (2, pos)
  | _ => none
theorem vOne_eq {s : Stmt} {n pos} (h : vOne s = some (n, pos)) : (n = 0 ∧ s = .Break pos) ∨ (n = 1 ∧ s = .Continue pos) ∨ (n = 2 ∧ s = .Pass pos) := by
  unfold vOne at h
  split at h
  · cases h; exact .inl ⟨rfl, rfl⟩
  · cases h; exact .inr (.inl ⟨rfl, rfl⟩)
  · cases h; exact .inr (.inr ⟨rfl, rfl⟩)
  · cases h
def onO {α : Type} (o : Option α) (f : α → Bool) : Bool := match o with
  | some a => f a
  | none => false
theorem onO_eq {α : Type} {o : Option α} {f : α → Bool} (h : onO o f = true) : ∃ a, o = some a ∧ f a = true := by
  cases o with
  | some a => exact ⟨a, rfl, h⟩
  | none => cases h
def isFrz : S → Bool
  | .frz _ => true
  | _ => false
mutual
def chkS (k : Ck) : S → Stmt → Bool
  | .asg _ i e, s => onO (vAsg s) fun v => chkNm k i v.1 && chkE k e v.2.2.1 && lcAlone k v.1 v.2.1 v.2.2.1
  | .frz _, _ => false
  | .setix o i e, s => onO (vSet s) fun v => chkE k o v.1 && chkE k i v.2.1 && plainIx v.2.1 && chkE k e v.2.2.2.1 && noComp v.2.2.2.1
  | .app i e, s => onO (vApp s) fun v => decide (v.2.2.1 = "append") && chkV k i v.1 && chkE k e v.2.2.2.2.1 && (v.2.2.2.1.endLine == v.2.2.2.2.2.1.line)
  | .ex e, s => onO (vEx s) fun v => chkE k e v.1 && noComp v.1
  | .ret _ e, s => onO (vRet s) fun v => chkE k e v.1
  | .ite c a b, s => onO (vIf s) fun v => chkE k c v.1 && chkSs k a v.2.1 && chkSs k b v.2.2.1
  | .for tg it b, s => onO (vFor s) fun v => chkTg k tg v.1 && chkI k it v.2.1 && chkSs k b v.2.2.1 && !isSetE v.2.1
  | .brk, s => onO (vOne s) fun v => decide (v.1 = 0)
  | .cnt, s => onO (vOne s) fun v => decide (v.1 = 1)
  | .pas, s => onO (vOne s) fun v => decide (v.1 = 2)
def chkSs (k : Ck) : Ss → List Stmt → Bool
  | .nil, xs => xs.isEmpty
  | .cons s r, xs => match isFrz s with
    | true => chkSs k r xs
    | false => (match xs with
      | [] => false
      | x :: xs => chkS k s x && chkSs k r xs)
end
end An

namespace An
open PySem L2

/-! ### slots and their values -/
inductive SR : Env → St → List (V × Sl) → Prop where
  | nil : SR [] [] []
  | none {ρ : Env} {σ : St} {hs : List (V × Sl)} {x : Option V} (t : SR ρ σ hs) : SR (.none :: ρ) (x :: σ) hs
  | some {ρ : Env} {σ : St} {hs : List (V × Sl)} {v : V} {s : Sl} (n : s ≠ .none) (t : SR ρ σ hs) : SR (s :: ρ) (some v :: σ) ((v, s) :: hs)
theorem SR.length : ∀ {ρ : Env} {σ : St} {hs : List (V × Sl)}, SR ρ σ hs → σ.length = ρ.length
  | _, _, _, .nil => rfl
  | _, _, _, .none t => by rw [List.length_cons, List.length_cons, t.length]
  | _, _, _, .some _ t => by rw [List.length_cons, List.length_cons, t.length]
theorem SR.get : ∀ {ρ : Env} {σ : St} {hs : List (V × Sl)} {i : Nat} {s : Sl}, SR ρ σ hs → ρ[i]? = .some s → s ≠ .none → ∃ v, σ[i]? = .some (.some v) ∧ (v, s) ∈ hs
  | _, _, _, _, _, .nil, e, _ => by simp at e
  | _, _, _, 0, _, .none t, e, n => by simp at e; exact absurd e.symm n
  | _, _, _, i + 1, _, .none t, e, n => by
    obtain ⟨v, e1, m⟩ := SR.get (i := i) t (by simpa using e) n
    exact ⟨v, by simpa using e1, m⟩
  | _, _, _, 0, _, .some (v := v) _ t, e, n => by simp at e; subst e; exact ⟨v, rfl, List.mem_cons_self⟩
  | _, _, _, i + 1, _, .some _ t, e, n => by
    obtain ⟨v, e1, m⟩ := SR.get (i := i) t (by simpa using e) n
    exact ⟨v, by simpa using e1, List.mem_cons_of_mem _ m⟩
/-- a slot is stored -/
theorem SR.set : ∀ {ρ : Env} {σ : St} {hs : List (V × Sl)} (i : Nat) {s : Sl} {v : V}, SR ρ σ hs → i < ρ.length → s ≠ .none →
    ∃ rest hs', rest.Sublist hs ∧ SR (ρ.set i s) (σ.set i (.some v)) hs' ∧ hs'.Perm ((v, s) :: rest)
  | _, _, _, _, _, _, .nil, l, _ => by simp at l
  | _, _, _, 0, s, v, .none (hs := hs) t, _, n => ⟨hs, _, List.Sublist.refl _, .some n t, List.Perm.refl _⟩
  | _, _, _, 0, s, v, .some (hs := hs) _ t, _, n => ⟨hs, _, List.sublist_cons_self _ _, .some n t, List.Perm.refl _⟩
  | _, _, _, i + 1, s, v, .none t, l, n => by
    obtain ⟨r, hs', h1, h2, h3⟩ := SR.set i (v := v) t (by simpa using l) n
    exact ⟨r, hs', h1, .none h2, h3⟩
  | _, _, _, i + 1, s, v, .some (v := u) (s := q) nq t, l, n => by
    obtain ⟨r, hs', h1, h2, h3⟩ := SR.set i (v := v) t (by simpa using l) n
    exact ⟨(u, q) :: r, _, h1.cons_cons _, .some nq h2, (h3.cons _).trans (List.Perm.swap ..)⟩
/-- a slot's holder is changed, its value is the same -/
theorem SR.swap : ∀ {ρ : Env} {σ : St} {hs : List (V × Sl)} {i : Nat} {s : Sl}, SR ρ σ hs → ρ[i]? = .some s → s ≠ .none →
    ∃ v rest, σ[i]? = .some (.some v) ∧ hs.Perm ((v, s) :: rest) ∧ ∀ s', s' ≠ .none → ∃ hs', SR (ρ.set i s') σ hs' ∧ hs'.Perm ((v, s') :: rest)
  | _, _, _, _, _, .nil, e, _ => by simp at e
  | _, _, _, 0, _, .none t, e, n => by simp at e; exact absurd e.symm n
  | _, _, _, 0, _, .some (v := v) (hs := hs) _ t, e, n => by
    simp at e; subst e
    exact ⟨v, hs, rfl, List.Perm.refl _, fun s' n' => ⟨_, .some n' t, List.Perm.refl _⟩⟩
  | _, _, _, i + 1, _, .none t, e, n => by
    obtain ⟨v, r, e1, p, k⟩ := SR.swap (i := i) t (by simpa using e) n
    refine ⟨v, r, by simpa using e1, p, fun s' n' => ?_⟩
    obtain ⟨hs', h1, h2⟩ := k s' n'
    exact ⟨hs', .none h1, h2⟩
  | _, _, _, i + 1, _, .some (v := u) (s := q) nq t, e, n => by
    obtain ⟨v, r, e1, p, k⟩ := SR.swap (i := i) t (by simpa using e) n
    refine ⟨v, (u, q) :: r, by simpa using e1, (p.cons _).trans (List.Perm.swap ..), fun s' n' => ?_⟩
    obtain ⟨hs', h1, h2⟩ := k s' n'
    exact ⟨_, .some nq h1, (h2.cons _).trans (List.Perm.swap ..)⟩
theorem SR.forget : ∀ {ρ : Env} {σ : St} {hs : List (V × Sl)} (i : Nat), SR ρ σ hs → ∃ hs', hs'.Sublist hs ∧ SR (ρ.set i .none) (σ.set i Option.none) hs'
  | _, _, _, _, .nil => ⟨[], List.Sublist.refl _, .nil⟩
  | _, _, _, 0, .none t => ⟨_, List.Sublist.refl _, .none t⟩
  | _, _, _, 0, .some _ t => ⟨_, List.sublist_cons_self _ _, .none t⟩
  | _, _, _, i + 1, .none t => by
    obtain ⟨hs', h1, h2⟩ := SR.forget i t
    exact ⟨hs', h1, .none h2⟩
  | _, _, _, i + 1, .some n t => by
    obtain ⟨hs', h1, h2⟩ := SR.forget i t
    exact ⟨_, h1.cons_cons _, .some n h2⟩
theorem SR.wipe {ρ : Env} {σ : St} {hs : List (V × Sl)} (t : SR ρ σ hs) : ∀ vs : List Nat, ∃ hs', hs'.Sublist hs ∧ SR (wipeR ρ vs) (L2.wipe σ vs) hs'
  | [] => ⟨hs, List.Sublist.refl _, t⟩
  | v :: vs => by
    obtain ⟨h1, s1, t1⟩ := SR.wipe t vs
    obtain ⟨h2, s2, t2⟩ := t1.forget v
    exact ⟨h2, s2.trans s1, t2⟩

/-! ### results -/
def rh (v : V) : R → List (V × Sl)
  | .val d => [(v, .val d)]
  | .fr c => [(v, .own c)]
  | .vw _ => []
def RW (ρ : Env) (hs : List (V × Sl)) : R → V → Prop
  | .vw i, v => ∃ c, ρ[i]? = some (.own c) ∧ (v, .own c) ∈ hs
  | _, _ => True
def Has (all : List (V × Sl)) (ρ : Env) : R → V → Prop
  | .val d, v => (v, .val d) ∈ all
  | .fr c, v => (v, .own c) ∈ all
  | .vw i, v => ∃ c, ρ[i]? = some (.own c) ∧ (v, .own c) ∈ all
theorem Has.of {all hs : List (V × Sl)} {ρ : Env} {r : R} {v : V} (w : RW ρ hs r v) (h1 : ∀ x ∈ rh v r, x ∈ all) (h2 : ∀ x ∈ hs, x ∈ all) : Has all ρ r v := by
  cases r with
  | val d => exact h1 _ List.mem_cons_self
  | fr c => exact h1 _ List.mem_cons_self
  | vw i => obtain ⟨c, e, m⟩ := w; exact ⟨c, e, h2 _ m⟩
section
variable {G : GX} {F : FX} {L : List (Addr × Obj)} {φ : List Addr} {h : Hh} {H : Hp} {all base : List (V × Sl)} {ρ : Env} {r : R} {v : V}
theorem Has.valD {d : D} (W : Wf G F L φ h H all) (A : Has all ρ (.val d) v) : RelD G φ (MZ F φ all) H d v := W.hold _ _ A
theorem Has.int (W : Wf G F L φ h H all) (A : Has all ρ r v) {i : Int} (e : intOf r = some i) : v = .int i := by
  cases r with
  | val d => cases d <;> cases e; exact A.valD W
  | fr c => cases e
  | vw j => cases e
theorem Has.str (W : Wf G F L φ h H all) (A : Has all ρ r v) {s : Str} (e : strOf r = some s) : v = .str s ∧ PyData.strOk s = true ∧ s.length ≤ 16777216 := by
  cases r with
  | val d => cases d <;> cases e; exact A.valD W
  | fr c => cases e
  | vw j => cases e
theorem Has.rep (W : Wf G F L φ h H all) (A : Has all ρ r v) {s : Str} (e : repOf r = some s) : v = .str s := by
  cases r with
  | val d => cases d <;> cases e; exact A.valD W
  | fr c => cases e
  | vw j => cases e
theorem Has.tup (W : Wf G F L φ h H all) (A : Has all ρ r v) {xs : List D} (e : tupOf r = some xs) : ∃ a vs, v = .ref a ∧ SqT G.K H a vs ∧ vs.length ≤ 16777216 ∧ RelDs G φ (MZ F φ all) H xs vs := by
  cases r with
  | val d =>
    cases d <;> cases e
    obtain ⟨a, vs, e, q, z, t⟩ := A.valD W
    exact ⟨a, vs, e, q.imp (fun x => x.1) id, z, t⟩
  | fr c => cases e
  | vw j => cases e
/-- a container's content -/
theorem Has.cell (W : Wf G F L φ h H all) (A : Has all ρ r v) {xs : List D} (e : lstOf ρ h r = some xs) : ∃ a vs, v = .ref a ∧ SqL G.K H a vs ∧ vs.length ≤ 16777216 ∧ RelDs G φ (MZ F φ all) H xs vs := by
  unfold lstOf at e
  have of_cell : ∀ {c : C} {a : Addr}, RelC G φ (MZ F φ all) H c a → v = .ref a → c = .lst xs → ∃ a vs, v = .ref a ∧ SqL G.K H a vs ∧ vs.length ≤ 16777216 ∧ RelDs G φ (MZ F φ all) H xs vs := by
    rintro c a rc ev rfl
    obtain ⟨vs, e1, z, t⟩ := rc
    exact ⟨a, vs, ev, .of e1, z, t⟩
  have fin : ∀ {c : C}, cvw ρ h r = some c → (match cvw ρ h r with | some (.lst ys) => some ys | _ => none) = some xs → c = .lst xs := by
    intro c e1 e2
    rw [e1] at e2
    cases c <;> cases e2
    rfl
  cases r with
  | val d =>
    cases d with
    | lst ys =>
      cases (fin (c := .lst ys) rfl e)
      obtain ⟨a, vs, e, q, z, t⟩ := A.valD W
      exact ⟨a, vs, e, q.imp (fun x => x.1) id, z, t⟩
    | ref i =>
      obtain ⟨a, e1, e2⟩ := A.valD W
      cases q : h[i]? with
      | none =>
        have z : cvw ρ h (.val (.ref i)) = none := q
        rw [z] at e; cases e
      | some c => exact of_cell (W.cell i a c e1 q) e2 (fin (show cvw ρ h (.val (.ref i)) = some c from q) e)
    | _ => cases e
  | fr c =>
    obtain ⟨a, e1, rc⟩ := W.hold _ _ A
    exact of_cell rc e1 (fin (c := c) rfl e)
  | vw i =>
    obtain ⟨c, e1, m⟩ := A
    obtain ⟨a, e2, rc⟩ := W.hold _ _ m
    have z : cvw ρ h (.vw i) = some c := by
      show (match ρ[i]? with
        | some (.own c) => some c
        | _ => none) = some c
      rw [e1]
    exact of_cell rc e2 (fin z e)
theorem alt_some {α : Type} {a b : Option α} {x : α} (e : alt a b = some x) : a = some x ∨ (a = none ∧ b = some x) := by
  cases a with
  | some y => exact .inl e
  | none => exact .inr ⟨rfl, e⟩
theorem Has.seq (W : Wf G F L φ h H all) (A : Has all ρ r v) {xs : List D} (e : seqOf ρ h r = some xs) : ∃ a vs, v = .ref a ∧ (SqL G.K H a vs ∨ SqT G.K H a vs) ∧ vs.length ≤ 16777216 ∧ RelDs G φ (MZ F φ all) H xs vs := by
  rcases alt_some e with e | ⟨_, e⟩
  · obtain ⟨a, vs, e1, q, z, t⟩ := A.tup W e
    exact ⟨a, vs, e1, .inr q, z, t⟩
  · obtain ⟨a, vs, e1, q, z, t⟩ := A.cell W e
    exact ⟨a, vs, e1, .inl q, z, t⟩
/-- fewer holders: what is told holds as well -/
theorem stay_sub (e : base.Sublist all) : Stay φ φ (MZ F φ all) (MZ F φ base) H H :=
  ⟨List.prefix_refl _, fun a m => .inl (m.imp id (Or.imp id fun z => (owns_sub e).subset z)), fun _ _ h _ => h⟩
theorem fin_val (W : Wf G F L φ h H all) (e : base.Sublist all) {d : D} {u : V} (k : RelD G φ (MZ F φ all) H d u) : Wf G F L φ h H ((u, .val d) :: base) := (W.sub e).push (k.mono (stay_sub e))
/-- a new list -/
theorem fin_lst (W : Wf G F L φ h H all) (e : base.Sublist all) {p : Addr} (n : H p = none) {xs : List D} {vs : List V} (z : vs.length ≤ 16777216) (k : RelDs G φ (MZ F φ all) H xs vs) :
    Wf G F L φ h (upd H p (.lst vs)) ((.ref p, .own (.lst xs)) :: base) :=
  (W.sub e).allocOwn n ⟨vs, upd_same, z, (k.mono (stay_sub e)).mono (stay_own (W.sub e) n)⟩
/-- a new tuple -/
theorem fin_tup (W : Wf G F L φ h H all) (e : base.Sublist all) {p : Addr} (n : H p = none) {xs : List D} {vs : List V} (z : vs.length ≤ 16777216) (k : RelDs G φ (MZ F φ all) H xs vs) :
    Wf G F L φ h (upd H p (.tup vs)) ((.ref p, .val (.tup xs)) :: base) :=
  ((W.sub e).alloc n).push ⟨p, vs, rfl, .inl ⟨.inl upd_same, (W.sub e).notM n⟩, z, (k.mono (stay_sub e)).mono (stay_new (W.sub e) n)⟩
end
end An

namespace An
open PySem L2
section
variable {G : GX} {F : FX} {L : List (Addr × Obj)} {φ φ' : List Addr} {h h' : Hh} {H H' : Hp} {as hs all base : List (V × Sl)}
theorem owns_vals : ∀ {as : List (V × Sl)}, (∀ x ∈ as, ∃ d, x.2 = .val d) → owns as = []
  | [], _ => rfl
  | (v, s) :: as, k => by
    obtain ⟨d, e⟩ := k _ List.mem_cons_self
    cases (show s = .val d from e)
    rw [owns_cons_val]
    exact owns_vals fun x hx => k x (List.mem_cons_of_mem _ hx)
/-- what a callee must leave: what our callers and we own -/
def calZ (F : FX) (hs : List (V × Sl)) : Addr → Prop := fun a => F.Z a ∨ a ∈ owns hs
theorem mz_enter (ka : owns as = []) : MZ ⟨H, φ, calZ F hs⟩ φ as = MZ F φ (as ++ hs) := by
  funext a
  unfold MZ calZ
  rw [owns_append, ka, List.nil_append]
  refine propext ⟨fun z => ?_, fun z => ?_⟩
  · rcases z with z | (z | z) | z
    · exact .inl z
    · exact .inr (.inl z)
    · exact .inr (.inr z)
    · cases z
  · rcases z with z | z | z
    · exact .inl z
    · exact .inr (.inl (.inl z))
    · exact .inr (.inl (.inr z))
/-- a call's entry -/
theorem Wf.enter (W : Wf G F L φ h H (as ++ hs)) (ka : owns as = []) : Wf G ⟨H, φ, calZ F hs⟩ [] φ h H as := by
  have eo : owns (as ++ hs) = owns hs := by rw [owns_append, ka, List.nil_append]
  refine ⟨List.prefix_refl _, W.len, ?_, fun a ha => ?_, fun a z => ?_, fun b o e n => e, fun a ha => .inl ?_, ?_, fun v s hm => ?_⟩
  · rw [ka, List.append_nil]; exact (List.nodup_append.mp W.nd).1
  · rw [ka, List.append_nil] at ha
    rintro (z | z)
    · exact W.zout a (List.mem_append_left _ ha) z
    · exact (List.nodup_append.mp W.nd).2.2 a ha a (by rw [eo]; exact z) rfl
  · rcases z with z | z
    · exact W.there (.inr (.inl z))
    · exact W.there (.inr (.inr (by rw [eo]; exact z)))
  · rw [ka, List.append_nil] at ha; exact ha
  · rw [mz_enter ka]; exact W.cell
  · rw [mz_enter ka]; exact W.hold v s (List.mem_append_left _ hm)
theorem lk_nil {b : Addr} {o : HO} : lk [] b o = o := rfl
/-- a call's end: rs, what it hands back, values only -/
theorem Wf.back {rs : List (V × Sl)} (W : Wf G F L φ h H hs) (B : Wf G ⟨H, φ, calZ F hs⟩ [] φ' h' H' rs) (kr : owns rs = []) : Wf G F L φ' h' H' (rs ++ hs) := by
  have eo : owns (rs ++ hs) = owns hs := by rw [owns_append, kr, List.nil_append]
  have em : MZ ⟨H, φ, calZ F hs⟩ φ' rs = MZ F φ' (rs ++ hs) := by
    funext a
    unfold MZ calZ
    rw [owns_append, kr, List.nil_append]
    refine propext ⟨fun z => ?_, fun z => ?_⟩
    · rcases z with z | (z | z) | z
      · exact .inl z
      · exact .inr (.inl z)
      · exact .inr (.inr z)
      · cases z
    · rcases z with z | z | z
      · exact .inl z
      · exact .inr (.inl (.inl z))
      · exact .inr (.inl (.inr z))
  have nφ : ∀ b o, F.H0 b = some o → b ∉ F.φ0 → b ∉ φ := fun b o e n hm => by
    rcases W.fresh b (List.mem_append_left _ hm) with f | f
    · exact n f
    · rw [f] at e; cases e
  have fresh' : ∀ a ∈ φ', a ∈ F.φ0 ∨ F.H0 a = none := fun a ha => by
    rcases B.fresh a (List.mem_append_left _ ha) with f | f
    · exact W.fresh a (List.mem_append_left _ f)
    · exact .inr (W.f0 f)
  have S : Stay φ φ' (MZ F φ hs) (MZ F φ' (rs ++ hs)) H H' := by
    refine ⟨B.grow, fun a m => ?_, fun b o e n => B.keep b o e fun hm => n (.inl hm)⟩
    rcases m with m | m | m
    · rcases B.fresh a (List.mem_append_left _ m) with f | f
      · exact .inl (.inl f)
      · exact .inr f
    · exact .inl (.inr (.inl m))
    · exact .inl (.inr (.inr (by rw [← eo]; exact m)))
  refine ⟨W.grow.trans B.grow, B.len, ?_, fun a ha => ?_, W.zin, fun b o e n => ?_, fun a ha => ?_, ?_, fun v s hm => ?_⟩
  · rw [eo]
    refine List.nodup_append.mpr ⟨(List.nodup_append.mp B.nd).1, (List.nodup_append.mp W.nd).2.1, fun a ha b hb e => ?_⟩
    subst e
    exact B.zout a (List.mem_append_left _ ha) (.inr hb)
  · rcases List.mem_append.mp ha with ha | ha
    · exact fun z => B.zout a (List.mem_append_left _ ha) (.inl z)
    · rw [eo] at ha; exact W.zout a (List.mem_append_right _ ha)
  · have q := B.keep b _ (W.keep b o e n) (nφ b o e n)
    rw [lk_nil] at q; exact q
  · rcases List.mem_append.mp ha with ha | ha
    · exact fresh' a ha
    · rw [eo] at ha; exact W.fresh a (List.mem_append_right _ ha)
  · rw [← em]; exact B.cell
  · rcases List.mem_append.mp hm with hm | hm
    · rw [← em]; exact B.hold v s hm
    · have r := W.hold v s hm
      cases s with
      | none => exact r
      | val d => exact RelD.mono S r
      | own c =>
        obtain ⟨b, rfl, rc⟩ := r
        have mo : b ∈ owns hs := List.mem_filterMap.mpr ⟨_, hm, rfl⟩
        have nb : b ∉ φ := fun hb => (List.nodup_append.mp W.nd).2.2 b hb b mo rfl
        obtain ⟨o, e1, _⟩ := rc.there
        exact ⟨b, rfl, rc.mono S ((B.keep b o e1 nb).trans e1.symm)⟩
end

/-! ### promises -/
/-- an exception's own dict and class -/
def RelX (G : GX) (φ : List Addr) (M : Addr → Prop) (H : Hp) (x : D) (cls : Value) (d : Option Addr) : Prop :=
  ∃ c ns fs Cx, x = .exc c ns fs ∧ G.ca c = some Cx ∧ cls = .ref Cx ∧ ((ns = [] ∧ fs = []) ∨ ∃ dd fvs, d = some dd ∧ H dd = some (.xd fvs) ∧ fvs.map (·.1) = ns ∧ RelDs G φ M H fs (fvs.map (·.2)))
abbrev vals (vs : List V) (ds : List D) : List (V × Sl) := vs.zip (ds.map Sl.val)
/-- a def hands back what run says -/
def spF (G : GX) (np : Nat) (run : List D → Hh → Res (D × Hh)) : Sp := fun vs H Q E => vs.length = np ∧ ∃ φ h Z ds, vs.length = ds.length ∧ Wf G ⟨H, φ, Z⟩ [] φ h H (vals vs ds) ∧ match run ds h with
  | .ok x => ∀ v H' φ', Wf G ⟨H, φ, Z⟩ [] φ' x.2 H' [(v, .val x.1)] → Q v H'
  | .err x h' => ∀ cls d H' φ', Wf G ⟨H, φ, Z⟩ [] φ' h' H' [] → RelX G φ' (MZ ⟨H, φ, Z⟩ φ' []) H' x cls d → E cls d H'
  | .stuck => False
/-- a def's promise, at calls under which no repr runs -/
structure FnG (P : Program) (w : World) (K : PySem.W.Frag) (mg : Str → Option Value) (base : Heap) (k : Nat) (f : Addr) (fd : FuncData) (ps : List Str) (sp : Sp) : Prop where
  len : ∀ vs H Q E, sp vs H Q E → vs.length = ps.length
  run : ∀ (A : Around) (outer : List PySem.Env) (s : Shared) (H : Hp) (args : Args) (us : List Value) (vs : List V) (Q : VK) (E : XK), Room k A → A.guards = some [] → Env0 P w K mg base A outer s H → BindsTo s fd args (ps.zip us) → Vals vs us → sp vs H Q E →
    codeAny (model P w) A (.call (.ref f) args) (CR (L2.CX P w) outer P w H s Q E) s
theorem FnG.mono {P : Program} {w : World} {K : PySem.W.Frag} {mg : Str → Option Value} {base : Heap} {j k : Nat} {f : Addr} {fd : FuncData} {ps : List Str} {sp : Sp} (F : FnG P w K mg base j f fd ps sp) (l : j ≤ k) : FnG P w K mg base k f fd ps sp :=
  ⟨F.len, fun A outer s H args us vs Q E hr => F.run A outer s H args us vs Q E (hr.mono l)⟩
end An

namespace An
open PySem L2

/-! ### texts that may be shown -/
theorem ok_iff {x : Str} : PyData.strOk x = true ↔ ∀ c ∈ x.cps.toList, c < 0x110000 := by
  unfold PyData.strOk
  rw [Array.all_eq_true']
  exact ⟨fun h c hc => by simpa using h c (by simpa using hc), fun h c hc => by simpa using h c (by simpa using hc)⟩
theorem ok_append {x y : Str} (h : PyData.strOk x = true) (k : PyData.strOk y = true) : PyData.strOk (x ++ y) = true := by
  rw [ok_iff] at h k ⊢
  intro c hc
  have e : (x ++ y).cps.toList = x.cps.toList ++ y.cps.toList := by
    show (x.cps ++ y.cps).toList = _
    simp
  rw [e] at hc
  exact (List.mem_append.mp hc).elim (h c) (k c)
theorem ok_list {x : Str} {l : List Nat} (h : PyData.strOk x = true) (s : ∀ c ∈ l, c ∈ x.cps.toList) : PyData.strOk ⟨l.toArray⟩ = true := by
  rw [ok_iff] at h ⊢
  intro c hc
  exact h c (s c (by simpa using hc))
theorem ok_one {x : Str} {c : Nat} (h : PyData.strOk x = true) (s : c ∈ x.cps.toList) : PyData.strOk ⟨#[c]⟩ = true := ok_list (l := [c]) h fun d hd => by rw [List.mem_singleton.mp hd]; exact s
theorem ok_cut {x : Str} {lo hi : Option Int} (h : PyData.strOk x = true) : PyData.strOk (cutS x lo hi) = true := ok_list h fun c hc => List.mem_of_mem_drop (List.mem_of_mem_take hc)
theorem foldl_app : ∀ (l : List (Array Nat)) (acc : Array Nat), (l.foldl (· ++ ·) acc).toList = acc.toList ++ (l.map Array.toList).flatten
  | [], acc => by simp
  | x :: l, acc => by rw [List.foldl_cons, foldl_app l]; simp
theorem ok_mul {x : Str} {n : Int} (h : PyData.strOk x = true) : PyData.strOk (Txt.mul x n) = true := by
  unfold Txt.mul
  split
  · exact ok_iff.mpr fun c hc => by cases hc
  · split
    · exact h
    · rw [ok_iff] at h ⊢
      intro c hc
      rw [foldl_app] at hc
      simp only [List.map_replicate, Array.toList_empty, List.nil_append, List.mem_flatten, List.mem_replicate] at hc
      obtain ⟨l, ⟨_, rfl⟩, hc⟩ := hc
      exact h c hc
theorem mul_len (x : Str) (n : Int) : (Txt.mul x n).length ≤ x.length * n.toNat := by
  unfold Txt.mul
  split
  · exact Nat.zero_le _
  · rename_i h1
    split
    · rename_i h2
      rcases (Bool.or_eq_true _ _).mp h2 with h | h
      · have e : n = 1 := by simpa using h
        subst e; simp
      · have e : x.length = 0 := by simpa using h
        rw [e]; exact Nat.zero_le _
    · show ((List.replicate n.toNat x.cps).foldl (· ++ ·) #[]).size ≤ _
      rw [← Array.length_toList, foldl_app]
      simp only [List.map_replicate, Array.toList_empty, List.nil_append]
      rw [List.length_flatten]
      simp [Str.length, Nat.mul_comm]
theorem ok_join {a : Str} (h : PyData.strOk a = true) : ∀ {ys : List Str}, (∀ y ∈ ys, PyData.strOk y = true) → PyData.strOk (Str.join a ys) = true
  | [], _ => ok_iff.mpr fun c hc => by cases hc
  | [x], k => k x List.mem_cons_self
  | x :: y :: r, k => by
    show PyData.strOk (x ++ a ++ Str.join a (y :: r)) = true
    exact ok_append (ok_append (k x List.mem_cons_self) h) (ok_join h fun z hz => k z (List.mem_cons_of_mem _ hz))

/-! ### operations, over what the values denote -/
def Fin (G : GX) (F : FX) (L : List (Addr × Obj)) (h : Hh) (ρ : Env) (hs base : List (V × Sl)) (z : R) (Q : VK) : Prop := ∀ v H' φ', Wf G F L φ' h H' (rh v z ++ base) → RW ρ hs z v → Q v H'
def rD2 (G : GX) (op : Env → Hh → R → R → Option R) : R2 := fun x y H Q => ∃ F L φ h ρ hs base all a b z, Wf G F L φ h H all ∧ base.Sublist all ∧ Has all ρ a x ∧ Has all ρ b y ∧ op ρ h a b = some z ∧ Fin G F L h ρ hs base z Q
def rD1 (G : GX) (op : Env → Hh → R → Option R) : V → Hp → VK → Prop := fun x H Q => ∃ F L φ h ρ hs base all a z, Wf G F L φ h H all ∧ base.Sublist all ∧ Has all ρ a x ∧ op ρ h a = some z ∧ Fin G F L h ρ hs base z Q
def rDT (G : GX) (op : Env → Hh → R → Option Bool) : V → Hp → (Bool → Hp → Prop) → Prop := fun x H Q => ∃ F L φ h ρ all a z, Wf G F L φ h H all ∧ Has all ρ a x ∧ op ρ h a = some z ∧ Q z H
section
variable {G : GX} {F : FX} {L : List (Addr × Obj)} {φ : List Addr} {h : Hh} {H : Hp} {all base hs : List (V × Sl)} {ρ : Env} {Q : VK} {X : Cx}
theorem end_val {d : D} {u : V} (W : Wf G F L φ h H all) (sb : base.Sublist all) (k : RelD G φ (MZ F φ all) H d u) (q : Fin G F L h ρ hs base (.val d) Q) : Q u H := q u H φ (fin_val W sb k) True.intro
theorem end_lst {xs : List D} {vs : List V} (W : Wf G F L φ h H all) (sb : base.Sublist all) (z : vs.length ≤ 16777216) (k : RelDs G φ (MZ F φ all) H xs vs) (q : Fin G F L h ρ hs base (.fr (.lst xs)) Q) : ∀ p, H p = none → Q (.ref p) (upd H p (.lst vs)) :=
  fun p n => q (.ref p) _ φ (fin_lst W sb n z k) True.intro
theorem end_tup {xs : List D} {vs : List V} (W : Wf G F L φ h H all) (sb : base.Sublist all) (z : vs.length ≤ 16777216) (k : RelDs G φ (MZ F φ all) H xs vs) (q : Fin G F L h ρ hs base (.val (.tup xs)) Q) : ∀ p, H p = none → Q (.ref p) (upd H p (.tup vs)) :=
  fun p n => q (.ref p) _ φ (fin_tup W sb n z k) True.intro
theorem end_int {i : Int} (W : Wf G F L φ h H all) (sb : base.Sublist all) (q : Fin G F L h ρ hs base (.val (.int i)) Q) : Q (.int i) H := end_val W sb (show RelD G φ (MZ F φ all) H (.int i) (.int i) from rfl) q
theorem end_bl {i : Bool} (W : Wf G F L φ h H all) (sb : base.Sublist all) (q : Fin G F L h ρ hs base (.val (.bl i)) Q) : Q (.bl i) H := end_val W sb (show RelD G φ (MZ F φ all) H (.bl i) (.bl i) from rfl) q
theorem end_str {x : Str} (W : Wf G F L φ h H all) (sb : base.Sublist all) (k : PyData.strOk x = true) (z : x.length ≤ 16777216) (q : Fin G F L h ρ hs base (.val (.str x)) Q) : Q (.str x) H := end_val W sb (show RelD G φ (MZ F φ all) H (.str x) (.str x) from ⟨rfl, k, z⟩) q
theorem bind2 {α β γ : Type} {o : Option α} {p : Option β} {f : α → β → Option γ} {z : γ} (e : (o.bind fun i => p.bind fun j => f i j) = some z) : ∃ i j, o = some i ∧ p = some j ∧ f i j = some z := by
  obtain ⟨i, e1, e⟩ := Option.bind_eq_some_iff.mp e
  obtain ⟨j, e2, e⟩ := Option.bind_eq_some_iff.mp e
  exact ⟨i, j, e1, e2, e⟩
theorem bindm {α β γ : Type} {o : Option α} {p : Option β} {f : α → β → γ} {z : γ} (e : (o.bind fun i => p.map fun j => f i j) = some z) : ∃ i j, o = some i ∧ p = some j ∧ z = f i j := by
  obtain ⟨i, e1, e⟩ := Option.bind_eq_some_iff.mp e
  obtain ⟨j, e2, e⟩ := Option.map_eq_some_iff.mp e
  exact ⟨i, j, e1, e2, e.symm⟩
theorem ite_some' {α : Type} {c : Prop} [Decidable c] {x : Option α} {z : α} (h : (if c then x else none) = some z) : c ∧ x = some z := by
  by_cases hc : c
  · rw [if_pos hc] at h; exact ⟨hc, h⟩
  · rw [if_neg hc] at h; cases h
theorem dec_str {x y : Str} : decide ((V.str x) = V.str y) = decide (x = y) := by
  by_cases h : x = y
  · subst h; simp
  · rw [decide_eq_false h, decide_eq_false fun e => h (V.str.inj e)]
theorem tup_rel {xs : List D} {a : Addr} {vs : List V} {M : Addr → Prop} (n : SqT G.K H a vs) (m : ∀ xs, Rd H a (.tup xs) → ¬ M a) (z : vs.length ≤ 16777216) (t : RelDs G φ M H xs vs) : RelD G φ M H (.tup xs) (.ref a) :=
  ⟨a, vs, rfl, n.imp (fun r => ⟨r, m _ r⟩) id, z, t⟩
/-- a tuple is no mutable thing -/
theorem Has.tup' {r : R} {v : V} (W : Wf G F L φ h H all) (A : Has all ρ r v) {xs : List D} (e : tupOf r = some xs) : RelD G φ (MZ F φ all) H (.tup xs) v := by
  cases r with
  | val d => cases d <;> cases e; exact A.valD W
  | fr c => cases e
  | vw j => cases e
theorem o_add (hK : X.K = G.K) : OpR X (binaryOp .Add) (rD2 G addR) := by
  intro pins s σ H x y v u Q I rx ry ⟨F, L, φ, h, ρ, hs, base, all, a, b, z, W, sb, ha, hb, e, q⟩
  have hz := sizeLine_eq
  rcases alt_some e with e | ⟨_, e⟩
  · obtain ⟨i, j, e1, e2, rfl⟩ := bindm e
    exact op_add pins s σ H x y v u Q I rx ry ⟨i, j, ha.int W e1, hb.int W e2, end_int W sb q⟩
  rcases alt_some e with e | ⟨_, e⟩
  · obtain ⟨i, j, e1, e2, e⟩ := bind2 e
    obtain ⟨c, e⟩ := ite_some' e
    cases e
    obtain ⟨x1, x2, x3⟩ := ha.str W e1
    obtain ⟨y1, y2, y3⟩ := hb.str W e2
    refine op_add_str pins s σ H x y v u Q I rx ry ⟨i, j, x1, y1, by omega, end_str W sb (ok_append x2 y2) ?_ q⟩
    show (i.cps ++ j.cps).size ≤ _
    rw [Array.size_append]
    exact c
  rcases alt_some e with e | ⟨_, e⟩
  · obtain ⟨xs, ys, e1, e2, e⟩ := bind2 e
    obtain ⟨c, e⟩ := ite_some' e
    cases e
    obtain ⟨p, vs, x1, x2, x3, x4⟩ := ha.tup W e1
    obtain ⟨p2, ws, y1, y2, y3, y4⟩ := hb.tup W e2
    have l1 := x4.length
    have l2 := y4.length
    refine op_catA pins s σ H x y v u Q I rx ry ⟨p, p2, vs, ws, x1, y1, by rw [hK]; exact x2, by rw [hK]; exact y2, by omega, fun z1 => ?_, fun _ z2 => ?_, fun _ _ => ?_⟩
    · have e3 : xs = [] := List.length_eq_zero_iff.mp (by rw [← l1, z1]; rfl)
      subst e3
      rw [← y1]
      exact end_val W sb (hb.tup' W e2) q
    · have e3 : ys = [] := List.length_eq_zero_iff.mp (by rw [← l2, z2]; rfl)
      subst e3
      rw [← x1]
      rw [List.append_nil] at q
      exact end_val W sb (ha.tup' W e1) q
    · exact end_tup W sb (by rw [List.length_append]; omega) (x4.append y4) q
  · obtain ⟨xs, ys, e1, e2, e⟩ := bind2 e
    obtain ⟨c, e⟩ := ite_some' e
    cases e
    obtain ⟨p, vs, x1, x2, x3, x4⟩ := ha.cell W e1
    obtain ⟨p2, ws, y1, y2, y3, y4⟩ := hb.cell W e2
    have l1 := x4.length
    have l2 := y4.length
    subst x1 y1
    cases rx
    cases ry
    obtain ⟨its, r, ⟨o, n, t1, t2, t3, t4⟩, _⟩ := I.list (by rw [hK]; exact x2)
    obtain ⟨its2, r2, ⟨o2, n2, t5, t6, t7, t8⟩, _⟩ := I.list (by rw [hK]; exact y2)
    have b1 := r.length
    have b2 := r2.length
    obtain ⟨cls, dd, data, sl⟩ := o
    obtain ⟨cls2, dd2, data2, sl2⟩ := o2
    simp only at t2 t3 t4 t6 t7 t8
    subst t2 t3 t4 t6 t7 t8
    refine PySem.concat_meets ⟨_, t1, rfl⟩ ⟨_, t5, rfl⟩ PySem.noFill_list_add PySem.seq_list_add PySem.F.slot_list_add PySem.F.entry_list_add (PySem.F.args_list_add_2 _ _) (PyProof.Rows.list_addW p p2 its.toArray its2.toArray n n2 _ _ sl sl2 (by rw [List.size_toArray, List.size_toArray]; omega)) ⟨t1, t5, ?_⟩
    have ea : its.toArray ++ its2.toArray = (its ++ its2).toArray := by simp
    rw [ea]
    have hlen : (vs ++ ws).length ≤ sizeLine := by rw [List.length_append]; omega
    exact ⟨.ref _, _, I.lnew (t' := s.toks) (r.append r2) hlen, rfl, end_lst W sb (vs := vs ++ ws) (by rw [List.length_append]; omega) (x4.append y4) q _ I.fresh⟩
theorem o_sub : OpR X (binaryOp .Sub) (rD2 G fun ρ h => binR ρ h .sub) := by
  intro pins s σ H x y v u Q I rx ry ⟨F, L, φ, h, ρ, hs, base, all, a, b, z, W, sb, ha, hb, e, q⟩
  obtain ⟨i, j, e1, e2, rfl⟩ := bindm e
  exact op_sub pins s σ H x y v u Q I rx ry ⟨i, j, ha.int W e1, hb.int W e2, end_int W sb q⟩
theorem o_fdiv : OpR X (binaryOp .FloorDiv) (rD2 G fun ρ h => binR ρ h .fdiv) := by
  intro pins s σ H x y v u Q I rx ry ⟨F, L, φ, h, ρ, hs, base, all, a, b, z, W, sb, ha, hb, e, q⟩
  obtain ⟨i, j, e1, e2, e⟩ := bind2 e
  obtain ⟨c, e⟩ := ite_some' e
  cases e
  exact op_fdiv pins s σ H x y v u Q I rx ry ⟨i, j, ha.int W e1, hb.int W e2, c, end_int W sb q⟩
theorem o_mod : OpR X (binaryOp .Mod) (rD2 G fun ρ h => binR ρ h .mod) := by
  intro pins s σ H x y v u Q I rx ry ⟨F, L, φ, h, ρ, hs, base, all, a, b, z, W, sb, ha, hb, e, q⟩
  obtain ⟨i, j, e1, e2, e⟩ := bind2 e
  obtain ⟨c, e⟩ := ite_some' e
  cases e
  exact op_mod pins s σ H x y v u Q I rx ry ⟨i, j, ha.int W e1, hb.int W e2, c, end_int W sb q⟩
theorem o_pow : OpR X (binaryOp .Pow) (rD2 G fun ρ h => binR ρ h .pow) := by
  intro pins s σ H x y v u Q I rx ry ⟨F, L, φ, h, ρ, hs, base, all, a, b, z, W, sb, ha, hb, e, q⟩
  obtain ⟨i, j, e1, e2, e⟩ := bind2 e
  obtain ⟨c, e⟩ := ite_some' e
  cases e
  exact op_pow pins s σ H x y v u Q I rx ry ⟨i, j, ha.int W e1, hb.int W e2, ⟨c.1, by omega, c.2.2⟩, end_int W sb q⟩
theorem mul_ok {x : Str} {n : Int} (h1 : 0 ≤ n) (h2 : n ≤ 4096) (h3 : x.length ≤ 4096) : MulOk x n := by
  refine ⟨by simp only [Bool.or_eq_false_iff, decide_eq_false_iff_not]; omega, fun a b c => ?_, fun a b => ?_⟩
  · have h4 : (2 ^ 63 - 1 : Int) / 4096 ≤ (2 ^ 63 - 1) / n := by
      rw [Int.le_ediv_iff_mul_le (by omega)]
      calc (2 ^ 63 - 1 : Int) / 4096 * n ≤ (2 ^ 63 - 1 : Int) / 4096 * 4096 := Int.mul_le_mul_of_nonneg_left h2 (by decide)
        _ ≤ 2 ^ 63 - 1 := by decide
    have h5 : (4096 : Int) ≤ (2 ^ 63 - 1 : Int) / 4096 := by decide
    omega
  · have h4 : x.length * n.toNat ≤ 4096 * 4096 := Nat.mul_le_mul h3 (by omega)
    unfold PySem.Builtin.Str.tooLong
    rw [decide_eq_false_iff_not, sizeLine_eq]
    omega
theorem o_mul : OpR X (binaryOp .Mult) (rD2 G fun ρ h => mulR) := by
  intro pins s σ H x y v u Q I rx ry ⟨F, L, φ, h, ρ, hs, base, all, a, b, z, W, sb, ha, hb, e, q⟩
  rcases alt_some e with e | ⟨_, e⟩
  · obtain ⟨i, j, e1, e2, e⟩ := bind2 e
    obtain ⟨c, e⟩ := ite_some' e
    cases e
    exact op_mul pins s σ H x y v u Q I rx ry ⟨i, j, ha.int W e1, hb.int W e2, c, end_int W sb q⟩
  · obtain ⟨i, j, e1, e2, e⟩ := bind2 e
    obtain ⟨c, e⟩ := ite_some' e
    cases e
    obtain ⟨x1, x2, x3⟩ := ha.str W e1
    have y1 := hb.int W e2
    subst x1 y1
    obtain ⟨t, rfl⟩ := rx
    obtain ⟨t', rfl⟩ := ry
    refine PySem.SB.mul (mul_ok c.1 c.2.1 c.2.2) fun t' k => ⟨.str (Txt.mul i j), H, I.tok _, ⟨_, rfl⟩, end_str W sb (ok_mul x2) ?_ q⟩
    have h4 := mul_len i j
    have h5 : i.length * j.toNat ≤ 4096 * 4096 := Nat.mul_le_mul c.2.2 (by omega)
    omega
def bopO : Bop → Operator
  | .add => .Add
  | .sub => .Sub
  | .mul => .Mult
  | .fdiv => .FloorDiv
  | .mod => .Mod
  | .pow => .Pow
theorem o_bin (hK : X.K = G.K) : ∀ o : Bop, OpR X (binaryOp (bopO o)) (rD2 G fun ρ h => binR ρ h o)
  | .add => o_add hK
  | .sub => o_sub
  | .mul => o_mul
  | .fdiv => o_fdiv
  | .mod => o_mod
  | .pow => o_pow
theorem sameB_eq {o : Bop} {op : Operator} (h : sameB o op = true) : op = bopO o := by
  cases o <;> cases op <;> first | rfl | cases h
theorem o_neg : UnR X (unaryOp .USub) (rD1 G fun ρ h a => (intOf a).map fun i => .val (.int (-i))) := by
  intro pins s σ H x v Q I rx ⟨F, L, φ, h, ρ, hs, base, all, a, z, W, sb, ha, e, q⟩
  obtain ⟨i, e1, e⟩ := Option.map_eq_some_iff.mp e
  cases e
  exact un_neg pins s σ H x v Q I rx ⟨i, ha.int W e1, end_int W sb q⟩
end
end An

namespace An
open PySem L2

section
variable {G : GX} {F : FX} {L : List (Addr × Obj)} {φ : List Addr} {h : Hh} {H : Hp} {all base hs : List (V × Sl)} {ρ : Env} {Q : VK} {X : Cx} {M : Addr → Prop}
/-! ### data -/
theorem sqT_of {a : Addr} {vs : List V} (r : (Rd H a (.tup vs) ∧ ¬ M a) ∨ KTup G.K a vs) : SqT G.K H a vs := r.imp (fun x => x.1) id
theorem sqL_of {a : Addr} {vs : List V} (r : (Rd H a (.lst vs) ∧ ¬ M a) ∨ KLst G.K a vs) : SqL G.K H a vs := r.imp (fun x => x.1) id
mutual
theorem pd_rel {cell : Nat → Option PyData} (hc : ∀ i a x, cell i = some x → φ[i]? = some a → Dp G.K H (.ref a) x ∧ x.canLay0 = true) : ∀ {d : D} {v : V} {x : PyData}, pdD h cell d = some x → RelD G φ M H d v → Dp G.K H v x ∧ x.canLay0 = true
  | .non, v, x, e, r => by cases e; cases (show v = .non from r); exact ⟨.non, by simp only [PyData.canLay0]⟩
  | .bl b, v, x, e, r => by cases e; cases (show v = .bl b from r); exact ⟨.bl b, by simp only [PyData.canLay0]⟩
  | .int i, v, x, e, r => by cases e; cases (show v = .int i from r); exact ⟨.int i, by simp only [PyData.canLay0]⟩
  | .str s, v, x, e, r => by
    cases e
    obtain ⟨e1, e2, _⟩ := (show v = .str s ∧ PyData.strOk s = true ∧ s.length ≤ 16777216 from r)
    cases e1
    exact ⟨.str s, by simpa only [PyData.canLay0] using e2⟩
  | .tup xs, v, x, e, r => by
    obtain ⟨ds, e1, e2⟩ := Option.map_eq_some_iff.mp (show (pdDs h cell xs).map .tuple = some x from e)
    obtain ⟨a, vs, ev, q, _, t⟩ := (show ∃ a vs, v = .ref a ∧ ((Rd H a (.tup vs) ∧ ¬ M a) ∨ KTup G.K a vs) ∧ vs.length ≤ 16777216 ∧ RelDs G φ M H xs vs from r)
    subst e2 ev
    obtain ⟨k1, k2⟩ := pds_rel hc e1 t
    exact ⟨.tup (sqT_of q) k1, by simpa only [PyData.canLay0] using k2⟩
  | .lst xs, v, x, e, r => by
    obtain ⟨ds, e1, e2⟩ := Option.map_eq_some_iff.mp (show (pdDs h cell xs).map .list = some x from e)
    obtain ⟨a, vs, ev, q, _, t⟩ := (show ∃ a vs, v = .ref a ∧ ((Rd H a (.lst vs) ∧ ¬ M a) ∨ KLst G.K a vs) ∧ vs.length ≤ 16777216 ∧ RelDs G φ M H xs vs from r)
    subst e2 ev
    obtain ⟨k1, k2⟩ := pds_rel hc e1 t
    exact ⟨.lst (sqL_of q) k1, by simpa only [PyData.canLay0] using k2⟩
  | .ref i, v, x, e, r => by
    obtain ⟨a, e1, e2⟩ := (show ∃ a, φ[i]? = some a ∧ v = .ref a from r)
    subst e2
    exact hc i a x e e1
  | .rep _, _, _, e, _ => by cases e
  | .dct _ _, _, _, e, _ => by cases e
  | .obj _ _ _, _, _, e, _ => by cases e
  | .cls _, _, _, e, _ => by cases e
  | .exc _ _ _, _, _, e, _ => by cases e
  | .clo _ _, _, _, e, _ => by cases e
theorem pds_rel {cell : Nat → Option PyData} (hc : ∀ i a x, cell i = some x → φ[i]? = some a → Dp G.K H (.ref a) x ∧ x.canLay0 = true) : ∀ {ds : List D} {vs : List V} {xs : List PyData}, pdDs h cell ds = some xs → RelDs G φ M H ds vs → DpAll G.K H vs xs ∧ PyData.canLayAll0 xs = true
  | [], vs, xs, e, r => by cases e; cases (show vs = [] from r); exact ⟨.nil, by simp only [PyData.canLayAll0]⟩
  | d :: ds, vs, xs, e, r => by
    obtain ⟨y, e1, e2⟩ := Option.bind_eq_some_iff.mp (show ((pdD h cell d).bind fun x => (pdDs h cell ds).map fun xs => x :: xs) = some xs from e)
    obtain ⟨ys, e3, e4⟩ := Option.map_eq_some_iff.mp e2
    obtain ⟨v, r1, e5, h1, h2⟩ := RelDs.cons_iff.mp r
    subst e4 e5
    obtain ⟨k1, k2⟩ := pd_rel hc e1 h1
    obtain ⟨k3, k4⟩ := pds_rel hc e3 h2
    exact ⟨.cons k1 k3, by simp only [PyData.canLayAll0, Bool.and_eq_true]; exact ⟨k2, k4⟩⟩
end
theorem cell0_rel (W : Wf G F L φ h H all) : ∀ i a x, cell0 h i = some x → φ[i]? = some a → Dp G.K H (.ref a) x ∧ x.canLay0 = true := by
  intro i a x e ea
  unfold cell0 at e
  cases q : h[i]? with
  | none => rw [q] at e; cases e
  | some c =>
    rw [q] at e
    have rc := W.cell i a c ea q
    cases c with
    | lst xs =>
      obtain ⟨ds, e1, e2⟩ := Option.map_eq_some_iff.mp (show (pdDs h (fun _ => none) xs).map .list = some x from e)
      obtain ⟨vs, e3, _, t⟩ := rc
      subst e2
      obtain ⟨k1, k2⟩ := pds_rel (fun i a x e => by cases e) e1 t
      exact ⟨.lst (.inl (.of e3)) k1, by simpa only [PyData.canLay0] using k2⟩
    | dct ks vs => cases e
    | ins c ns fs => cases e
theorem Has.data {r : R} {v : V} (W : Wf G F L φ h H all) (A : Has all ρ r v) {x : PyData} (e : pdR ρ h r = some x) : Dp G.K H v x ∧ x.canLay0 = true := by
  have cl : ∀ {xs : List D} {a : Addr}, RelC G φ (MZ F φ all) H (.lst xs) a → (pdDs h (cell0 h) xs).map .list = some x → Dp G.K H (.ref a) x ∧ x.canLay0 = true := by
    intro xs a rc e
    obtain ⟨ds, e1, e2⟩ := Option.map_eq_some_iff.mp e
    obtain ⟨vs, e3, _, t⟩ := rc
    subst e2
    obtain ⟨k1, k2⟩ := pds_rel (cell0_rel W) e1 t
    exact ⟨.lst (.inl (.of e3)) k1, by simpa only [PyData.canLay0] using k2⟩
  cases r with
  | val d => exact pd_rel (cell0_rel W) e (A.valD W)
  | fr c =>
    obtain ⟨a, ev, rc⟩ := W.hold _ _ A
    subst ev
    cases c with
    | lst xs => exact cl rc e
    | dct ks vs => cases e
    | ins c ns fs => cases e
  | vw i =>
    obtain ⟨c, e1, m⟩ := A
    obtain ⟨a, ev, rc⟩ := W.hold _ _ m
    subst ev
    have e' : (match ρ[i]? with
      | some (.own (.lst xs)) => (pdDs h (cell0 h) xs).map .list
      | _ => none) = some x := e
    rw [e1] at e'
    cases c with
    | lst xs => exact cl rc e'
    | dct ks vs => cases e'
    | ins c ns fs => cases e'

/-! ### comparisons -/
theorem o_eq (hK : X.K = G.K) (hu : X.A.units + 64 < cLine) : OpR X (compareOp .Eq) (rD2 G fun ρ h a b => (eqR ρ h a b).map fun z => .val (.bl z)) := by
  intro pins s σ H x y v u Q I rx ry ⟨F, L, φ, h, ρ, hs, base, all, a, b, z, W, sb, ha, hb, e, q⟩
  unfold eqR at e
  dsimp only at e
  replace e := Option.map_eq_some_iff.mp e
  obtain ⟨k, e, rfl⟩ := e
  rcases alt_some e with e | ⟨_, e⟩
  · obtain ⟨i, j, e1, e2, rfl⟩ := bindm e
    have x1 := (ha.str W e1).1
    have y1 := (hb.str W e2).1
    subst x1 y1
    refine op_eq pins s σ H _ _ v u Q I rx ry ⟨rfl, ?_⟩
    rw [dec_str]
    exact end_bl W sb q
  rcases alt_some e with e | ⟨_, e⟩
  · obtain ⟨i, j, e1, e2, rfl⟩ := bindm e
    have x1 := ha.rep W e1
    have y1 := hb.rep W e2
    subst x1 y1
    refine op_eq pins s σ H _ _ v u Q I rx ry ⟨rfl, ?_⟩
    rw [dec_str]
    exact end_bl W sb q
  · obtain ⟨d, e', e1, e2, e⟩ := bind2 e
    obtain ⟨c, e⟩ := ite_some' e
    cases e
    obtain ⟨x1, x2⟩ := ha.data W e1
    obtain ⟨y1, y2⟩ := hb.data W e2
    refine op_eqD hu pins s σ H _ _ v u Q I rx ry ⟨d, e', by rw [hK]; exact x1, by rw [hK]; exact y1, ?_, ?_, end_bl W sb q⟩
    · show (d.canLay0 && decide (d.depth ≤ 64)) = true
      rw [x2, decide_eq_true c.1]; rfl
    · show (e'.canLay0 && decide (e'.depth ≤ 64)) = true
      rw [y2, decide_eq_true c.2]; rfl
theorem o_ne (hK : X.K = G.K) (hu : X.A.units + 64 < cLine) : OpR X (compareOp .NotEq) (rD2 G fun ρ h a b => ((eqR ρ h a b).map (!·)).map fun z => .val (.bl z)) := by
  intro pins s σ H x y v u Q I rx ry ⟨F, L, φ, h, ρ, hs, base, all, a, b, z, W, sb, ha, hb, e, q⟩
  unfold eqR at e
  dsimp only at e
  replace e := Option.map_eq_some_iff.mp e
  obtain ⟨k', e, rfl⟩ := e
  replace e := Option.map_eq_some_iff.mp e
  obtain ⟨k, e, rfl⟩ := e
  rcases alt_some e with e | ⟨_, e⟩
  · obtain ⟨i, j, e1, e2, rfl⟩ := bindm e
    have x1 := (ha.str W e1).1
    have y1 := (hb.str W e2).1
    subst x1 y1
    refine op_ne pins s σ H _ _ v u Q I rx ry ⟨rfl, ?_⟩
    rw [dec_str]
    exact end_bl W sb q
  rcases alt_some e with e | ⟨_, e⟩
  · obtain ⟨i, j, e1, e2, rfl⟩ := bindm e
    have x1 := ha.rep W e1
    have y1 := hb.rep W e2
    subst x1 y1
    refine op_ne pins s σ H _ _ v u Q I rx ry ⟨rfl, ?_⟩
    rw [dec_str]
    exact end_bl W sb q
  · obtain ⟨d, e', e1, e2, e⟩ := bind2 e
    obtain ⟨c, e⟩ := ite_some' e
    cases e
    obtain ⟨x1, x2⟩ := ha.data W e1
    obtain ⟨y1, y2⟩ := hb.data W e2
    refine op_neD hu pins s σ H _ _ v u Q I rx ry ⟨d, e', by rw [hK]; exact x1, by rw [hK]; exact y1, ?_, ?_, end_bl W sb q⟩
    · show (d.canLay0 && decide (d.depth ≤ 64)) = true
      rw [x2, decide_eq_true c.1]; rfl
    · show (e'.canLay0 && decide (e'.depth ≤ 64)) = true
      rw [y2, decide_eq_true c.2]; rfl
def toV : D → V
  | .non => .non
  | .bl b => .bl b
  | .int i => .int i
  | .str s => .str s
  | _ => .non
theorem flat_rel {d : D} {v : V} (f : flatD d = true) (r : RelD G φ M H d v) : v = toV d := by
  cases d <;> first
    | exact r
    | exact r.1
    | exact absurd f Bool.false_ne_true
theorem flats_rel : ∀ {ds : List D} {vs : List V}, ds.all flatD = true → RelDs G φ M H ds vs → vs = ds.map toV
  | [], _, _, r => r
  | d :: ds, _, f, r => by
    obtain ⟨v, t, e, h1, h2⟩ := RelDs.cons_iff.mp r
    rw [List.all_cons, Bool.and_eq_true] at f
    rw [e, flat_rel f.1 h1, flats_rel f.2 h2]
    rfl
theorem flat_toV {d : D} (f : flatD d = true) : flatV (toV d) = true := by
  cases d <;> first
    | rfl
    | exact absurd f Bool.false_ne_true
theorem eq_toV {d e : D} (f : flatD d = true) (g : flatD e = true) : eqV (toV d) (toV e) = eqS d e := by
  cases d <;> first
    | exact absurd f Bool.false_ne_true
    | (cases e <;> first | rfl | exact absurd g Bool.false_ne_true)
theorem scal_flat {r : R} {d : D} (e : scalD r = some d) : r = .val d ∧ flatD d = true := by
  cases r with
  | val d' => cases d' <;> cases e <;> exact ⟨rfl, rfl⟩
  | fr c => cases e
  | vw i => cases e
theorem in_toV {x : D} (g : flatD x = true) : ∀ {ys : List D}, ys.all flatD = true → inV (toV x) (ys.map toV) = ys.any fun y => eqS y x
  | [], _ => rfl
  | y :: ys, f => by
    rw [List.all_cons, Bool.and_eq_true] at f
    have e := in_toV g f.2
    unfold inV at e ⊢
    rw [List.map_cons, List.any_cons, List.any_cons, eq_toV f.1 g, e]
theorem all_flat : ∀ {ys : List D}, ys.all flatD = true → (ys.map toV).all flatV = true
  | [], _ => rfl
  | y :: ys, f => by
    rw [List.all_cons, Bool.and_eq_true] at f
    rw [List.map_cons, List.all_cons, flat_toV f.1, all_flat f.2]; rfl
theorem o_in (hK : X.K = G.K) : OpR X (compareOp .In) (rD2 G fun ρ h a b => (inR ρ h a b).map fun z => .val (.bl z)) := by
  intro pins s σ H x y v u Q I rx ry ⟨F, L, φ, h, ρ, hs, base, all, a, b, z, W, sb, ha, hb, e, q⟩
  unfold inR at e
  dsimp only at e
  replace e := Option.map_eq_some_iff.mp e
  obtain ⟨k, e, rfl⟩ := e
  rcases alt_some e with e | ⟨_, e⟩
  · obtain ⟨i, j, e1, e2, rfl⟩ := bindm e
    exact op_in_str pins s σ H _ _ v u Q I rx ry ⟨i, j, (ha.str W e1).1, (hb.str W e2).1, end_bl W sb q⟩
  · obtain ⟨d, ys, e1, e2, e⟩ := bind2 e
    obtain ⟨c, e⟩ := ite_some' e
    cases e
    obtain ⟨er, fd⟩ := scal_flat e1
    subst er
    obtain ⟨p, vs, y1, y2, y3, y4⟩ := hb.seq W e2
    have x1 := flat_rel fd (ha.valD W)
    have y5 := flats_rel c y4
    subst x1 y5
    refine op_in_seq pins s σ H _ _ v u Q I rx ry ⟨p, _, y1, by rw [hK]; exact y2, flat_toV fd, all_flat c, ?_⟩
    show Q (.bl (inV (toV d) (ys.map toV))) H
    rw [in_toV fd c]
    exact end_bl W sb q
theorem o_nin (hK : X.K = G.K) : OpR X (compareOp .NotIn) (rD2 G fun ρ h a b => ((inR ρ h a b).map (!·)).map fun z => .val (.bl z)) := by
  intro pins s σ H x y v u Q I rx ry ⟨F, L, φ, h, ρ, hs, base, all, a, b, z, W, sb, ha, hb, e, q⟩
  unfold inR at e
  dsimp only at e
  replace e := Option.map_eq_some_iff.mp e
  obtain ⟨k', e, rfl⟩ := e
  replace e := Option.map_eq_some_iff.mp e
  obtain ⟨k, e, rfl⟩ := e
  rcases alt_some e with e | ⟨_, e⟩
  · obtain ⟨i, j, e1, e2, rfl⟩ := bindm e
    exact op_notin_str pins s σ H _ _ v u Q I rx ry ⟨i, j, (ha.str W e1).1, (hb.str W e2).1, end_bl W sb q⟩
  · obtain ⟨d, ys, e1, e2, e⟩ := bind2 e
    obtain ⟨c, e⟩ := ite_some' e
    cases e
    obtain ⟨er, fd⟩ := scal_flat e1
    subst er
    obtain ⟨p, vs, y1, y2, y3, y4⟩ := hb.seq W e2
    have x1 := flat_rel fd (ha.valD W)
    have y5 := flats_rel c y4
    subst x1 y5
    refine op_notIn_seq pins s σ H _ _ v u Q I rx ry ⟨p, _, y1, by rw [hK]; exact y2, flat_toV fd, all_flat c, ?_⟩
    show Q (.bl (!inV (toV d) (ys.map toV))) H
    rw [in_toV fd c]
    exact end_bl W sb q
theorem Has.non {r : R} {v : V} (W : Wf G F L φ h H all) (A : Has all ρ r v) : isNon r = decide (v = .non) := by
  have rf : ∀ {a : Addr}, false = decide (V.ref a = V.non) := fun {a} => (decide_eq_false fun e => by cases e).symm
  cases r with
  | val d =>
    have t := A.valD W
    cases d with
    | non => rw [show v = .non from t]; rfl
    | bl b => rw [show v = .bl b from t]; rfl
    | int b => rw [show v = .int b from t]; rfl
    | str b => rw [show v = .str b from t.1]; rfl
    | rep b => rw [show v = .str b from t]; rfl
    | tup xs => obtain ⟨a, _, e, _⟩ := t; rw [e]; exact rf
    | lst xs => obtain ⟨a, _, e, _⟩ := t; rw [e]; exact rf
    | dct ks xs => obtain ⟨a, _, e, _⟩ := t; rw [e]; exact rf
    | ref i => obtain ⟨a, _, e⟩ := t; rw [e]; exact rf
    | obj c ns fs => obtain ⟨a, _, _, _, e, _⟩ := t; rw [e]; exact rf
    | cls c => obtain ⟨a, _, e⟩ := t; rw [e]; exact rf
    | exc c ns fs => exact False.elim t
    | clo l en => exact False.elim t
  | fr c => obtain ⟨a, e, _⟩ := W.hold _ _ A; rw [e]; exact rf
  | vw i =>
    obtain ⟨c, _, m⟩ := A
    obtain ⟨a, e, _⟩ := W.hold _ _ m
    rw [e]; exact rf
theorem o_isN : OpR X (compareOp .Is) (rD2 G fun ρ h a b => (if isNon b then some (isNon a) else none).map fun z => .val (.bl z)) := by
  intro pins s σ H x y v u Q I rx ry ⟨F, L, φ, h, ρ, hs, base, all, a, b, z, W, sb, ha, hb, e, q⟩
  dsimp only at e
  replace e := Option.map_eq_some_iff.mp e
  obtain ⟨k, e, rfl⟩ := e
  obtain ⟨c, e⟩ := ite_some' e
  cases e
  refine op_isN pins s σ H _ _ v u Q I rx ry ⟨?_, ?_⟩
  · have t := hb.non W
    rw [c] at t
    exact of_decide_eq_true t.symm
  · rw [← ha.non W]; exact end_bl W sb q
theorem o_notN : OpR X (compareOp .IsNot) (rD2 G fun ρ h a b => (if isNon b then some (!isNon a) else none).map fun z => .val (.bl z)) := by
  intro pins s σ H x y v u Q I rx ry ⟨F, L, φ, h, ρ, hs, base, all, a, b, z, W, sb, ha, hb, e, q⟩
  dsimp only at e
  replace e := Option.map_eq_some_iff.mp e
  obtain ⟨k, e, rfl⟩ := e
  obtain ⟨c, e⟩ := ite_some' e
  cases e
  refine op_notN pins s σ H _ _ v u Q I rx ry ⟨?_, ?_⟩
  · have t := hb.non W
    rw [c] at t
    exact of_decide_eq_true t.symm
  · rw [← ha.non W]; exact end_bl W sb q
theorem o_ord {op : CmpOp} {p : Int → Int → Bool} {t : Str → Str → Bool} (h1 : OpR X (compareOp op) (rI0 fun i j => .bl (p i j))) (h2 : OpR X (compareOp op) (fun x y H Q => ∃ i j, x = .str i ∧ y = .str j ∧ Q (.bl (t i j)) H)) :
    OpR X (compareOp op) (rD2 G fun ρ h a b => (cmpI p t a b).map fun z => .val (.bl z)) := by
  intro pins s σ H x y v u Q I rx ry ⟨F, L, φ, h, ρ, hs, base, all, a, b, z, W, sb, ha, hb, e, q⟩
  unfold cmpI at e
  dsimp only at e
  replace e := Option.map_eq_some_iff.mp e
  obtain ⟨k, e, rfl⟩ := e
  rcases alt_some e with e | ⟨_, e⟩
  · obtain ⟨i, j, e1, e2, rfl⟩ := bindm e
    exact h1 pins s σ H _ _ v u Q I rx ry ⟨i, j, ha.int W e1, hb.int W e2, end_bl W sb q⟩
  · obtain ⟨i, j, e1, e2, rfl⟩ := bindm e
    exact h2 pins s σ H _ _ v u Q I rx ry ⟨i, j, (ha.str W e1).1, (hb.str W e2).1, end_bl W sb q⟩
def copO : Cop → CmpOp
  | .eq => .Eq
  | .ne => .NotEq
  | .lt => .Lt
  | .le => .LtE
  | .gt => .Gt
  | .ge => .GtE
  | .isN => .Is
  | .notN => .IsNot
  | .inn => .In
  | .nin => .NotIn
theorem sameO_eq {o : Cop} {op : CmpOp} (h : sameO o op = true) : op = copO o := by
  cases o <;> cases op <;> first | rfl | cases h
theorem o_cmp (hK : X.K = G.K) (hu : X.A.units + 64 < cLine) : ∀ o : Cop, OpR X (compareOp (copO o)) (rD2 G fun ρ h a b => (cmpR ρ h o a b).map fun z => .val (.bl z))
  | .eq => o_eq hK hu
  | .ne => o_ne hK hu
  | .lt => o_ord (t := ltS) op_lt op_lt_str
  | .le => o_ord (t := fun x y => !ltS y x) op_le op_le_str
  | .gt => o_ord (t := fun x y => ltS y x) op_gt op_gt_str
  | .ge => o_ord (t := fun x y => !ltS x y) op_ge op_ge_str
  | .isN => o_isN
  | .notN => o_notN
  | .inn => o_in hK
  | .nin => o_nin hK
end
end An

namespace An
open PySem L2

section
variable {G : GX} {F : FX} {L : List (Addr × Obj)} {φ : List Addr} {h : Hh} {H : Hp} {all base hs : List (V × Sl)} {ρ : Env} {Q : VK} {X : Cx} {M : Addr → Prop}
theorem empty_len {α β : Type} {xs : List α} {ys : List β} (e : ys.length = xs.length) : xs.isEmpty = ys.isEmpty := by
  cases xs <;> cases ys <;> first | rfl | cases e
/-- a value's truth -/
theorem Has.tru {r : R} {v : V} (W : Wf G F L φ h H all) (A : Has all ρ r v) {k : Bool} (e : truR ρ h r = some k) : TruV G.K v H k := by
  have hz := sizeLine_eq
  have cl : ∀ {r : R}, Has all ρ r v → (lstOf ρ h r).map (fun xs => !xs.isEmpty) = some k → TruV G.K v H k := by
    intro r A e
    obtain ⟨xs, e1, rfl⟩ := Option.map_eq_some_iff.mp e
    obtain ⟨a, vs, ev, q, _, t⟩ := A.cell W e1
    subst ev
    exact .inl ⟨vs, q, by rw [empty_len t.length]⟩
  cases r with
  | val d =>
    have t := A.valD W
    cases d with
    | non => cases e; cases (show v = .non from t); rfl
    | bl b => cases e; cases (show v = .bl k from t); rfl
    | int i => cases e; cases (show v = .int i from t); rfl
    | str s => cases e; obtain ⟨e1, _, e2⟩ := t; subst e1; exact ⟨by rw [hz]; exact e2, rfl⟩
    | tup xs =>
      cases e
      obtain ⟨a, vs, ev, q, _, t2⟩ := A.tup W rfl
      subst ev
      exact .inr (.inl ⟨vs, q, by rw [empty_len t2.length]⟩)
    | rep s => cases e
    | lst xs => exact cl A e
    | dct ks xs => cases e
    | ref i => exact cl A e
    | obj c ns fs => cases e
    | cls c => cases e
    | exc c ns fs => cases e
    | clo l en => cases e
  | fr c => exact cl A e
  | vw i => exact cl A e
theorem atI_rel {ds : List D} {vs : List V} {i : Int} {d : D} (t : RelDs G φ M H ds vs) (e : atI ds i = some d) : ∃ v, atI vs i = some v ∧ RelD G φ M H d v := by
  unfold atI at e ⊢
  rw [t.length]
  obtain ⟨j, e1, e2⟩ := Option.bind_eq_some_iff.mp e
  obtain ⟨v, e3, r⟩ := t.get e2
  exact ⟨v, by rw [e1]; exact e3, r⟩
theorem atI_mem {α : Type} {xs : List α} {i : Int} {x : α} (e : atI xs i = some x) : x ∈ xs := by
  obtain ⟨j, e1, e2⟩ := Option.bind_eq_some_iff.mp e
  exact List.mem_of_getElem? e2
theorem o_ix (hK : X.K = G.K) : IxR X (rD2 G ixR) := by
  intro value slice pins s σ H x y v u Q I rx ry ⟨F, L, φ, h, ρ, hs, base, all, a, b, z, W, sb, ha, hb, e, q⟩ hsl
  have hz := sizeLine_eq
  unfold ixR at e
  obtain ⟨k, e1, e⟩ := Option.bind_eq_some_iff.mp e
  have y1 := hb.int W e1
  rcases alt_some e with e | ⟨_, e⟩
  · obtain ⟨t, e2, e⟩ := Option.bind_eq_some_iff.mp e
    obtain ⟨c, e3, e⟩ := Option.map_eq_some_iff.mp e
    subst e
    obtain ⟨x1, x2, x3⟩ := ha.str W e2
    exact ix_str value slice pins s σ H x y v u Q I rx ry ⟨t, k, c, x1, y1, by omega, e3, end_str W sb (ok_one x2 (atI_mem e3)) (by show 1 ≤ 16777216; decide) q⟩ hsl
  · obtain ⟨xs, e2, e⟩ := Option.bind_eq_some_iff.mp e
    obtain ⟨d, e3, e⟩ := Option.map_eq_some_iff.mp e
    subst e
    obtain ⟨p, vs, x1, x2, x3, x4⟩ := ha.seq W e2
    obtain ⟨w, e4, r⟩ := atI_rel x4 e3
    rcases x2 with x2 | x2
    · exact ix_list value slice pins s σ H x y v u Q I rx ry ⟨p, vs, k, w, x1, y1, by rw [hK]; exact x2, e4, end_val W sb r q⟩ hsl
    · exact ix_tup value slice pins s σ H x y v u Q I rx ry ⟨p, vs, k, w, x1, y1, by rw [hK]; exact x2, e4, end_val W sb r q⟩ hsl
def rD3 (G : GX) : V → Option Int → Option Int → Hp → VK → Prop := fun x lo hi H Q => ∃ F L φ h ρ hs base all a z, Wf G F L φ h H all ∧ base.Sublist all ∧ Has all ρ a x ∧ slR ρ h a lo hi = some z ∧ Fin G F L h ρ hs base z Q
theorem cut_rel {ds : List D} {vs : List V} {lo hi : Option Int} (t : RelDs G φ M H ds vs) : RelDs G φ M H (cutD ds lo hi) (cutV vs lo hi) := by
  unfold cutD cutV
  rw [t.length]
  exact (t.drop _).take _
theorem cut_whole {ds : List D} {lo hi : Option Int} (c : HT.sIx ds.length 0 lo = 0 ∧ HT.sIx ds.length ds.length hi = ds.length) : cutD ds lo hi = ds := by
  unfold cutD
  rw [c.1, c.2]
  simp
theorem o_sl (hK : X.K = G.K) : SlR X (rD3 G) := by
  intro pins s σ H x v vl vu lo hi sl Q I rx hsl pl pu ⟨F, L, φ, h, ρ, hs, base, all, a, z, W, sb, ha, e, q⟩
  have hz := sizeLine_eq
  unfold slR at e
  rcases alt_some e with e | ⟨_, e⟩
  · obtain ⟨t, e2, e⟩ := Option.map_eq_some_iff.mp e
    subst e
    obtain ⟨x1, x2, x3⟩ := ha.str W e2
    exact sl_str pins s σ H x v vl vu lo hi sl Q I rx hsl pl pu ⟨t, x1, by omega, end_str W sb (ok_cut x2) (Nat.le_trans (cutS_length t lo hi) x3) q⟩
  rcases alt_some e with e | ⟨_, e⟩
  · obtain ⟨xs, e2, e⟩ := Option.map_eq_some_iff.mp e
    subst e
    obtain ⟨p, vs, x1, x2, x3, x4⟩ := ha.tup W e2
    refine sl_tupA pins s σ H x v vl vu lo hi sl Q I rx hsl pl pu ⟨p, vs, x1, by rw [hK]; exact x2, fun c => ?_, fun c => ?_⟩
    · rw [x4.length] at c
      rw [cut_whole c] at q
      rw [← x1]
      exact end_val W sb (ha.tup' W e2) q
    · exact end_tup W sb (Nat.le_trans (cutV_length vs lo hi) x3) (cut_rel x4) q
  · obtain ⟨xs, e2, e⟩ := Option.map_eq_some_iff.mp e
    subst e
    obtain ⟨p, vs, x1, x2, x3, x4⟩ := ha.cell W e2
    exact sl_list pins s σ H x v vl vu lo hi sl Q I rx hsl pl pu ⟨p, vs, x1, by rw [hK]; exact x2, end_lst W sb (Nat.le_trans (cutV_length vs lo hi) x3) (cut_rel x4) q⟩

/-! ### builtins -/
def rDL (G : GX) (op : Env → Hh → R → Option R) : List V → Hp → VK → Prop := fun xs H Q => ∃ x, xs = [x] ∧ rD1 G op x H Q
theorem o_len (hK : X.K = G.K) : CallR X (.builtin "len") (rDL G fun ρ h => biR ρ h .len) := by
  intro pins s σ H xs us Q I rx ⟨x, ex, F, L, φ, h, ρ, hs, base, all, a, z, W, sb, ha, e, q⟩
  have hz := sizeLine_eq
  subst ex
  replace e := Option.map_eq_some_iff.mp (show (lenR ρ h a).map (fun n => .val (.int n)) = some z from e)
  obtain ⟨n, e, rfl⟩ := e
  unfold lenR at e
  rcases alt_some e with e | ⟨_, e⟩
  · obtain ⟨t, e2, rfl⟩ := Option.map_eq_some_iff.mp e
    obtain ⟨x1, x2, x3⟩ := ha.str W e2
    exact call_len_str pins s σ H _ us Q I rx ⟨t, by rw [x1], by omega, end_int W sb q⟩
  · obtain ⟨ys, e2, rfl⟩ := Option.map_eq_some_iff.mp e
    obtain ⟨p, vs, x1, x2, x3, x4⟩ := ha.seq W e2
    refine call_len_seq pins s σ H _ us Q I rx ⟨p, vs, by rw [x1], by rw [hK]; exact x2, ?_⟩
    rw [x4.length]
    exact end_int W sb q
theorem o_list (hK : X.K = G.K) : CallR X (.type "list") (rDL G fun ρ h => biR ρ h .list) := by
  intro pins s σ H xs us Q I rx ⟨x, ex, F, L, φ, h, ρ, hs, base, all, a, z, W, sb, ha, e, q⟩
  subst ex
  replace e := Option.map_eq_some_iff.mp (show (seqOf ρ h a).map (fun xs => .fr (.lst xs)) = some z from e)
  obtain ⟨n, e, rfl⟩ := e
  obtain ⟨p, vs, x1, x2, x3, x4⟩ := ha.seq W e
  exact call_list_of pins s σ H _ us Q I rx ⟨p, vs, by rw [x1], by rw [hK]; exact x2, end_lst W sb x3 x4 q⟩
theorem o_tuple (hK : X.K = G.K) : CallR X (.type "tuple") (rDL G fun ρ h => biR ρ h .tuple) := by
  intro pins s σ H xs us Q I rx ⟨x, ex, F, L, φ, h, ρ, hs, base, all, a, z, W, sb, ha, e, q⟩
  subst ex
  replace e := Option.map_eq_some_iff.mp (show (seqOf ρ h a).map (fun xs => .val (.tup xs)) = some z from e)
  obtain ⟨n, e, rfl⟩ := e
  rcases alt_some e with e | ⟨_, e⟩
  · obtain ⟨p, vs, x1, x2, x3, x4⟩ := ha.tup W e
    refine call_tuple_of pins s σ H _ us Q I rx ⟨p, vs, by rw [x1], .inr ⟨by rw [hK]; exact x2, ?_⟩⟩
    rw [← x1]
    exact end_val W sb (ha.tup' W e) q
  · obtain ⟨p, vs, x1, x2, x3, x4⟩ := ha.cell W e
    exact call_tuple_of pins s σ H _ us Q I rx ⟨p, vs, by rw [x1], .inl ⟨by rw [hK]; exact x2, end_tup W sb x3 x4 q⟩⟩
theorem o_int : CallR X (.type "int") (rDL G fun ρ h => biR ρ h .int) := by
  intro pins s σ H xs us Q I rx ⟨x, ex, F, L, φ, h, ρ, hs, base, all, a, z, W, sb, ha, e, q⟩
  subst ex
  cases a with
  | val d =>
    have t := ha.valD W
    cases d with
    | int i => cases e; cases (show x = .int i from t); exact call_int1 pins s σ H _ us Q I rx (.inl ⟨i, rfl, end_int W sb q⟩)
    | bl b => cases e; cases (show x = .bl b from t); exact call_int1 pins s σ H _ us Q I rx (.inr ⟨b, rfl, end_int W sb q⟩)
    | _ => cases e
  | fr c => cases e
  | vw i => cases e
theorem bls_rel : ∀ {ds : List D} {vs : List V} {bs : List Bool}, blsOf ds = some bs → RelDs G φ M H ds vs → vs = bs.map V.bl
  | [], _, bs, e, r => by cases e; exact r
  | d :: ds, _, bs, e, r => by
    obtain ⟨v, t, ev, h1, h2⟩ := RelDs.cons_iff.mp r
    cases d with
    | bl b =>
      obtain ⟨cs, e1, rfl⟩ := Option.map_eq_some_iff.mp (show (blsOf ds).map (fun bs => b :: bs) = some bs from e)
      rw [ev, show v = .bl b from h1, bls_rel e1 h2]
      rfl
    | _ => cases e
theorem strs_rel : ∀ {ds : List D} {vs : List V} {bs : List Str}, strsOf ds = some bs → RelDs G φ M H ds vs → vs = bs.map V.str ∧ ∀ b ∈ bs, PyData.strOk b = true
  | [], _, bs, e, r => by cases e; exact ⟨r, fun _ z => by cases z⟩
  | d :: ds, _, bs, e, r => by
    obtain ⟨v, t, ev, h1, h2⟩ := RelDs.cons_iff.mp r
    cases d with
    | str b =>
      obtain ⟨cs, e1, rfl⟩ := Option.map_eq_some_iff.mp (show (strsOf ds).map (fun bs => b :: bs) = some bs from e)
      obtain ⟨k1, k2⟩ := strs_rel e1 h2
      obtain ⟨j1, j2, _⟩ := (show v = .str b ∧ PyData.strOk b = true ∧ b.length ≤ 16777216 from h1)
      rw [ev, j1, k1]
      exact ⟨rfl, fun c hc => (List.mem_cons.mp hc).elim (fun z => by rw [z]; exact j2) (k2 c)⟩
    | _ => cases e
theorem o_all (hK : X.K = G.K) (hc : X.calm = true) : CallR X (.builtin "all") (rDL G fun ρ h => biR ρ h .all) := by
  intro pins s σ H xs us Q I rx ⟨x, ex, F, L, φ, h, ρ, hs, base, all, a, z, W, sb, ha, e, q⟩
  subst ex
  obtain ⟨ys, e1, e⟩ := Option.bind_eq_some_iff.mp (show ((lstOf ρ h a).bind fun xs => (blsOf xs).map fun bs => .val (.bl (bs.all id))) = some z from e)
  obtain ⟨bs, e2, rfl⟩ := Option.map_eq_some_iff.mp e
  obtain ⟨p, vs, x1, x2, x3, x4⟩ := ha.cell W e1
  have x5 := bls_rel e2 x4
  subst x5
  exact cr_all hc pins s σ H _ us Q I rx ⟨p, bs, by rw [x1], by rw [hK]; exact x2, end_bl W sb q⟩
theorem o_any (hK : X.K = G.K) (hc : X.calm = true) : CallR X (.builtin "any") (rDL G fun ρ h => biR ρ h .any) := by
  intro pins s σ H xs us Q I rx ⟨x, ex, F, L, φ, h, ρ, hs, base, all, a, z, W, sb, ha, e, q⟩
  subst ex
  obtain ⟨ys, e1, e⟩ := Option.bind_eq_some_iff.mp (show ((lstOf ρ h a).bind fun xs => (blsOf xs).map fun bs => .val (.bl (bs.any id))) = some z from e)
  obtain ⟨bs, e2, rfl⟩ := Option.map_eq_some_iff.mp e
  obtain ⟨p, vs, x1, x2, x3, x4⟩ := ha.cell W e1
  have x5 := bls_rel e2 x4
  subst x5
  exact cr_any hc pins s σ H _ us Q I rx ⟨p, bs, by rw [x1], by rw [hK]; exact x2, end_bl W sb q⟩
theorem end_rep {x : Str} (W : Wf G F L φ h H all) (sb : base.Sublist all) (q : Fin G F L h ρ hs base (.val (.rep x)) Q) : Q (.str x) H := end_val W sb (show RelD G φ (MZ F φ all) H (.rep x) (.str x) from rfl) q
theorem o_repr (hK : X.K = G.K) (hg : X.A.guards = some []) (hu : X.A.units + 70 < cLine) : CallR X (.builtin "repr") (rDL G fun ρ h => biR ρ h .repr) := by
  intro pins s σ H xs us Q I rx ⟨x, ex, F, L, φ, h, ρ, hs, base, all, a, z, W, sb, ha, e, q⟩
  have hz := sizeLine_eq
  subst ex
  obtain ⟨d, e1, e⟩ := Option.bind_eq_some_iff.mp (show ((pdR ρ h a).bind fun x => if x.showable = true ∧ x.shown.length ≤ 16777216 ∧ x.depth ≤ 64 then some (.val (.rep x.shown)) else none) = some z from e)
  obtain ⟨c, e⟩ := ite_some' e
  cases e
  obtain ⟨x1, x2⟩ := ha.data W e1
  obtain ⟨u, rfl, ru⟩ := vals1 rx
  have fin := end_rep W sb q
  cases d with
  | none =>
    cases x1
    cases ru
    refine PySem.P.repr_of_none ⟨.str _, H, I.tok _, ⟨_, rfl⟩, ?_⟩
    simpa only [PyData.shown] using fin
  | bool b =>
    cases x1
    cases ru
    refine PySem.P.repr_of_bool ⟨.str _, H, I.tok _, ⟨_, rfl⟩, ?_⟩
    simpa only [PyData.shown] using fin
  | int i =>
    cases x1
    obtain ⟨t, rfl⟩ := ru
    have c1 := c.1
    simp only [PyData.showable, decide_eq_true_eq] at c1
    refine PySem.P.repr_of_int c1 ⟨.str _, H, I.tok _, ⟨_, rfl⟩, ?_⟩
    simpa only [PyData.shown] using fin
  | str t =>
    cases x1
    obtain ⟨t, rfl⟩ := ru
    have c2 := c.2.1
    simp only [PyData.shown] at c2 fin
    exact PySem.P.repr_of_str ⟨.str _, H, I.tok _, ⟨_, rfl⟩, fin⟩ (by omega)
  | dict kvs => cases x1
  | list ds =>
    obtain ⟨as, r⟩ := Dp.reads I _ _ _ (by rw [hK]; exact x1) ru
    cases x1 with
    | lst hs ha =>
      cases ru
      exact PySem.repr_of_reads' r c.1 (fun z => by rw [PyData.hasDict_of_canLay _ x2] at z; cases z) hg (by omega) (fun b o k => k) (fun h' u tk k => ⟨.str _, H, I.kept k, ⟨_, rfl⟩, fin⟩) (by omega)
  | tuple ds =>
    obtain ⟨as, r⟩ := Dp.reads I _ _ _ (by rw [hK]; exact x1) ru
    cases x1 with
    | tup hs ha =>
      cases ru
      exact PySem.repr_of_reads' r c.1 (fun z => by rw [PyData.hasDict_of_canLay _ x2] at z; cases z) hg (by omega) (fun b o k => k) (fun h' u tk k => ⟨.str _, H, I.kept k, ⟨_, rfl⟩, fin⟩) (by omega)
end
end An

namespace An
open PySem L2

section
variable {G : GX} {F : FX} {L : List (Addr × Obj)} {φ : List Addr} {h : Hh} {H : Hp} {all base hs : List (V × Sl)} {ρ : Env} {Q : VK} {X : Cx} {M : Addr → Prop}
def tyS : Ty → String
  | .str => "str"
  | .int => "int"
  | .bool => "bool"
  | .tup => "tuple"
  | .lst => "list"
theorem boot_ty (t : Ty) : bootBuiltins (tyN t) = some (.type (tyS t)) := by cases t <;> with_unfolding_all rfl
theorem kb (t : Ty) : kitB "NoneType" (tyS t) = some false ∧ kitB "bool" (tyS t) = some (match t with | .int => true | .bool => true | _ => false) ∧ kitB "int" (tyS t) = some (match t with | .int => true | _ => false) ∧
    kitB "str" (tyS t) = some (match t with | .str => true | _ => false) ∧ kitB "tuple" (tyS t) = some (match t with | .tup => true | _ => false) ∧ kitB "list" (tyS t) = some (match t with | .lst => true | _ => false) := by
  cases t <;> refine ⟨?_, ?_, ?_, ?_, ?_, ?_⟩ <;> with_unfolding_all rfl
theorem tyL {a : Addr} {vs : List V} (r : SqL G.K H a vs) : TyX G.K H (.ref a) (.type "list") := by
  rcases r with (r | ⟨o, r⟩) | ⟨o, its, n, r, c, _⟩
  · exact .base (.lst r)
  · exact .base (.frz r)
  · exact .kList r c
theorem tyT {a : Addr} {vs : List V} (r : SqT G.K H a vs) : TyX G.K H (.ref a) (.type "tuple") := by
  rcases r with (r | ⟨o, r⟩) | ⟨o, its, n, r, c, _⟩
  · exact .base (.tup r)
  · exact .fTuple r
  · exact .kTuple r c
theorem isi_rel {r : R} {v : V} (W : Wf G F L φ h H all) (A : Has all ρ r v) (t : Ty) {k : Bool} (e : isiR r t = some k) : ∃ n, TyX G.K H v (.type n) ∧ kitB n (tyS t) = some k := by
  obtain ⟨k1, k2, k3, k4, k5, k6⟩ := kb t
  cases r with
  | val d =>
    have q := A.valD W
    cases d with
    | non => cases (show v = .non from q); cases e; exact ⟨_, .base .non, k1⟩
    | bl b => cases (show v = .bl b from q); cases e; exact ⟨_, .base (.bl b), k2⟩
    | int b => cases (show v = .int b from q); cases e; exact ⟨_, .base (.int b), k3⟩
    | str b => obtain ⟨q1, _⟩ := q; subst q1; cases e; exact ⟨_, .base (.str b), k4⟩
    | tup xs => obtain ⟨a, vs, q1, q2, _⟩ := A.tup W rfl; subst q1; cases e; exact ⟨_, tyT q2, k5⟩
    | lst xs => obtain ⟨a, vs, q1, q2, _⟩ := A.cell W rfl; subst q1; cases e; exact ⟨_, tyL q2, k6⟩
    | _ => cases e
  | fr c =>
    cases c with
    | lst xs => obtain ⟨a, vs, q1, q2, _⟩ := A.cell W rfl; subst q1; cases e; exact ⟨_, tyL q2, k6⟩
    | _ => cases e
  | vw i => cases e
def rIs (G : GX) (t : Ty) : List V → Hp → VK → Prop := fun xs H Q => ∃ x, xs = [x, .ty (tyS t)] ∧ rD1 G (fun ρ h a => (isiR a t).map fun k => .val (.bl k)) x H Q
theorem o_isi (hK : X.K = G.K) (t : Ty) : CallR X (.builtin "isinstance") (rIs G t) := by
  intro pins s σ H xs us Q I rx ⟨x, ex, F, L, φ, h, ρ, hs, base, all, a, z, W, sb, ha, e, q⟩
  replace e := Option.map_eq_some_iff.mp e
  obtain ⟨k, e, rfl⟩ := e
  obtain ⟨n, t1, t2⟩ := isi_rel W ha t e
  exact call_isi pins s σ H xs us Q I rx ⟨x, .ty (tyS t), .type n, .type (tyS t), k, ex, .ty _, by rw [hK]; exact t1, by rw [hK]; exact kit_ty t2, end_bl W sb q⟩
def rJn (G : GX) : V → List V → Hp → VK → Prop := fun x xs H Q => ∃ y, xs = [y] ∧ rD2 G (fun ρ h a b => mtR ρ h .join a [b]) x y H Q
theorem join_len (a : Str) (ys : List Str) (c : joinOk a ys = true) : (Txt.join a ys).length ≤ 16777216 := by
  have h1 := PySem.StrLaws.join_length_le a ys
  have h2 : Txt.join a ys = Str.join a ys := PySem.StrLaws.glued_eq_join a ys
  rw [h2]
  unfold joinOk at c
  exact Nat.le_trans h1 (of_decide_eq_true c)
theorem o_join (hK : X.K = G.K) : MtR X "str.join" (rJn G) := by
  intro pins s σ H x xs v us Q I rx rs ⟨y, ex, F, L, φ, h, ρ, hs, base, all, a, b, z, W, sb, ha, hb, e, q⟩
  obtain ⟨t, e1, e⟩ := Option.bind_eq_some_iff.mp (show ((strOf a).bind fun a => (seqOf ρ h b).bind fun xs => (strsOf xs).bind fun ys => if joinOk a ys then some (.val (.str (Txt.join a ys))) else none) = some z from e)
  obtain ⟨ds, e2, e⟩ := Option.bind_eq_some_iff.mp e
  obtain ⟨ys, e3, e⟩ := Option.bind_eq_some_iff.mp e
  obtain ⟨c, e⟩ := ite_some' e
  cases e
  obtain ⟨x1, x2, x3⟩ := ha.str W e1
  obtain ⟨p, vs, y1, y2, y3, y4⟩ := hb.seq W e2
  obtain ⟨y5, y6⟩ := strs_rel e3 y4
  subst y5
  have c' : (ys.map (·.length)).sum + ys.length * t.length ≤ 16777216 := by
    unfold joinOk at c
    exact of_decide_eq_true c
  refine mt_join pins s σ H x xs v us Q I rx rs ⟨t, p, ys, x1, by rw [ex, y1], by rw [hK]; exact y2, c', end_str W sb ?_ (join_len t ys c) q⟩
  rw [show Txt.join t ys = Str.join t ys from PySem.StrLaws.glued_eq_join t ys]
  exact ok_join x2 y6
end
end An

namespace An
open PySem L2

/-! ### binding -/
theorem optAll_rel {α β γ : Type} {f : α → Option β} {g : α → Option γ} {Rl : β → γ → Prop} (k : ∀ x y, f x = some y → ∃ z, g x = some z ∧ Rl y z) : ∀ {l : List α} {ys : List β}, optAll f l = some ys → ∃ zs, optAll g l = some zs ∧ PySem.Paired Rl ys zs
  | [], ys, e => by cases e; exact ⟨[], rfl, .nil⟩
  | x :: xs, ys, e => by
    have e' : ((f x).bind fun y => (optAll f xs).map fun ys => y :: ys) = some ys := e
    cases q : f x with
    | none => rw [q] at e'; cases e'
    | some y =>
      rw [q] at e'
      have e2 : ((optAll f xs).map fun ys => y :: ys) = some ys := e'
      cases q2 : optAll f xs with
      | none => rw [q2] at e2; cases e2
      | some yr =>
        rw [q2] at e2
        cases e2
        obtain ⟨z, ez, rz⟩ := k x y q
        obtain ⟨zs, es, rs⟩ := optAll_rel k q2
        refine ⟨z :: zs, ?_, .cons rz rs⟩
        show ((g x).bind fun y => (optAll g xs).map fun ys => y :: ys) = _
        rw [ez]
        show ((optAll g xs).map fun ys => z :: ys) = _
        rw [es]; rfl
theorem paired_append {α β : Type} {Rl : α → β → Prop} : ∀ {a c : List α} {b d : List β}, PySem.Paired Rl a b → PySem.Paired Rl c d → PySem.Paired Rl (a ++ c) (b ++ d)
  | _, _, _, _, .nil, k => k
  | _, _, _, _, .cons r t, k => .cons r (paired_append t k)
theorem lookup_rel {α β : Type} {Rl : α → β → Prop} : ∀ {a : List (Str × α)} {b : List (Str × β)} {x : Str} {y : α}, PySem.Paired (fun p q => p.1 = q.1 ∧ Rl p.2 q.2) a b → a.lookup x = some y → ∃ z, b.lookup x = some z ∧ Rl y z
  | _, _, _, _, .nil, e => by cases e
  | (k, u) :: a, (k', w) :: b, x, y, .cons r t, e => by
    obtain ⟨ek, rr⟩ := r
    cases (show k = k' from ek)
    have e' : (match x == k with | true => some u | false => List.lookup x a) = some y := e
    show ∃ z, (match x == k with | true => some w | false => List.lookup x b) = some z ∧ Rl y z
    cases q : (x == k) with
    | true => rw [q] at e'; cases e'; exact ⟨w, rfl, rr⟩
    | false => rw [q] at e'; exact lookup_rel t e'
theorem lookup_none {α β : Type} {Rl : α → β → Prop} : ∀ {a : List (Str × α)} {b : List (Str × β)} {x : Str}, PySem.Paired (fun p q => p.1 = q.1 ∧ Rl p.2 q.2) a b → a.lookup x = none → b.lookup x = none
  | _, _, _, .nil, e => rfl
  | (k, u) :: a, (k', w) :: b, x, .cons r t, e => by
    obtain ⟨ek, rr⟩ := r
    cases (show k = k' from ek)
    have e' : (match x == k with | true => some u | false => List.lookup x a) = none := e
    show (match x == k with | true => some w | false => List.lookup x b) = none
    cases q : (x == k) with
    | true => rw [q] at e'; cases e'
    | false => rw [q] at e'; exact lookup_none t e'
theorem bindG_rel {α β : Type} {Rl : α → β → Prop} {ps : List Str} {d1 k1 : List (Str × α)} {d2 k2 : List (Str × β)} {us : List α} {ws : List β} {r : List α} (hd : PySem.Paired (fun p q => p.1 = q.1 ∧ Rl p.2 q.2) d1 d2)
    (hk : PySem.Paired (fun p q => p.1 = q.1 ∧ Rl p.2 q.2) k1 k2) (hu : PySem.Paired Rl us ws) (e : bindG ps d1 us k1 = some r) : ∃ r', bindG ps d2 ws k2 = some r' ∧ PySem.Paired Rl r r' := by
  unfold bindG at e ⊢
  have hl : us.length = ws.length := hu.length
  by_cases c : us.length ≤ ps.length
  · rw [if_pos c] at e
    rw [if_pos (by rw [← hl]; exact c)]
    cases q : optAll (fun p => alt (k1.lookup p) (d1.lookup p)) (ps.drop us.length) with
    | none => rw [q] at e; cases e
    | some ys =>
      rw [q] at e
      cases e
      obtain ⟨zs, e1, rz⟩ := optAll_rel (g := fun p => alt (k2.lookup p) (d2.lookup p)) (Rl := Rl) (fun x y ex => by
        cases q1 : k1.lookup x with
        | some y1 =>
          have ex' : alt (k1.lookup x) (d1.lookup x) = some y := ex
          rw [q1] at ex'
          cases ex'
          obtain ⟨z, e2, rr⟩ := lookup_rel hk q1
          exact ⟨z, by show alt (k2.lookup x) _ = _; rw [e2]; rfl, rr⟩
        | none =>
          have ex' : alt (k1.lookup x) (d1.lookup x) = some y := ex
          rw [q1] at ex'
          obtain ⟨z, e2, rr⟩ := lookup_rel hd (show d1.lookup x = some y from ex')
          exact ⟨z, by show alt (k2.lookup x) _ = _; rw [lookup_none hk q1]; exact e2, rr⟩) q
      rw [← hl, e1]
      exact ⟨_, rfl, paired_append hu rz⟩
  · rw [if_neg c] at e; cases e

/-! ### the def's table -/
structure Callee (G : GX) (P : Program) (w : World) (K : PySem.W.Frag) (mg : Str → Option Value) (base : Heap) (lvl : Nat) (y : Str) (shs : List (Nat × List Str)) (cf : List D → List (Str × D) → Hh → Res (D × Hh)) : Prop where
  ex : ∃ (a : Addr) (fd : FuncData) (ps : List Str) (dD : List (Str × D)) (dV : List (Str × V)) (dU : List (Str × Value)) (run : List D → Hh → Res (D × Hh)),
    mg y = some (.ref a) ∧ PySem.W.keepIn K (.ref a) = true ∧ FnG P w K mg base lvl a fd ps (spF G ps.length run) ∧
    (∀ ds kd h, cf ds kd h = (ofO (bindG ps dD ds kd)).bind fun vs => run vs h) ∧
    PySem.Paired (fun p q => p.1 = q.1 ∧ ∀ φ M H, RelD G φ M H p.2 q.2) dD dV ∧ PySem.Paired (fun p q => p.1 = q.1 ∧ RelV p.2 q.2) dV dU ∧
    ∀ n ks, (n, ks) ∈ shs → ∀ (s : Shared) (us ws vs : List Value), K.In s.heap → us.length = n → ws.length = ks.length → bindG ps dU us (ks.zip ws) = some vs → BindsTo s fd ⟨us, ks.zip ws⟩ (ps.zip vs)
/-- the context is one that the small language's expressions may stand in -/
structure Good (G : GX) (k : Ck) (call : Nat → List D → List (Str × D) → Hh → Res (D × Hh)) (W : WX) (lvl : Nat) (X : Cx) : Prop where
  hK : X.K = G.K
  calm : X.calm = true
  N : X.N = k.N
  nd : k.N.Nodup
  sc : X.env.scope = k.sc
  tk : Takes X W
  room : Room lvl X.A
  gd : X.A.guards = some []
  blt : ∀ x, x ∈ (["len", "list", "tuple", "int", "repr", "all", "any", "isinstance", "range", "str", "bool"] : List Str) → X.mg x = none
  gl : ∀ x d, k.gl.lookup x = some d → ∃ v u, X.mg x = some u ∧ RelV v u ∧ ∀ φ M H, RelD G φ M H d v
  cal : ∀ (f : Nat) y shs, k.fn[f]? = some (y, shs) → Callee G X.prog X.w X.K X.mg X.base lvl y shs (call f)
/-- .. its statements -/
structure GoodS (G : GX) (k : Ck) (call : Nat → List D → List (Str × D) → Hh → Res (D × Hh)) (W : WX) (lvl : Nat) (X : Cx) : Prop extends Good G k call W lvl X where
  st : ∀ i x, chkNm k i x = true → Loc X.env.scope x ∧ (X.fn x = true ∨ X.env.scope.names.lookup x = some .local)
  po : PassesOwn (model X.prog X.w) X.A X.env X.xe
end An

namespace An
open PySem L2

/-! ### readings -/
def Aft {α : Type} (okP : α → Hh → Prop) (er : D → Hh → Prop) : Res (α × Hh) → Prop
  | .ok x => okP x.1 x.2
  | .err x h => er x h
  | .stuck => False
theorem Aft.bind {α β : Type} {m : Res (α × Hh)} {k : α × Hh → Res (β × Hh)} {okA : α → Hh → Prop} {okB : β → Hh → Prop} {er er' : D → Hh → Prop} (af : Aft okB er (m.bind k))
    (hk : ∀ a h', Aft okB er (k (a, h')) → okA a h') (he : ∀ x h', er x h' → er' x h') : Aft okA er' m := by
  cases m with
  | ok x => exact hk x.1 x.2 af
  | err x h => exact he x h af
  | stuck => exact af
theorem Aft.ofO {γ β : Type} {o : Option γ} {k : γ → Res (β × Hh)} {okB : β → Hh → Prop} {er : D → Hh → Prop} (af : Aft okB er ((ofO o).bind k)) : ∃ z, o = some z ∧ Aft okB er (k z) := by
  cases o with
  | some z => exact ⟨z, rfl, af⟩
  | none => exact af.elim
theorem Aft.mono {α : Type} {m : Res (α × Hh)} {okA okB : α → Hh → Prop} {er er' : D → Hh → Prop} (af : Aft okB er m) (hk : ∀ a h', okB a h' → okA a h') (he : ∀ x h', er x h' → er' x h') : Aft okA er' m := by
  cases m with
  | ok x => exact hk x.1 x.2 af
  | err x h => exact he x h af
  | stuck => exact af
section
variable (G : GX) (W : WX) (F : FX) (L : List (Addr × Obj)) (ρ : Env) (hs T : List (V × Sl)) (σ : L2.St)
def AftX (x : D) (h' : Hh) : Prop := ∀ cls d H' φ', Wf G F L φ' h' H' (hs ++ T) → RelX G φ' (MZ F φ' (hs ++ T)) H' x cls d → W cls d σ H'
def OkR (Q : VK) (r : R) (h' : Hh) : Prop := ∀ v H' φ', Wf G F L φ' h' H' (rh v r ++ (hs ++ T)) → RW ρ hs r v → Q v H'
end
def SE (G : GX) (W : WX) (ev : Env → Hh → Res (R × Hh)) : TE := fun σ H Q => ∃ F L ρ hs T φ h, SR ρ σ hs ∧ Wf G F L φ h H (hs ++ T) ∧ Aft (OkR G F L ρ hs T Q) (AftX G W F L hs T σ) (ev ρ h)
def ST (G : GX) (W : WX) (ev : Env → Hh → Res (Bool × Hh)) : TT := fun σ H Q => ∃ F L ρ hs T φ h, SR ρ σ hs ∧ Wf G F L φ h H (hs ++ T) ∧ Aft (fun b h' => ∀ H' φ', Wf G F L φ' h' H' (hs ++ T) → Q b H') (AftX G W F L hs T σ) (ev ρ h)
def rhs : List V → List R → List (V × Sl)
  | v :: vs, r :: rs => rh v r ++ rhs vs rs
  | _, _ => []
abbrev RWs (ρ : Env) (hs : List (V × Sl)) : List R → List V → Prop := PySem.Paired (RW ρ hs)
def OkRs (G : GX) (F : FX) (L : List (Addr × Obj)) (ρ : Env) (hs T : List (V × Sl)) (Q : List V → Hp → Prop) (rs : List R) (h' : Hh) : Prop := ∀ vs H' φ', Wf G F L φ' h' H' (rhs vs rs ++ (hs ++ T)) → RWs ρ hs rs vs → Q vs H'
def SEs (G : GX) (W : WX) (ev : Env → Hh → Res (List R × Hh)) : TA := fun σ H Q => ∃ F L ρ hs T φ h, SR ρ σ hs ∧ Wf G F L φ h H (hs ++ T) ∧ Aft (OkRs G F L ρ hs T Q) (AftX G W F L hs T σ) (ev ρ h)
def SO (G : GX) (W : WX) (ev : Env → Hh → Res (Option Int × Hh)) : TO := fun σ H Q => ∃ F L ρ hs T φ h, SR ρ σ hs ∧ Wf G F L φ h H (hs ++ T) ∧ Aft (fun b h' => ∀ H' φ', Wf G F L φ' h' H' (hs ++ T) → Q b H') (AftX G W F L hs T σ) (ev ρ h)
theorem _root_.L2.PE.impl {X : Cx} {e : Expr} {t t' : TE} (h : PE X e t) (k : ∀ σ H Q, t' σ H Q → t σ H Q) : PE X e t' := ⟨fun pins s σ H Q I q => h.run pins s σ H Q I (k σ H Q q)⟩
theorem _root_.L2.PT.impl {X : Cx} {e : Expr} {t t' : TT} (h : PT X e t) (k : ∀ σ H Q, t' σ H Q → t σ H Q) : PT X e t' := ⟨fun pins s σ H Q I q => h.run pins s σ H Q I (k σ H Q q)⟩
theorem _root_.L2.PW.impl {X : Cx} {e : Expr} {t t' : TT} (h : PW X e t) (k : ∀ σ H Q, t' σ H Q → t σ H Q) : PW X e t' := ⟨fun wh pins s σ H Q I q => h.run wh pins s σ H Q I (k σ H Q q)⟩
theorem _root_.L2.PA.impl {X : Cx} {e : List Expr} {t t' : TA} (h : PA X e t) (k : ∀ σ H Q, t' σ H Q → t σ H Q) : PA X e t' := ⟨fun pos pins s σ H Q I q => h.run pos pins s σ H Q I (k σ H Q q)⟩
theorem _root_.L2.PK.impl {X : Cx} {e : List Keyword} {t t' : TA} (h : PK X e t) (k : ∀ σ H Q, t' σ H Q → t σ H Q) : PK X e t' := ⟨fun pos pins s σ H Q I q => h.run pos pins s σ H Q I (k σ H Q q)⟩
theorem _root_.L2.PO.impl {X : Cx} {e : Option Expr} {t t' : TO} (h : PO X e t) (k : ∀ σ H Q, t' σ H Q → t σ H Q) : PO X e t' := ⟨fun pins s σ H Q I q => h.run pins s σ H Q I (k σ H Q q)⟩
theorem _root_.L2.PS.impl {X : Cx} {e : Stmt} {t t' : TS} (h : PS X e t) (k : ∀ D σ H, t' D σ H → t D σ H) : PS X e t' := ⟨fun pins s σ H D I q => h.run pins s σ H D I (k D σ H q)⟩
theorem _root_.L2.PSs.impl {X : Cx} {e : List Stmt} {t t' : TS} (h : PSs X e t) (k : ∀ D σ H, t' D σ H → t D σ H) : PSs X e t' := ⟨fun pins s σ H D I q => h.run pins s σ H D I (k D σ H q)⟩
section
variable {G : GX} {W : WX} {F : FX} {L : List (Addr × Obj)} {ρ : Env} {hs T A : List (V × Sl)} {σ : L2.St} {φ φ' : List Addr} {h h' : Hh} {H H' : Hp}
theorem perm_in : (A ++ (hs ++ T)).Perm (hs ++ (A ++ T)) := by
  rw [← List.append_assoc, ← List.append_assoc]
  exact List.Perm.append_right T List.perm_append_comm
theorem perm_ev {B : List (V × Sl)} : (B ++ (hs ++ (A ++ T))).Perm (B ++ (A ++ (hs ++ T))) := List.Perm.append_left _ perm_in.symm
theorem sub_in : (hs ++ T).Sublist (hs ++ (A ++ T)) := (List.Sublist.refl hs).append (List.sublist_append_right _ _)
theorem RelX.sub {all base : List (V × Sl)} (e : base.Sublist all) {x : D} {cls : Value} {d : Option Addr} (r : RelX G φ (MZ F φ all) H x cls d) : RelX G φ (MZ F φ base) H x cls d := by
  obtain ⟨c, ns, fs, C, ex, ec, ecl, z⟩ := r
  refine ⟨c, ns, fs, C, ex, ec, ecl, z.imp id ?_⟩
  rintro ⟨dd, fvs, e1, e2, e3, t⟩
  exact ⟨dd, fvs, e1, e2, e3, t.mono (stay_sub e)⟩
theorem AftX.weak {x : D} (a : AftX G W F L hs T σ x h') : AftX G W F L hs (A ++ T) σ x h' := fun cls d H' φ' w r => a cls d H' φ' (w.sub sub_in) (r.sub sub_in)
/-- an expression within, A held besides -/
theorem se_in {β : Type} {ev : Env → Hh → Res (R × Hh)} {k : R × Hh → Res (β × Hh)} {okB : β → Hh → Prop} {Q : VK} (sr : SR ρ σ hs) (wf : Wf G F L φ h H (A ++ (hs ++ T))) (af : Aft okB (AftX G W F L hs T σ) ((ev ρ h).bind k))
    (hk : ∀ r h', Aft okB (AftX G W F L hs T σ) (k (r, h')) → ∀ v H' φ', Wf G F L φ' h' H' (rh v r ++ (A ++ (hs ++ T))) → RW ρ hs r v → Q v H') : SE G W ev σ H Q :=
  ⟨F, L, ρ, hs, A ++ T, φ, h, sr, wf.perm perm_in, af.bind (fun r h' a v H' φ' w rw => hk r h' a v H' φ' (w.perm perm_ev) rw) fun _ _ a => a.weak⟩
theorem ses_in {β : Type} {ev : Env → Hh → Res (List R × Hh)} {k : List R × Hh → Res (β × Hh)} {okB : β → Hh → Prop} {Q : List V → Hp → Prop} (sr : SR ρ σ hs) (wf : Wf G F L φ h H (A ++ (hs ++ T))) (af : Aft okB (AftX G W F L hs T σ) ((ev ρ h).bind k))
    (hk : ∀ r h', Aft okB (AftX G W F L hs T σ) (k (r, h')) → ∀ v H' φ', Wf G F L φ' h' H' (rhs v r ++ (A ++ (hs ++ T))) → RWs ρ hs r v → Q v H') : SEs G W ev σ H Q :=
  ⟨F, L, ρ, hs, A ++ T, φ, h, sr, wf.perm perm_in, af.bind (fun r h' a v H' φ' w rw => hk r h' a v H' φ' (w.perm perm_ev) rw) fun _ _ a => a.weak⟩
theorem so_in {β : Type} {ev : Env → Hh → Res (Option Int × Hh)} {k : Option Int × Hh → Res (β × Hh)} {okB : β → Hh → Prop} {Q : Option Int → Hp → Prop} (sr : SR ρ σ hs) (wf : Wf G F L φ h H (A ++ (hs ++ T))) (af : Aft okB (AftX G W F L hs T σ) ((ev ρ h).bind k))
    (hk : ∀ r h', Aft okB (AftX G W F L hs T σ) (k (r, h')) → ∀ H' φ', Wf G F L φ' h' H' (A ++ (hs ++ T)) → Q r H') : SO G W ev σ H Q :=
  ⟨F, L, ρ, hs, A ++ T, φ, h, sr, wf.perm perm_in, af.bind (fun r h' a H' φ' w => hk r h' a H' φ' (w.perm perm_in.symm)) fun _ _ a => a.weak⟩
theorem sub_A {B : List (V × Sl)} : (hs ++ T).Sublist (B ++ (A ++ (hs ++ T))) := (List.sublist_append_right _ _).trans (List.sublist_append_right _ _)
theorem has1 {r : R} {v : V} (w : RW ρ hs r v) : Has (rh v r ++ (A ++ (hs ++ T))) ρ r v := Has.of w (fun u hu => List.mem_append_left _ hu) fun u hu => List.mem_append_right _ (List.mem_append_right _ (List.mem_append_left _ hu))
theorem has2 {r : R} {v : V} {B : List (V × Sl)} (w : RW ρ hs r v) : Has (B ++ (rh v r ++ (hs ++ T))) ρ r v := Has.of w (fun u hu => List.mem_append_right _ (List.mem_append_left _ hu)) fun u hu => List.mem_append_right _ (List.mem_append_right _ (List.mem_append_left _ hu))
theorem map_of {α β : Type} {o : Option α} {z : α} {f : α → β} (e : o = some z) : o.map f = some (f z) := by rw [e]; rfl
/-- two expressions in a row, then an operation -/
theorem se_bin {γ : Type} {ea eb : Env → Hh → Res (R × Hh)} {op : Env → Hh → R → R → Option γ} {f : γ → R} {Q : VK} {H : Hp}
    (q : SE G W (fun ρ h => (ea ρ h).bind fun x => (eb ρ x.2).bind fun y => (ofO (op ρ y.2 x.1 y.1)).bind fun z => .ok (f z, y.2)) σ H Q) : tOp (rD2 G fun ρ h a b => (op ρ h a b).map f) (SE G W ea) (SE G W eb) σ H Q := by
  obtain ⟨F, L, ρ, hs, T, φ, h, sr, wf, af⟩ := q
  refine se_in (A := []) sr wf af fun a h1 af1 x H1 φ1 wf1 rw1 => ?_
  refine se_in (A := rh x a) sr wf1 af1 fun b h2 af2 y H2 φ2 wf2 rw2 => ?_
  obtain ⟨z, ez, af3⟩ := af2.ofO
  refine ⟨F, L, φ2, h2, ρ, hs, hs ++ T, _, a, b, f z, wf2, sub_A, has2 rw1, has1 rw2, map_of ez, fun v H' φ' w' r' => af3 v H' φ' w' r'⟩
theorem se_un {γ : Type} {ea : Env → Hh → Res (R × Hh)} {op : Env → Hh → R → Option γ} {f : γ → R} {Q : VK} {H : Hp}
    (q : SE G W (fun ρ h => (ea ρ h).bind fun x => (ofO (op ρ x.2 x.1)).bind fun z => .ok (f z, x.2)) σ H Q) : tUn (rD1 G fun ρ h a => (op ρ h a).map f) (SE G W ea) σ H Q := by
  obtain ⟨F, L, ρ, hs, T, φ, h, sr, wf, af⟩ := q
  refine se_in (A := []) sr wf af fun a h1 af1 x H1 φ1 wf1 rw1 => ?_
  obtain ⟨z, ez, af3⟩ := af1.ofO
  refine ⟨F, L, φ1, h1, ρ, hs, hs ++ T, _, a, f z, wf1, List.sublist_append_right _ _, has1 rw1, map_of ez, fun v H' φ' w' r' => af3 v H' φ' w' r'⟩
/-- a builtin of one value -/
theorem se_call1 {γ : Type} {ea : Env → Hh → Res (R × Hh)} {op : Env → Hh → R → Option γ} {f : γ → R} {Q : VK} {H : Hp}
    (q : SE G W (fun ρ h => (ea ρ h).bind fun x => (ofO (op ρ x.2 x.1)).bind fun z => .ok (f z, x.2)) σ H Q) : tCB (rDL G fun ρ h a => (op ρ h a).map f) (tCons (SE G W ea) tNil) σ H Q := by
  obtain ⟨F, L, ρ, hs, T, φ, h, sr, wf, af⟩ := q
  refine se_in (A := []) sr wf af fun a h1 af1 x H1 φ1 wf1 rw1 => ?_
  obtain ⟨z, ez, af3⟩ := af1.ofO
  refine ⟨x, rfl, F, L, φ1, h1, ρ, hs, hs ++ T, _, a, f z, wf1, List.sublist_append_right _ _, has1 rw1, map_of ez, fun v H' φ' w' r' => af3 v H' φ' w' r'⟩
theorem se_isi {ea : Env → Hh → Res (R × Hh)} {t : Ty} {Q : VK} {H : Hp}
    (q : SE G W (fun ρ h => (ea ρ h).bind fun x => (ofO (isiR x.1 t)).bind fun z => .ok (.val (.bl z), x.2)) σ H Q) : tCB (rIs G t) (tCons (SE G W ea) (tCons (tC (.ty (tyS t))) tNil)) σ H Q := by
  obtain ⟨F, L, ρ, hs, T, φ, h, sr, wf, af⟩ := q
  refine se_in (A := []) sr wf af fun a h1 af1 x H1 φ1 wf1 rw1 => ?_
  obtain ⟨z, ez, af3⟩ := af1.ofO
  refine ⟨x, rfl, F, L, φ1, h1, ρ, hs, hs ++ T, _, a, _, wf1, List.sublist_append_right _ _, has1 rw1, map_of ez, fun v H' φ' w' r' => af3 v H' φ' w' r'⟩
/-- a test's truth -/
def evT (ev : Env → Hh → Res (R × Hh)) : Env → Hh → Res (Bool × Hh) := fun ρ h => (ev ρ h).bind fun x => (ofO (truR ρ x.2 x.1)).bind fun k => .ok (k, x.2)
theorem st_tru {ea : Env → Hh → Res (R × Hh)} {Q : Bool → Hp → Prop} {H : Hp} (q : ST G W (evT ea) σ H Q) : SE G W ea σ H fun x H' => ∃ k, TruV G.K x H' k ∧ Q k H' := by
  obtain ⟨F, L, ρ, hs, T, φ, h, sr, wf, af⟩ := q
  refine se_in (A := []) sr wf af fun a h1 af1 x H1 φ1 wf1 rw1 => ?_
  obtain ⟨z, ez, af3⟩ := af1.ofO
  refine ⟨z, Has.tru wf1 (has1 rw1) ez, af3 H1 φ1 (wf1.sub (List.sublist_append_right _ _))⟩
end
end An

namespace An
open PySem L2

section
variable {G : GX} {W : WX} {F : FX} {L : List (Addr × Obj)} {ρ : Env} {hs T A base all : List (V × Sl)} {σ : L2.St} {φ φ' : List Addr} {h h' : Hh} {H H' : Hp} {M : Addr → Prop}
theorem Res.bind_assoc {α β γ : Type} (m : Res α) (f : α → Res β) (g : β → Res γ) : (m.bind f).bind g = m.bind fun x => (f x).bind g := by cases m <;> rfl
theorem Res.bind_ok {α : Type} (m : Res (α × Hh)) : (m.bind fun x => .ok (x.1, x.2)) = m := by cases m <;> rfl
theorem ofO_map {α β γ : Type} (o : Option α) (f : α → β) (g : β → Res γ) : (ofO (o.map f)).bind g = (ofO o).bind fun z => g (f z) := by cases o <;> rfl

/-! ### lists of values -/
theorem vals_cons {v : V} {vs : List V} {d : D} {ds : List D} : vals (v :: vs) (d :: ds) = (v, .val d) :: vals vs ds := rfl
theorem toD_hold {r : R} {d : D} {v : V} (e : toD r = some d) (w : Wf G F L φ h H (rh v r ++ base)) : Wf G F L φ h H ((v, .val d) :: base) := by
  cases r with
  | val d' => cases e; exact w
  | fr c => cases e; exact w.freeze
  | vw i => cases e
theorem optAll_cons {α β : Type} {f : α → Option β} {x : α} {xs : List α} {ys : List β} (e : optAll f (x :: xs) = some ys) : ∃ y zs, f x = some y ∧ optAll f xs = some zs ∧ ys = y :: zs := by
  obtain ⟨y, e1, e⟩ := Option.bind_eq_some_iff.mp (show ((f x).bind fun y => (optAll f xs).map fun ys => y :: ys) = some ys from e)
  obtain ⟨zs, e2, e⟩ := Option.map_eq_some_iff.mp e
  exact ⟨y, zs, e1, e2, e.symm⟩
theorem toD_all {ρ : Env} {hs : List (V × Sl)} : ∀ {rs : List R} {vs : List V} {ds : List D} {base : List (V × Sl)}, optAll toD rs = some ds → RWs ρ hs rs vs → Wf G F L φ h H (rhs vs rs ++ base) → Wf G F L φ h H (vals vs ds ++ base) ∧ vs.length = ds.length
  | [], _, ds, base, e, .nil, w => by cases e; exact ⟨w, rfl⟩
  | r :: rs, v :: vs, ds, base, e, .cons r1 rr, w => by
    obtain ⟨d, ds', e1, e2, e3⟩ := optAll_cons e
    subst e3
    have w1 : Wf G F L φ h H (rh v r ++ (rhs vs rs ++ base)) := by rw [← List.append_assoc]; exact w
    have w2 := toD_hold e1 w1
    have w3 : Wf G F L φ h H (rhs vs rs ++ ((v, .val d) :: base)) := w2.perm List.perm_middle.symm
    obtain ⟨w4, l⟩ := toD_all e2 rr w3
    exact ⟨w4.perm List.perm_middle, by rw [List.length_cons, List.length_cons, l]⟩
theorem vals_rel : ∀ {vs : List V} {ds : List D}, vs.length = ds.length → (∀ p ∈ vals vs ds, p ∈ all) → Wf G F L φ h H all → RelDs G φ (MZ F φ all) H ds vs
  | [], [], _, _, _ => rfl
  | v :: vs, d :: ds, l, m, w => ⟨v, vs, rfl, w.hold v (.val d) (m _ List.mem_cons_self), vals_rel (Nat.succ.inj l) (fun p hp => m p (List.mem_cons_of_mem _ hp)) w⟩
theorem owns_vals' : ∀ (vs : List V) (ds : List D), owns (vals vs ds) = []
  | [], _ => rfl
  | _ :: _, [] => rfl
  | v :: vs, d :: ds => by rw [vals_cons, owns_cons_val]; exact owns_vals' vs ds
theorem mz_vals {vs : List V} {ds : List D} : MZ F φ (vals vs ds ++ base) = MZ F φ base := by
  funext a
  unfold MZ
  rw [owns_append, owns_vals', List.nil_append]
theorem push_all : ∀ {ds : List D} {vs : List V}, Wf G F L φ h H base → RelDs G φ (MZ F φ base) H ds vs → Wf G F L φ h H (vals vs ds ++ base)
  | [], vs, w, r => by rw [RelDs.nil_iff.mp r]; exact w
  | d :: ds, _, w, r => by
    obtain ⟨v, t, e, r1, r2⟩ := RelDs.cons_iff.mp r
    subst e
    exact (push_all w r2).push (by rw [mz_vals]; exact r1)

/-! ### displays -/
theorem se_tup {evs : Env → Hh → Res (List R × Hh)} {Q : VK} (q : SE G W (fun ρ h => (evs ρ h).bind fun x => (ofO (optAll toD x.1)).bind fun ds => if ds.length ≤ 16777216 then .ok (.val (.tup ds), x.2) else .stuck) σ H Q) : tTup (SEs G W evs) σ H Q := by
  obtain ⟨F, L, ρ, hs, T, φ, h, sr, wf, af⟩ := q
  refine ses_in (A := []) sr wf af fun rs h1 af1 vs H1 φ1 wf1 rw1 => ?_
  obtain ⟨ds, ez, af2⟩ := af1.ofO
  have c : ds.length ≤ 16777216 := by
    by_cases c : ds.length ≤ 16777216
    · exact c
    · rw [if_neg c] at af2; exact af2.elim
  rw [if_pos c] at af2
  obtain ⟨w2, l⟩ := toD_all ez rw1 wf1
  refine ⟨by rw [l, sizeLine_eq]; exact c, fun p n => af2 (.ref p) _ φ1 ?_ True.intro⟩
  exact fin_tup w2 (List.sublist_append_right _ _) n (by rw [l]; exact c) (vals_rel l (fun p hp => List.mem_append_left _ hp) w2)
theorem se_lst {evs : Env → Hh → Res (List R × Hh)} {Q : VK} (q : SE G W (fun ρ h => (evs ρ h).bind fun x => (ofO (optAll toD x.1)).bind fun ds => if ds.length ≤ 16777216 then .ok (.fr (.lst ds), x.2) else .stuck) σ H Q) : tLst (SEs G W evs) σ H Q := by
  obtain ⟨F, L, ρ, hs, T, φ, h, sr, wf, af⟩ := q
  refine ses_in (A := []) sr wf af fun rs h1 af1 vs H1 φ1 wf1 rw1 => ?_
  obtain ⟨ds, ez, af2⟩ := af1.ofO
  have c : ds.length ≤ 16777216 := by
    by_cases c : ds.length ≤ 16777216
    · exact c
    · rw [if_neg c] at af2; exact af2.elim
  rw [if_pos c] at af2
  obtain ⟨w2, l⟩ := toD_all ez rw1 wf1
  refine ⟨by rw [l, sizeLine_eq]; exact c, fun p n => af2 (.ref p) _ φ1 ?_ True.intro⟩
  exact fin_lst w2 (List.sublist_append_right _ _) n (by rw [l]; exact c) (vals_rel l (fun p hp => List.mem_append_left _ hp) w2)
theorem ses_nil {Q : List V → Hp → Prop} (q : SEs G W (fun _ h => .ok ([], h)) σ H Q) : tNil σ H Q := by
  obtain ⟨F, L, ρ, hs, T, φ, h, sr, wf, af⟩ := q
  exact af [] H φ wf .nil
theorem ses_cons {ea : Env → Hh → Res (R × Hh)} {eb : Env → Hh → Res (List R × Hh)} {Q : List V → Hp → Prop} (q : SEs G W (fun ρ h => (ea ρ h).bind fun x => (eb ρ x.2).bind fun y => .ok (x.1 :: y.1, y.2)) σ H Q) :
    tCons (SE G W ea) (SEs G W eb) σ H Q := by
  obtain ⟨F, L, ρ, hs, T, φ, h, sr, wf, af⟩ := q
  refine se_in (A := []) sr wf af fun a h1 af1 x H1 φ1 wf1 rw1 => ?_
  refine ses_in (A := rh x a) sr wf1 af1 fun b h2 af2 y H2 φ2 wf2 rw2 => ?_
  refine af2 (x :: y) H2 φ2 (wf2.perm ?_) (.cons rw1 rw2)
  show (rhs y b ++ (rh x a ++ (hs ++ T))).Perm (rh x a ++ rhs y b ++ (hs ++ T))
  rw [← List.append_assoc]
  exact List.Perm.append_right _ List.perm_append_comm

/-! ### tests -/
theorem st_in {β : Type} {ev : Env → Hh → Res (Bool × Hh)} {k : Bool × Hh → Res (β × Hh)} {okB : β → Hh → Prop} {Q : Bool → Hp → Prop} (sr : SR ρ σ hs) (wf : Wf G F L φ h H (A ++ (hs ++ T))) (af : Aft okB (AftX G W F L hs T σ) ((ev ρ h).bind k))
    (hk : ∀ r h', Aft okB (AftX G W F L hs T σ) (k (r, h')) → ∀ H' φ', Wf G F L φ' h' H' (A ++ (hs ++ T)) → Q r H') : ST G W ev σ H Q :=
  ⟨F, L, ρ, hs, A ++ T, φ, h, sr, wf.perm perm_in, af.bind (fun r h' a H' φ' w => hk r h' a H' φ' (w.perm perm_in.symm)) fun _ _ a => a.weak⟩
theorem evT_bl {o : Option Bool} {h : Hh} : ((ofO o).bind fun z => (.ok (.val (.bl z), h) : Res (R × Hh))).bind (fun x => (ofO (truR ρ x.2 x.1)).bind fun k => .ok (k, x.2)) = (ofO o).bind fun z => .ok (z, h) := by cases o <;> rfl
theorem st_bin {ea eb : Env → Hh → Res (R × Hh)} {op : Env → Hh → R → R → Option Bool} {Q : Bool → Hp → Prop} {H : Hp}
    (q : ST G W (evT fun ρ h => (ea ρ h).bind fun x => (eb ρ x.2).bind fun y => (ofO (op ρ y.2 x.1 y.1)).bind fun z => .ok (.val (.bl z), y.2)) σ H Q) : tTest (tOp (rD2 G fun ρ h a b => (op ρ h a b).map fun z => .val (.bl z)) (SE G W ea) (SE G W eb)) σ H Q := by
  obtain ⟨F, L, ρ, hs, T, φ, h, sr, wf, af⟩ := q
  unfold evT at af
  rw [Res.bind_assoc] at af
  refine se_in (A := []) sr wf af fun a h1 af1 x H1 φ1 wf1 rw1 => ?_
  dsimp only at af1
  rw [Res.bind_assoc] at af1
  refine se_in (A := rh x a) sr wf1 af1 fun b h2 af2 y H2 φ2 wf2 rw2 => ?_
  rw [evT_bl] at af2
  obtain ⟨z, ez, af3⟩ := af2.ofO
  refine ⟨F, L, φ2, h2, ρ, hs, hs ++ T, _, a, b, .val (.bl z), wf2, sub_A, has2 rw1, has1 rw2, map_of ez, fun v H' φ' w' r' => ⟨z, w'.hold v (.val (.bl z)) List.mem_cons_self, af3 H' φ' w'.drop⟩⟩
theorem evT_not {ea : Env → Hh → Res (R × Hh)} : evT (fun ρ h => (ea ρ h).bind fun x => (ofO (truR ρ x.2 x.1)).bind fun k => .ok (.val (.bl (!k)), x.2)) ρ h = (evT ea ρ h).bind fun y => .ok (!y.1, y.2) := by
  unfold evT
  rw [Res.bind_assoc, Res.bind_assoc]
  congr 1
  funext x
  rw [Res.bind_assoc, Res.bind_assoc]
  rfl
theorem st_not {ea : Env → Hh → Res (R × Hh)} {Q : Bool → Hp → Prop} (q : ST G W (evT fun ρ h => (ea ρ h).bind fun x => (ofO (truR ρ x.2 x.1)).bind fun k => .ok (.val (.bl (!k)), x.2)) σ H Q) : tNot (ST G W (evT ea)) σ H Q := by
  obtain ⟨F, L, ρ, hs, T, φ, h, sr, wf, af⟩ := q
  rw [evT_not] at af
  exact st_in (A := []) sr wf af fun k h1 af1 H1 φ1 wf1 => af1 H1 φ1 wf1
theorem se_not {ea : Env → Hh → Res (R × Hh)} {Q : VK} (q : SE G W (fun ρ h => (ea ρ h).bind fun x => (ofO (truR ρ x.2 x.1)).bind fun k => .ok (.val (.bl (!k)), x.2)) σ H Q) : tNotT G.K (SE G W ea) σ H Q := by
  obtain ⟨F, L, ρ, hs, T, φ, h, sr, wf, af⟩ := q
  refine se_in (A := []) sr wf af fun a h1 af1 x H1 φ1 wf1 rw1 => ?_
  obtain ⟨z, ez, af3⟩ := af1.ofO
  exact ⟨z, Has.tru wf1 (has1 rw1) ez, end_bl wf1 (List.sublist_append_right _ _) fun v H' φ' w' r' => af3 v H' φ' w' r'⟩
/-- by a test, the one or the other -/
theorem se_if {ec ea eb : Env → Hh → Res (R × Hh)} {Q : VK} (q : SE G W (fun ρ h => (ec ρ h).bind fun x => (ofO (truR ρ x.2 x.1)).bind fun k => match k with
    | true => ea ρ x.2
    | false => eb ρ x.2) σ H Q) : tIf (ST G W (evT ec)) (SE G W ea) (SE G W eb) σ H Q := by
  obtain ⟨F, L, ρ, hs, T, φ, h, sr, wf, af⟩ := q
  have e : ((ec ρ h).bind fun x => (ofO (truR ρ x.2 x.1)).bind fun k => match k with
    | true => ea ρ x.2
    | false => eb ρ x.2) = (evT ec ρ h).bind fun y => match y.1 with
    | true => ea ρ y.2
    | false => eb ρ y.2 := by
    unfold evT
    rw [Res.bind_assoc]
    congr 1
    funext x
    rw [Res.bind_assoc]; rfl
  dsimp only at af
  rw [e] at af
  refine st_in (A := []) sr wf af fun k h1 af1 H1 φ1 wf1 => ?_
  cases k with
  | true => exact ⟨F, L, ρ, hs, T, φ1, h1, sr, wf1, af1⟩
  | false => exact ⟨F, L, ρ, hs, T, φ1, h1, sr, wf1, af1⟩
end
end An

namespace An
open PySem L2

section
variable {G : GX} {W : WX} {F : FX} {L : List (Addr × Obj)} {ρ : Env} {hs T A base all : List (V × Sl)} {σ : L2.St} {φ φ' : List Addr} {h h' : Hh} {H H' : Hp} {M : Addr → Prop}
/-! ### and, or -/
def eAnd (ea eb : Env → Hh → Res (R × Hh)) : Env → Hh → Res (R × Hh) := fun ρ h => (ea ρ h).bind fun x => (ofO (truR ρ x.2 x.1)).bind fun k => match k with
  | true => eb ρ x.2
  | false => .ok (x.1, x.2)
def eOr (ea eb : Env → Hh → Res (R × Hh)) : Env → Hh → Res (R × Hh) := fun ρ h => (ea ρ h).bind fun x => (ofO (truR ρ x.2 x.1)).bind fun k => match k with
  | true => .ok (x.1, x.2)
  | false => eb ρ x.2
theorem se_and {ea eb : Env → Hh → Res (R × Hh)} {Q : VK} (q : SE G W (eAnd ea eb) σ H Q) : tAndT G.K (SE G W ea) (SE G W eb) σ H Q := by
  obtain ⟨F, L, ρ, hs, T, φ, h, sr, wf, af⟩ := q
  refine se_in (A := []) sr wf af fun a h1 af1 x H1 φ1 wf1 rw1 => ?_
  obtain ⟨z, ez, af3⟩ := af1.ofO
  refine ⟨z, Has.tru wf1 (has1 rw1) ez, ?_⟩
  cases z with
  | true => exact ⟨F, L, ρ, hs, T, φ1, h1, sr, wf1.sub (List.sublist_append_right _ _), af3⟩
  | false => exact af3 x H1 φ1 wf1 rw1
theorem se_or {ea eb : Env → Hh → Res (R × Hh)} {Q : VK} (q : SE G W (eOr ea eb) σ H Q) : tOrT G.K (SE G W ea) (SE G W eb) σ H Q := by
  obtain ⟨F, L, ρ, hs, T, φ, h, sr, wf, af⟩ := q
  refine se_in (A := []) sr wf af fun a h1 af1 x H1 φ1 wf1 rw1 => ?_
  obtain ⟨z, ez, af3⟩ := af1.ofO
  refine ⟨z, Has.tru wf1 (has1 rw1) ez, ?_⟩
  cases z with
  | true => exact af3 x H1 φ1 wf1 rw1
  | false => exact ⟨F, L, ρ, hs, T, φ1, h1, sr, wf1.sub (List.sublist_append_right _ _), af3⟩
theorem evT_and {ea eb : Env → Hh → Res (R × Hh)} : evT (eAnd ea eb) ρ h = (evT ea ρ h).bind fun y => match y.1 with
    | true => evT eb ρ y.2
    | false => .ok (false, y.2) := by
  unfold evT eAnd
  rw [Res.bind_assoc, Res.bind_assoc]
  congr 1
  funext x
  rw [Res.bind_assoc, Res.bind_assoc]
  cases q : truR ρ x.2 x.1 with
  | none => rfl
  | some k => cases k with
    | true => rfl
    | false =>
      show (ofO (truR ρ x.2 x.1)).bind _ = _
      rw [q]; rfl
theorem evT_or {ea eb : Env → Hh → Res (R × Hh)} : evT (eOr ea eb) ρ h = (evT ea ρ h).bind fun y => match y.1 with
    | true => .ok (true, y.2)
    | false => evT eb ρ y.2 := by
  unfold evT eOr
  rw [Res.bind_assoc, Res.bind_assoc]
  congr 1
  funext x
  rw [Res.bind_assoc, Res.bind_assoc]
  cases q : truR ρ x.2 x.1 with
  | none => rfl
  | some k => cases k with
    | false => rfl
    | true =>
      show (ofO (truR ρ x.2 x.1)).bind _ = _
      rw [q]; rfl
theorem st_and {ea eb : Env → Hh → Res (R × Hh)} {Q : Bool → Hp → Prop} (q : ST G W (evT (eAnd ea eb)) σ H Q) : tAnd (ST G W (evT ea)) (ST G W (evT eb)) σ H Q := by
  obtain ⟨F, L, ρ, hs, T, φ, h, sr, wf, af⟩ := q
  rw [evT_and] at af
  refine st_in (A := []) sr wf af fun k h1 af1 H1 φ1 wf1 => ?_
  cases k with
  | true => exact ⟨F, L, ρ, hs, T, φ1, h1, sr, wf1, af1⟩
  | false => exact af1 H1 φ1 wf1
theorem st_or {ea eb : Env → Hh → Res (R × Hh)} {Q : Bool → Hp → Prop} (q : ST G W (evT (eOr ea eb)) σ H Q) : tOr (ST G W (evT ea)) (ST G W (evT eb)) σ H Q := by
  obtain ⟨F, L, ρ, hs, T, φ, h, sr, wf, af⟩ := q
  rw [evT_or] at af
  refine st_in (A := []) sr wf af fun k h1 af1 H1 φ1 wf1 => ?_
  cases k with
  | true => exact af1 H1 φ1 wf1
  | false => exact ⟨F, L, ρ, hs, T, φ1, h1, sr, wf1, af1⟩
/-- a test by a test -/
theorem st_if {ec ea eb : Env → Hh → Res (R × Hh)} {Q : Bool → Hp → Prop} (q : ST G W (evT fun ρ h => (ec ρ h).bind fun x => (ofO (truR ρ x.2 x.1)).bind fun k => match k with
    | true => ea ρ x.2
    | false => eb ρ x.2) σ H Q) : ST G W (evT ec) σ H fun c H1 => if c = true then ST G W (evT ea) σ H1 Q else ST G W (evT eb) σ H1 Q := by
  obtain ⟨F, L, ρ, hs, T, φ, h, sr, wf, af⟩ := q
  have e : evT (fun ρ h => (ec ρ h).bind fun x => (ofO (truR ρ x.2 x.1)).bind fun k => match k with
    | true => ea ρ x.2
    | false => eb ρ x.2) ρ h = (evT ec ρ h).bind fun y => match y.1 with
    | true => evT ea ρ y.2
    | false => evT eb ρ y.2 := by
    unfold evT
    rw [Res.bind_assoc, Res.bind_assoc]
    congr 1
    funext x
    rw [Res.bind_assoc, Res.bind_assoc]
    cases q : truR ρ x.2 x.1 with
    | none => rfl
    | some k => cases k <;> rfl
  rw [e] at af
  refine st_in (A := []) sr wf af fun k h1 af1 H1 φ1 wf1 => ?_
  cases k with
  | true => exact ⟨F, L, ρ, hs, T, φ1, h1, sr, wf1, af1⟩
  | false => exact ⟨F, L, ρ, hs, T, φ1, h1, sr, wf1, af1⟩

/-! ### chains -/
def chnB (ea eb ec : Env → Hh → Res (R × Hh)) (p p' : Env → Hh → R → R → Option Bool) : Env → Hh → Res (Bool × Hh) := fun ρ h =>
  (ea ρ h).bind fun x => (eb ρ x.2).bind fun y => (ofO (p ρ y.2 x.1 y.1)).bind fun k => match k with
    | false => .ok (false, y.2)
    | true => (ec ρ y.2).bind fun z => (ofO (p' ρ z.2 y.1 z.1)).bind fun k' => .ok (k', z.2)
theorem chn_core {ea eb ec : Env → Hh → Res (R × Hh)} {p p' : Env → Hh → R → R → Option Bool} {Q : VK} {okB : Bool → Hh → Prop} (sr : SR ρ σ hs) (wf : Wf G F L φ h H (hs ++ T)) (af : Aft okB (AftX G W F L hs T σ) (chnB ea eb ec p p' ρ h))
    (hk : ∀ k h', okB k h' → ∀ H' φ', Wf G F L φ' h' H' (hs ++ T) → Q (.bl k) H') :
    tChain (rD2 G fun ρ h a b => (p ρ h a b).map fun z => .val (.bl z)) (rD2 G fun ρ h a b => (p' ρ h a b).map fun z => .val (.bl z)) (SE G W ea) (SE G W eb) (SE G W ec) σ H Q := by
  refine se_in (A := []) sr wf af fun a h1 af1 x H1 φ1 wf1 rw1 => ?_
  refine se_in (A := rh x a) sr wf1 af1 fun b h2 af2 y H2 φ2 wf2 rw2 => ?_
  obtain ⟨z, ez, af3⟩ := af2.ofO
  refine ⟨F, L, φ2, h2, ρ, hs, _, _, a, b, .val (.bl z), wf2, List.Sublist.refl _, has2 rw1, has1 rw2, map_of ez, fun v H3 φ3 w3 _ => ⟨z, w3.hold v (.val (.bl z)) List.mem_cons_self, ?_⟩⟩
  have w4 := w3.drop
  cases z with
  | false => exact hk false h2 af3 H3 φ3 (w4.sub sub_A)
  | true =>
    have w5 : Wf G F L φ3 h2 H3 ((rh y b ++ rh x a) ++ (hs ++ T)) := by rw [List.append_assoc]; exact w4
    refine se_in (A := rh y b ++ rh x a) sr w5 af3 fun c h4 af4 w H4 φ4 wf4 rw4 => ?_
    obtain ⟨z', ez', af5⟩ := af4.ofO
    refine ⟨F, L, φ4, h4, ρ, hs, hs ++ T, _, b, c, .val (.bl z'), wf4, sub_A, ?_, has1 rw4, map_of ez', fun v H' φ' w' _ => ?_⟩
    · rw [List.append_assoc]
      exact Has.of rw2 (fun u hu => List.mem_append_right _ (List.mem_append_left _ hu)) fun u hu => List.mem_append_right _ (List.mem_append_right _ (List.mem_append_right _ (List.mem_append_left _ hu)))
    · have e : v = .bl z' := w'.hold v (.val (.bl z')) List.mem_cons_self
      rw [e]
      exact hk z' h4 af5 H' φ' w'.drop
def chnR (ea eb ec : Env → Hh → Res (R × Hh)) (p p' : Env → Hh → R → R → Option Bool) : Env → Hh → Res (R × Hh) := fun ρ h =>
  (ea ρ h).bind fun x => (eb ρ x.2).bind fun y => (ofO (p ρ y.2 x.1 y.1)).bind fun k => match k with
    | false => .ok (.val (.bl false), y.2)
    | true => (ec ρ y.2).bind fun z => (ofO (p' ρ z.2 y.1 z.1)).bind fun k' => .ok (.val (.bl k'), z.2)
theorem chnR_eq {ea eb ec : Env → Hh → Res (R × Hh)} {p p' : Env → Hh → R → R → Option Bool} : chnR ea eb ec p p' ρ h = (chnB ea eb ec p p' ρ h).bind fun k => .ok (.val (.bl k.1), k.2) := by
  unfold chnR chnB
  rw [Res.bind_assoc]
  congr 1
  funext x
  rw [Res.bind_assoc]
  congr 1
  funext y
  rw [Res.bind_assoc]
  congr 1
  funext k
  cases k with
  | false => rfl
  | true =>
    show (ec ρ y.2).bind _ = Res.bind ((ec ρ y.2).bind _) _
    rw [Res.bind_assoc]
    congr 1
    funext z
    rw [Res.bind_assoc]
    rfl
theorem se_chn {ea eb ec : Env → Hh → Res (R × Hh)} {p p' : Env → Hh → R → R → Option Bool} {Q : VK} (q : SE G W (chnR ea eb ec p p') σ H Q) :
    tChain (rD2 G fun ρ h a b => (p ρ h a b).map fun z => .val (.bl z)) (rD2 G fun ρ h a b => (p' ρ h a b).map fun z => .val (.bl z)) (SE G W ea) (SE G W eb) (SE G W ec) σ H Q := by
  obtain ⟨F, L, ρ, hs, T, φ, h, sr, wf, af⟩ := q
  rw [chnR_eq] at af
  exact chn_core (okB := fun k h' => OkR G F L ρ hs T Q (.val (.bl k)) h') sr wf (af.bind (fun a h' z => z) fun _ _ z => z) fun k h' ok H' φ' w' => ok _ H' φ' (w'.push rfl) True.intro
theorem st_chn {ea eb ec : Env → Hh → Res (R × Hh)} {p p' : Env → Hh → R → R → Option Bool} {Q : Bool → Hp → Prop} (q : ST G W (evT (chnR ea eb ec p p')) σ H Q) :
    tTest (tChain (rD2 G fun ρ h a b => (p ρ h a b).map fun z => .val (.bl z)) (rD2 G fun ρ h a b => (p' ρ h a b).map fun z => .val (.bl z)) (SE G W ea) (SE G W eb) (SE G W ec)) σ H Q := by
  obtain ⟨F, L, ρ, hs, T, φ, h, sr, wf, af⟩ := q
  have e : evT (chnR ea eb ec p p') ρ h = chnB ea eb ec p p' ρ h := by
    unfold evT
    rw [chnR_eq, Res.bind_assoc]
    exact Res.bind_ok _
  rw [e] at af
  exact chn_core sr wf af fun k h' ok H' φ' w' => ⟨k, rfl, ok H' φ' w'⟩

/-! ### slices, methods -/
theorem so_nil {Q : Option Int → Hp → Prop} (q : SO G W (fun _ h => .ok (none, h)) σ H Q) : tNoPart σ H Q := by
  obtain ⟨F, L, ρ, hs, T, φ, h, sr, wf, af⟩ := q
  exact af H φ wf
theorem so_some {ea : Env → Hh → Res (R × Hh)} {Q : Option Int → Hp → Prop} (q : SO G W (fun ρ h => (ea ρ h).bind fun x => (ofO (intOf x.1)).bind fun i => .ok (some i, x.2)) σ H Q) : tPart (SE G W ea) σ H Q := by
  obtain ⟨F, L, ρ, hs, T, φ, h, sr, wf, af⟩ := q
  refine se_in (A := []) sr wf af fun a h1 af1 x H1 φ1 wf1 rw1 => ?_
  obtain ⟨z, ez, af3⟩ := af1.ofO
  exact ⟨z, Has.int wf1 (has1 rw1) ez, af3 H1 φ1 (wf1.sub (List.sublist_append_right _ _))⟩
theorem se_sl {ea : Env → Hh → Res (R × Hh)} {el eh : Env → Hh → Res (Option Int × Hh)} {Q : VK} (q : SE G W (fun ρ h => (ea ρ h).bind fun x => (el ρ x.2).bind fun y => (eh ρ y.2).bind fun z => (ofO (slR ρ z.2 x.1 y.1 z.1)).bind fun r => .ok (r, z.2)) σ H Q) :
    tSl (rD3 G) (SE G W ea) (SO G W el) (SO G W eh) σ H Q := by
  obtain ⟨F, L, ρ, hs, T, φ, h, sr, wf, af⟩ := q
  refine se_in (A := []) sr wf af fun a h1 af1 x H1 φ1 wf1 rw1 => ?_
  refine so_in (A := rh x a) sr wf1 af1 fun lo h2 af2 H2 φ2 wf2 => ?_
  refine so_in (A := rh x a) sr wf2 af2 fun hi h3 af3 H3 φ3 wf3 => ?_
  obtain ⟨z, ez, af4⟩ := af3.ofO
  exact ⟨F, L, φ3, h3, ρ, hs, hs ++ T, _, a, z, wf3, List.sublist_append_right _ _, has1 (A := []) rw1, ez, fun v H' φ' w' r' => af4 v H' φ' w' r'⟩
theorem se_join {eo : Env → Hh → Res (R × Hh)} {es : Env → Hh → Res (List R × Hh)} {Q : VK} (q : SE G W (fun ρ h => (eo ρ h).bind fun x => (ofO (rcvR .join x.1)).bind fun _ => (es ρ x.2).bind fun y => (ofO (mtR ρ y.2 .join x.1 y.1)).bind fun z => .ok (z, y.2)) σ H Q) :
    tBM G.K "str" (rJn G) (SE G W eo) (SEs G W es) σ H Q := by
  obtain ⟨F, L, ρ, hs, T, φ, h, sr, wf, af⟩ := q
  refine se_in (A := []) sr wf af fun a h1 af1 x H1 φ1 wf1 rw1 => ?_
  obtain ⟨u, eu, af1⟩ := af1.ofO
  obtain ⟨t, et, _⟩ := Option.map_eq_some_iff.mp (show (strOf a).map (fun _ => ()) = some u from eu)
  refine ⟨by rw [(Has.str wf1 (has1 rw1) et).1]; rfl, ?_⟩
  refine ses_in (A := rh x a) sr wf1 af1 fun b h2 af2 y H2 φ2 wf2 rw2 => ?_
  obtain ⟨z, ez, af3⟩ := af2.ofO
  match b, ez, rw2, wf2 with
  | [b], ez, .cons (b := w) rw3 .nil, wf2 =>
    have wf3 : Wf G F L φ2 h2 H2 (rh w b ++ (rh x a ++ (hs ++ T))) := by
      have e : rhs [w] [b] = rh w b := List.append_nil _
      rw [← e]; exact wf2
    exact ⟨w, rfl, F, L, φ2, h2, ρ, hs, hs ++ T, _, a, b, z, wf3, sub_A, has2 rw1, has1 rw3, ez, fun v H' φ' w' r' => af3 v H' φ' w' r'⟩
  | [], ez, _, _ => cases ez
  | _ :: _ :: _, ez, _, _ => cases ez

/-! ### names -/
theorem se_var {i : Nat} {Q : VK} {call : Nat → List D → List (Str × D) → Hh → Res (D × Hh)} (q : SE G W (evE call (.var i)) σ H Q) : tVar i σ H Q := by
  obtain ⟨F, L, ρ, hs, T, φ, h, sr, wf, af⟩ := q
  have af' : Aft (OkR G F L ρ hs T Q) (AftX G W F L hs T σ) (match ρ[i]? with
    | some (.val d) => .ok (.val d, h)
    | _ => .stuck : Res (R × Hh)) := af
  match e : ρ[i]? with
  | some (.val d) =>
    rw [e] at af'
    obtain ⟨v, e1, m⟩ := sr.get e (fun z => nomatch z)
    exact ⟨v, e1, af' v H φ (wf.push (wf.hold v (.val d) (List.mem_append_left _ m))) True.intro⟩
  | some .none => rw [e] at af'; exact af'.elim
  | some (.own c) => rw [e] at af'; exact af'.elim
  | none => rw [e] at af'; exact af'.elim
theorem se_pk {i : Nat} {Q : VK} {call : Nat → List D → List (Str × D) → Hh → Res (D × Hh)} (q : SE G W (evE call (.pk i)) σ H Q) : tVar i σ H Q := by
  obtain ⟨F, L, ρ, hs, T, φ, h, sr, wf, af⟩ := q
  have af' : Aft (OkR G F L ρ hs T Q) (AftX G W F L hs T σ) (match ρ[i]? with
    | some (.own _) => .ok (.vw i, h)
    | _ => .stuck : Res (R × Hh)) := af
  match e : ρ[i]? with
  | some (.own c) =>
    rw [e] at af'
    obtain ⟨v, e1, m⟩ := sr.get e (fun z => nomatch z)
    exact ⟨v, e1, af' v H φ wf ⟨c, e, m⟩⟩
  | some .none => rw [e] at af'; exact af'.elim
  | some (.val d) => rw [e] at af'; exact af'.elim
  | none => rw [e] at af'; exact af'.elim
theorem se_cst {d : D} {v : V} {Q : VK} (r : ∀ φ M H, RelD G φ M H d v) (q : SE G W (fun _ h => .ok (.val d, h)) σ H Q) : tC v σ H Q := by
  obtain ⟨F, L, ρ, hs, T, φ, h, sr, wf, af⟩ := q
  exact af v H φ (wf.push (r φ _ H)) True.intro
end
end An

namespace An
open PySem L2

section
variable {G : GX} {W : WX} {F : FX} {L : List (Addr × Obj)} {ρ : Env} {hs T A base all : List (V × Sl)} {σ : L2.St} {φ φ' : List Addr} {h h' : Hh} {H H' : Hp} {M : Addr → Prop}
theorem RelDs.paired : ∀ {ds : List D} {vs : List V}, RelDs G φ M H ds vs → PySem.Paired (RelD G φ M H) ds vs
  | [], _, r => by rw [RelDs.nil_iff.mp r]; exact .nil
  | d :: ds, _, r => by
    obtain ⟨v, t, e, r1, r2⟩ := RelDs.cons_iff.mp r
    rw [e]; exact .cons r1 r2.paired
theorem RelDs.of_paired : ∀ {ds : List D} {vs : List V}, PySem.Paired (RelD G φ M H) ds vs → RelDs G φ M H ds vs
  | _, _, .nil => rfl
  | _, _, .cons r t => ⟨_, _, rfl, r, RelDs.of_paired t⟩
theorem paired_zip {α β : Type} {Rl : α → β → Prop} : ∀ (ks : List Str) {a : List α} {b : List β}, PySem.Paired Rl a b → PySem.Paired (fun p q => p.1 = q.1 ∧ Rl p.2 q.2) (ks.zip a) (ks.zip b)
  | [], _, _, _ => .nil
  | _ :: _, _, _, .nil => .nil
  | k :: ks, _, _, .cons r t => .cons ⟨rfl, r⟩ (paired_zip ks t)
theorem optAll_len {α β : Type} {f : α → Option β} : ∀ {l : List α} {r : List β}, optAll f l = some r → r.length = l.length
  | [], _, e => by cases e; rfl
  | x :: xs, r, e => by
    obtain ⟨y, zs, _, e2, e3⟩ := optAll_cons e
    rw [e3, List.length_cons, List.length_cons, optAll_len e2]
theorem bindG_len {α : Type} {ps : List Str} {d k : List (Str × α)} {us r : List α} (e : bindG ps d us k = some r) : r.length = ps.length := by
  unfold bindG at e
  obtain ⟨c, e⟩ := ite_some' e
  obtain ⟨t, e1, e2⟩ := Option.map_eq_some_iff.mp e
  subst e2
  rw [List.length_append, optAll_len e1, List.length_drop]
  omega

theorem Aft.bindE {α β : Type} {m : Res (α × Hh)} {k : α × Hh → Res (β × Hh)} {okA : α → Hh → Prop} {okB : β → Hh → Prop} {er er' : D → Hh → Prop} (af : Aft okB er (m.bind k))
    (hk : ∀ a h', m = .ok (a, h') → Aft okB er (k (a, h')) → okA a h') (he : ∀ x h', er x h' → er' x h') : Aft okA er' m := by
  cases m with
  | ok x => exact hk x.1 x.2 rfl af
  | err x h => exact he x h af
  | stuck => exact af
theorem ses_inE {β : Type} {ev : Env → Hh → Res (List R × Hh)} {k : List R × Hh → Res (β × Hh)} {okB : β → Hh → Prop} {Q : List V → Hp → Prop} (sr : SR ρ σ hs) (wf : Wf G F L φ h H (A ++ (hs ++ T))) (af : Aft okB (AftX G W F L hs T σ) ((ev ρ h).bind k))
    (hk : ∀ r h', ev ρ h = .ok (r, h') → Aft okB (AftX G W F L hs T σ) (k (r, h')) → ∀ v H' φ', Wf G F L φ' h' H' (rhs v r ++ (A ++ (hs ++ T))) → RWs ρ hs r v → Q v H') : SEs G W ev σ H Q :=
  ⟨F, L, ρ, hs, A ++ T, φ, h, sr, wf.perm perm_in, af.bindE (fun r h' ee a v H' φ' w rw => hk r h' ee a v H' φ' (w.perm perm_ev) rw) fun _ _ a => a.weak⟩
section
variable {X : Cx} {pins : List (Addr × Obj)} {s : Shared}
/-- the callee runs -/
theorem run_fnG {lvl : Nat} {a : Addr} {fd : FuncData} {ps : List Str} {sp : Sp} {us rv : List Value} {kw : List (Str × Value)} {r : List V} {Q : VK} (Fn : FnG X.prog X.w X.K X.mg X.base lvl a fd ps sp) (hr : Room lvl X.A) (hg : X.A.guards = some []) (tk : Takes X W)
    (I : L2.Inv X pins σ H s) (hb : BindsTo s fd ⟨us, kw⟩ (ps.zip rv)) (vr : Vals r rv) (k : sp r H Q (fun cls d H' => W cls d σ H')) : wpAny (model X.prog X.w) X.A (call (.ref a) us kw) (EP X pins σ Q) X.xe s := by
  refine wpAny_call (codeAny_mono (Fn.run X.A X.stack s H ⟨us, kw⟩ rv r Q _ hr hg I.env0 hb vr k) fun r s' hq => ?_)
  cases r with
  | error e => exact tk e s' (XE.of_call I (fun cls d H' h => h) hq)
  | ok fl =>
    cases fl with
    | ret u => exact I.after hq
    | next => exact False.elim hq
    | brk => exact False.elim hq
    | cont => exact False.elim hq
/-- .. with the values that stand here -/
theorem call_go {lvl : Nat} {y : Str} {shs : List (Nat × List Str)} {cf : List D → List (Str × D) → Hh → Res (D × Hh)} (c : Callee G X.prog X.w X.K X.mg X.base lvl y shs cf) : ∃ a, X.mg y = some (.ref a) ∧ PySem.W.keepIn X.K (.ref a) = true ∧
    ∀ {pins : List (Addr × Obj)} {s : Shared} {F : FX} {L : List (Addr × Obj)} {ρ : Env} {hs T : List (V × Sl)} {σ : L2.St} {φ : List Addr} {h : Hh} {H : Hp} {vs zs : List V} {us ws : List Value} {ds kd : List D} {names : List Str} {Q : VK},
    Room lvl X.A → X.A.guards = some [] → Takes X W → L2.Inv X pins σ H s → Vals vs us → Vals zs ws → (us.length, names) ∈ shs → ws.length = names.length → vs.length = ds.length → zs.length = kd.length → SR ρ σ hs →
    Wf G F L φ h H (vals zs kd ++ (vals vs ds ++ (hs ++ T))) → Aft (OkR G F L ρ hs T Q) (AftX G W F L hs T σ) ((cf ds (names.zip kd) h).bind fun z => .ok (.val z.1, z.2)) →
    wpAny (model X.prog X.w) X.A (call (.ref a) us (names.zip ws)) (EP X pins σ Q) X.xe s := by
  obtain ⟨a, fd, ps, dD, dV, dU, run, hm, hk, Fn, hcf, hd1, hd2, hsh⟩ := c.ex
  refine ⟨a, hm, hk, fun {pins s F L ρ hs T σ φ h H vs zs us ws ds kd names Q} hr hg tk I ru rw sh lw l1 l2 sr w af => ?_⟩
  rw [hcf, Res.bind_assoc] at af
  obtain ⟨rd, e1, af⟩ := af.ofO
  have sb : (hs ++ T).Sublist (vals zs kd ++ (vals vs ds ++ (hs ++ T))) := sub_A
  have t1 := (vals_rel l1 (fun p hp => List.mem_append_right _ (List.mem_append_left _ hp)) w).mono (stay_sub sb)
  have t2 := (vals_rel l2 (fun p hp => List.mem_append_left _ hp) w).mono (stay_sub sb)
  obtain ⟨r, e2, pr⟩ := bindG_rel (Rl := RelD G φ (MZ F φ (hs ++ T)) H) (Paired.mapP hd1 fun p q z => ⟨z.1, z.2 _ _ _⟩) (paired_zip names t2.paired) t1.paired e1
  obtain ⟨rv, e3, pv⟩ := bindG_rel (Rl := RelV) hd2 (paired_zip names rw) ru e2
  have wb := w.sub sb
  have wa := push_all wb (RelDs.of_paired pr)
  have en := wa.enter (owns_vals' r rd)
  refine run_fnG Fn hr hg tk I (hsh _ names sh s us ws rv I.kIn rfl lw e3) pv ⟨by rw [← pr.length]; exact bindG_len e1, φ, h, calZ F (hs ++ T), rd, pr.length.symm, en, ?_⟩
  cases q : run rd h with
  | stuck => rw [q] at af; exact af.elim
  | ok x =>
    rw [q] at af
    intro v H' φ' b
    exact af v H' φ' (wb.back b owns_cons_val) True.intro
  | err x h' =>
    rw [q] at af
    intro cls d H' φ' b rx
    have wk := wb.back b rfl
    refine af cls d H' φ' wk ?_
    obtain ⟨c, ns, fs, C, ex, ec, ecl, z⟩ := rx
    refine ⟨c, ns, fs, C, ex, ec, ecl, z.imp id ?_⟩
    rintro ⟨dd, fvs, e1, e2, e3, t⟩
    refine ⟨dd, fvs, e1, e2, e3, t.mono ⟨List.prefix_refl _, fun a m => .inl ?_, fun _ _ h _ => h⟩⟩
    rcases m with m | m | m
    · exact .inl m
    · exact .inr (.inl (.inl m))
    · exact .inr (.inl (.inr m))
theorem star_any {es : List Expr} {env : PySem.Env} {pos : Pos} (h : starEach es env = es.map fun e => (false, eval e env)) : (backTo pos (starEach es env)).any (·.1) = false := by
  rw [h]
  unfold backTo
  rw [List.map_map, List.any_map]
  refine List.any_eq_false.mpr fun e _ => ?_
  simp
theorem star_len (es : List Expr) (env : PySem.Env) : (starEach es env).length = es.length := by
  induction es with
  | nil => rfl
  | cons e es ih => cases e <;> (show (starEach es env).length + 1 = _; rw [ih]; rfl)
theorem star_tail {e : Expr} {es : List Expr} {env : PySem.Env} (h : starEach (e :: es) env = (e :: es).map fun e => (false, eval e env)) : starEach es env = es.map fun e => (false, eval e env) := by
  cases e <;> exact (List.cons.inj h).2
theorem pe_callG {lvl : Nat} {y : Str} {shs : List (Nat × List Str)} {cf : List D → List (Str × D) → Hh → Res (D × Hh)} {p pos : Pos} {xs : List Expr} {kws : List Keyword} {es ek : Env → Hh → Res (List R × Hh)} {names : List Str} (c : Callee G X.prog X.w X.K X.mg X.base lvl y shs cf)
    (hr : Room lvl X.A) (hgd : X.A.guards = some []) (tk : Takes X W) (hg : Gl X y) (hdb : (y == ("__debug__" : Str)) = false) (sh : (xs.length, names) ∈ shs)
    (hst : starEach xs X.env = xs.map fun e => (false, eval e X.env)) (hall : (backToKw pos (keywordEach kws X.env)).all (·.1.isSome) = true) (hnone : (backToKw pos (keywordEach kws X.env)).any (·.1.isNone) = false) (hks : (backToKw pos (keywordEach kws X.env)).filterMap (·.1) = names)
    (l1 : ∀ ρ h x, es ρ h = .ok x → x.1.length = xs.length) (l2 : ∀ ρ h x, ek ρ h = .ok x → x.1.length = names.length)
    (l3 : xs = [] → es = fun _ h => .ok ([], h)) (l4 : kws = [] → ek = fun _ h => .ok ([], h))
    (ha : PA X xs (SEs G W es)) (hk : PK X kws (SEs G W ek)) :
    PE X (.Call (.Name y p) xs kws pos) (SE G W fun ρ h => (es ρ h).bind fun x => (ofO (optAll toD x.1)).bind fun ds => (ek ρ x.2).bind fun y => (ofO (optAll toD y.1)).bind fun kd => (cf ds (names.zip kd) y.2).bind fun z => .ok (.val z.1, z.2)) := by
  obtain ⟨a, hm, hkp, go⟩ := call_go (W := W) c
  refine ⟨fun pins s σ H Q I q => ?_⟩
  refine wpAny_Call_Name_kw (ld_glob I hg hm ?_ hdb)
  obtain ⟨F, L, ρ, hs, T, φ, h, sr, wf, af⟩ := q
  -- what is wanted behind the values, behind the keywords
  have q1 : SEs G W es σ H fun vs H1 => vs.length = xs.length ∧ SEs G W ek σ H1 fun zs H2 => zs.length = names.length ∧ ∃ ds kd φ2 h2, vs.length = ds.length ∧ zs.length = kd.length ∧ Wf G F L φ2 h2 H2 (vals zs kd ++ (vals vs ds ++ (hs ++ T))) ∧
      Aft (OkR G F L ρ hs T Q) (AftX G W F L hs T σ) ((cf ds (names.zip kd) h2).bind fun z => .ok (.val z.1, z.2)) := by
    refine ses_inE (A := []) sr wf af fun rs h1 ee af1 vs H1 φ1 wf1 rw1 => ⟨by rw [← rw1.length]; exact l1 ρ h _ ee, ?_⟩
    obtain ⟨ds, ed, af1⟩ := af1.ofO
    obtain ⟨w2, ld⟩ := toD_all ed rw1 wf1
    refine ses_inE (A := vals vs ds) sr w2 af1 fun rs h2 ee2 af2 zs H2 φ2 wf2 rw2 => ⟨by rw [← rw2.length]; exact l2 ρ h1 _ ee2, ?_⟩
    obtain ⟨kd, ek, af2⟩ := af2.ofO
    obtain ⟨w3, lk⟩ := toD_all ek rw2 wf2
    exact ⟨ds, kd, φ2, h2, ld, lk, w3, af2⟩
  have fin : ∀ {vs zs : List V} {us ws : List Value} {s2 : Shared} {H2 : Hp}, L2.Inv X pins σ H2 s2 → Vals vs us → Vals zs ws → vs.length = xs.length → (zs.length = names.length ∧ ∃ ds kd φ2 h2, vs.length = ds.length ∧ zs.length = kd.length ∧ Wf G F L φ2 h2 H2 (vals zs kd ++ (vals vs ds ++ (hs ++ T))) ∧
      Aft (OkR G F L ρ hs T Q) (AftX G W F L hs T σ) ((cf ds (names.zip kd) h2).bind fun z => .ok (.val z.1, z.2))) → wpAny (model X.prog X.w) X.A (call (.ref a) us (names.zip ws)) (EP X pins σ Q) X.xe s2 := by
    rintro vs zs us ws s2 H2 I2 ru rw lv ⟨lz, ds, kd, φ2, h2, ld, lk, w3, af2⟩
    exact go hr hgd tk I2 ru rw (by rw [← ru.length, lv]; exact sh) (by rw [← rw.length, lz]) ld lk sr w3 af2
  cases xs with
  | nil =>
    have q2 := l3 rfl
    subst q2
    obtain ⟨lv, q3⟩ := ses_nil q1
    cases kws with
    | nil =>
      have q4 := l4 rfl
      subst q4
      have en : names = [] := hks.symm
      subst en
      exact PySem.W.callWith_K0 I.kIn hkp (fin I .nil .nil lv (ses_nil q3))
    | cons kw kws =>
      refine PySem.W.callWith_KW0 (h₀ := X.base) I.ok.mod.kin hkp hall ?_ (by rw [hnone]; rfl)
      refine thn (hk.run pos pins s σ H _ I q3) fun ws s2 ⟨zs, H2, I2, rz, q4⟩ => ⟨I2.kIn, ?_⟩
      rw [hks]
      exact fin I2 .nil rz lv q4
  | cons e xs =>
    have hst' : starEach xs X.env = xs.map fun e => (false, eval e X.env) := star_tail hst
    have he : starEach (e :: xs) X.env = (false, eval e X.env) :: starEach xs X.env := by rw [hst, hst']; rfl
    cases kws with
    | nil =>
      have q4 := l4 rfl
      subst q4
      have en : names = [] := hks.symm
      subst en
      refine PySem.W.callWith_K (h₀ := X.base) I.ok.mod.kin hkp (thn (ha.run pos pins s σ H _ I q1) fun us s1 ⟨vs, H1, I1, r, lv, q3⟩ => ⟨I1.kIn, ?_⟩) he (star_any hst')
      exact fin I1 r .nil lv (ses_nil q3)
    | cons kw kws =>
      refine PySem.W.callWith_KW (h₀ := X.base) I.ok.mod.kin hkp hall (thn (ha.run pos pins s σ H _ I q1) fun us s1 ⟨vs, H1, I1, r, lv, q3⟩ => ?_) (by rw [star_any hst, hnone]; rfl) he
      refine thn (hk.run pos pins s1 σ H1 _ I1 q3) fun ws s2 ⟨zs, H2, I2, rz, q4⟩ => ⟨I2.kIn, ?_⟩
      rw [hks]
      exact fin I2 r rz lv q4
end
end
end An

namespace An
open PySem L2

theorem SR.forgetP : ∀ {ρ : Env} {σ : L2.St} {hs : List (V × Sl)} (i : Nat), SR ρ σ hs → ∃ hs' dr, hs.Perm (dr ++ hs') ∧ SR (ρ.set i .none) (σ.set i Option.none) hs'
  | _, _, _, _, .nil => ⟨[], [], List.Perm.refl _, .nil⟩
  | _, _, _, 0, .none t => ⟨_, [], List.Perm.refl _, .none t⟩
  | _, _, _, 0, .some (v := v) (s := s) _ t => ⟨_, [(v, s)], List.Perm.refl _, .none t⟩
  | _, _, _, i + 1, .none t => by
    obtain ⟨hs', dr, h1, h2⟩ := SR.forgetP i t
    exact ⟨hs', dr, h1, .none h2⟩
  | _, _, _, i + 1, .some n t => by
    obtain ⟨hs', dr, h1, h2⟩ := SR.forgetP i t
    exact ⟨_, dr, (h1.cons _).trans List.perm_middle.symm, .some n h2⟩
theorem SR.wipeP {ρ : Env} {σ : L2.St} {hs : List (V × Sl)} (t : SR ρ σ hs) : ∀ vs : List Nat, ∃ hs' dr, hs.Perm (dr ++ hs') ∧ SR (wipeR ρ vs) (L2.wipe σ vs) hs'
  | [] => ⟨hs, [], List.Perm.refl _, t⟩
  | v :: vs => by
    obtain ⟨h1, d1, s1, t1⟩ := SR.wipeP t vs
    obtain ⟨h2, d2, s2, t2⟩ := t1.forgetP v
    refine ⟨h2, d1 ++ d2, ?_, t2⟩
    rw [List.append_assoc]
    exact s1.trans (List.Perm.append_left _ s2)
theorem wipe_at (σ : L2.St) : ∀ (vs : List Nat) (j : Nat), (L2.wipe σ vs)[j]? = if j ∈ vs then (if j < σ.length then some none else none) else σ[j]?
  | [], j => by simp [L2.wipe]
  | v :: vs, j => by
    unfold L2.wipe
    by_cases e : v = j
    · subst e
      by_cases l : v < σ.length
      · rw [List.getElem?_set_self (by rw [wipe_length]; exact l)]; simp [l]
      · rw [List.getElem?_eq_none (by rw [List.length_set, wipe_length]; omega)]; simp [l]
    · rw [List.getElem?_set_ne e, wipe_at σ vs j]
      by_cases m : j ∈ vs
      · simp [m]
      · have e' : ¬ j = v := fun z => e z.symm
        simp [m, e']
theorem wipe_set {σ : L2.St} {vs : List Nat} {i : Nat} {x : Option V} (h : i ∈ vs) : L2.wipe (σ.set i x) vs = L2.wipe σ vs := by
  refine List.ext_getElem? fun j => ?_
  rw [wipe_at, wipe_at, List.length_set]
  by_cases m : j ∈ vs
  · simp [m]
  · have e : i ≠ j := fun e => m (e ▸ h)
    rw [if_neg m, if_neg m, List.getElem?_set_ne e]
theorem wipe_wipe {σ : L2.St} {vs : List Nat} : L2.wipe (L2.wipe σ vs) vs = L2.wipe σ vs := by
  refine List.ext_getElem? fun j => ?_
  rw [wipe_at, wipe_length, wipe_at]
  by_cases m : j ∈ vs
  · simp [m]
  · simp [m]

section
variable {G : GX} {W : WX} {F : FX} {L : List (Addr × Obj)} {ρ : Env} {hs T A B base all : List (V × Sl)} {σ : L2.St} {φ φ' : List Addr} {h h' : Hh} {H H' : Hp} {M : Addr → Prop} {X : Cx}
/-! ### targets -/
/-- a value is stored -/
theorem put_val {d : D} {v : V} (i : Nat) (sr : SR ρ σ hs) (w : Wf G F L φ h H (hs ++ T)) (r : RelD G φ (MZ F φ (hs ++ T)) H d v) :
    ∃ hs', SR (ρ.set i (.val d)) (σ.set i (some v)) hs' ∧ Wf G F L φ h H (hs' ++ T) ∧ ∀ e u, RelD G φ (MZ F φ (hs ++ T)) H e u → RelD G φ (MZ F φ (hs' ++ T)) H e u := by
  by_cases l : i < ρ.length
  · obtain ⟨rest, hs', sb, sr', pm⟩ := SR.set (s := .val d) (v := v) i sr l (fun z => nomatch z)
    have sb' : (rest ++ T).Sublist (hs ++ T) := sb.append (List.Sublist.refl _)
    have w1 := fin_val w sb' r
    have pm' : (hs' ++ T).Perm ((v, .val d) :: (rest ++ T)) := pm.append_right T
    refine ⟨hs', sr', w1.perm pm'.symm, fun e u k => ?_⟩
    rw [mz_perm pm', mz_val]
    exact k.mono (stay_sub sb')
  · rw [List.set_eq_of_length_le (by omega), List.set_eq_of_length_le (by rw [sr.length]; omega)]
    exact ⟨hs, sr, w, fun _ _ k => k⟩
def gList : List Nat → TGs
  | [] => gNil
  | i :: is => gCons (gName i) (gList is)
def gOf (K : PySem.W.Frag) : Tg → TG
  | .nm i => gName i
  | .tp is => gTup K is.length (gList is)
theorem gList_go {Q : L2.St → Hp → Prop} : ∀ (is : List Nat) {ds : List D} {vs : List V} {ρ : Env} {σ : L2.St} {hs : List (V × Sl)}, is.length = ds.length → SR ρ σ hs → Wf G F L φ h H (hs ++ T) → RelDs G φ (MZ F φ (hs ++ T)) H ds vs →
    (∀ σ' hs', SR ((is.zip ds).foldl (fun ρ p => ρ.set p.1 (.val p.2)) ρ) σ' hs' → Wf G F L φ h H (hs' ++ T) → (∀ ws, (∀ i ∈ is, i ∈ ws) → L2.wipe σ' ws = L2.wipe σ ws) → Q σ' H) → gList is vs σ H Q
  | [], [], vs, ρ, σ, hs, _, sr, w, r, k => ⟨r, k σ hs sr w fun _ _ => rfl⟩
  | i :: is, d :: ds, vs, ρ, σ, hs, l, sr, w, r, k => by
    obtain ⟨v, t, e, r1, r2⟩ := RelDs.cons_iff.mp r
    obtain ⟨hs', sr', w', mono⟩ := put_val i sr w r1
    refine ⟨v, t, e, gList_go is (Nat.succ.inj l) sr' w' ?_ fun σ' hs2 s2 w2 k2 => k σ' hs2 s2 w2 fun ws hw => ?_⟩
    · exact RelDs.of_paired (Paired.mapP r2.paired mono)
    · rw [k2 ws fun j hj => hw j (List.mem_cons_of_mem _ hj), wipe_set (hw i List.mem_cons_self)]
def tgIx : Tg → List Nat
  | .nm i => [i]
  | .tp is => is
theorem tg_go {tg : Tg} {d : D} {v : V} {ρ' : Env} {Q : L2.St → Hp → Prop} (hK : X.K = G.K) (e : setTg ρ tg d = some ρ') (sr : SR ρ σ hs) (w : Wf G F L φ h H (hs ++ T)) (r : RelD G φ (MZ F φ (hs ++ T)) H d v)
    (k : ∀ σ' hs', SR ρ' σ' hs' → Wf G F L φ h H (hs' ++ T) → (∀ ws, (∀ i ∈ tgIx tg, i ∈ ws) → L2.wipe σ' ws = L2.wipe σ ws) → Q σ' H) : gOf X.K tg v σ H Q := by
  cases tg with
  | nm i =>
    cases e
    obtain ⟨hs', sr', w', _⟩ := put_val i sr w r
    exact k _ hs' sr' w' fun ws hw => wipe_set (hw i List.mem_cons_self)
  | tp is =>
    cases d with
    | tup ds =>
      have e' : (if is.length = ds.length then some ((is.zip ds).foldl (fun ρ p => ρ.set p.1 (.val p.2)) ρ) else none) = some ρ' := e
      obtain ⟨c, e2⟩ := ite_some' e'
      cases e2
      obtain ⟨a, vs, ev, q, _, t⟩ := r
      exact ⟨a, vs, ev, by rw [hK]; exact sqT_of q, by rw [t.length, c], gList_go is c sr w t k⟩
    | _ => cases e
theorem chkNm_loc {k : Ck} {i : Nat} {x : Str} (c : chkNm k i x = true) : k.N[i]? = some x ∧ Loc k.sc x := by
  have hl := (Bool.and_eq_true _ _).mp (show (decide (k.N[i]? = some x) && (locB k.sc x || celB k.sc x)) = true from c)
  refine ⟨of_decide_eq_true hl.1, ?_⟩
  rcases (Bool.or_eq_true _ _).mp hl.2 with z | z
  · unfold locB at z
    split at z
    · left; assumption
    · cases z
  · unfold celB at z
    split at z
    · right; assumption
    · cases z
theorem pgs_list {k : Ck} (hN : X.N = k.N) (nd : k.N.Nodup) (st : ∀ i x, chkNm k i x = true → Loc X.env.scope x ∧ (X.fn x = true ∨ X.env.scope.names.lookup x = some .local)) : ∀ (is : List Nat) (es : List Expr), chkTgs k is es = true →
    PGs X es (gList is) ∧ (assignEach es X.env).length = is.length ∧ (assignEach es X.env).findIdx? (·.1) = none
  | [], [], _ => ⟨pgs_nil, rfl, rfl⟩
  | i :: is, .Name x p :: es, c => by
    obtain ⟨c1, c2⟩ := (Bool.and_eq_true _ _).mp (show (chkNm k i x && chkTgs k is es) = true from c)
    obtain ⟨h1, h2, h3⟩ := pgs_list hN nd st is es c2
    refine ⟨pgs_cons (pg_name (by rw [hN]; exact nd) (by rw [hN]; exact (chkNm_loc c1).1) (st i x c1).1 (st i x c1).2) h1, ?_, ?_⟩
    · show (assignEach es X.env).length + 1 = _
      rw [h2]; rfl
    · show List.findIdx? (·.1) ((false, assign (.Name x p) X.env) :: assignEach es X.env) = none
      rw [List.findIdx?_cons]
      simp [h3]
  | [], _ :: _, c => by cases c
  | _ :: _, [], c => by cases c
theorem pg_of {k : Ck} (hN : X.N = k.N) (nd : k.N.Nodup) (hc : X.calm = true) (st : ∀ i x, chkNm k i x = true → Loc X.env.scope x ∧ (X.fn x = true ∨ X.env.scope.names.lookup x = some .local)) {tg : Tg} {t : Expr} (c : chkTg k tg t = true) : PG X t (gOf X.K tg) := by
  cases tg with
  | nm i =>
    cases t with
    | Name x p =>
      have c1 : chkNm k i x = true := c
      exact pg_name (by rw [hN]; exact nd) (by rw [hN]; exact (chkNm_loc c1).1) (st i x c1).1 (st i x c1).2
    | _ => cases c
  | tp is =>
    cases t with
    | Tuple es kk p =>
      obtain ⟨h1, h2, h3⟩ := pgs_list hN nd st is es c
      exact pg_tup hc h1 h2 h3
    | _ => cases c
end
end An

namespace An
open PySem L2

section
variable {G : GX} {W : WX} {F : FX} {L : List (Addr × Obj)} {ρ : Env} {hs T A B base all : List (V × Sl)} {σ : L2.St} {φ φ' : List Addr} {h h' : Hh} {H H' : Hp} {M : Addr → Prop} {X : Cx}
/-! ### what is walked -/
/-- J walks over ds while B is held -/
structure Wk (G : GX) (F : FX) (L : List (Addr × Obj)) (B : List (V × Sl)) (ds : List D) (J : L2.It) : Prop where
  len : ds.length ≤ 16777216
  go : ∀ φ h H all i, Wf G F L φ h H all → (∀ x ∈ B, x ∈ all) → i < ds.length → J.go i H
  st : ∀ φ h H all, Wf G F L φ h H all → (∀ x ∈ B, x ∈ all) → J.stop ds.length H
  yl : ∀ φ h H all i v H', Wf G F L φ h H all → (∀ x ∈ B, x ∈ all) → i < ds.length → J.yld i H v H' → H' = H ∧ ∃ d, ds[i]? = some d ∧ RelD G φ (MZ F φ all) H d v
def SI (G : GX) (W : WX) (ev : Env → Hh → Res (List D × Hh)) : TI := fun σ H Q => ∃ F L ρ hs T φ h, SR ρ σ hs ∧ Wf G F L φ h H (hs ++ T) ∧
  Aft (fun ds h' => ∀ J B H' φ', Wf G F L φ' h' H' (B ++ (hs ++ T)) → Wk G F L B ds J → Q J H') (AftX G W F L hs T σ) (ev ρ h)
theorem wk_list {a : Addr} {xs : List D} (l : xs.length ≤ 16777216) : Wk G F L [(.ref a, .val (.lst xs))] xs (Itl G.K a) := by
  have rd : ∀ {φ h H all}, Wf G F L φ h H all → (∀ x ∈ [((.ref a, .val (.lst xs)) : V × Sl)], x ∈ all) → ∃ vs, SqL G.K H a vs ∧ RelDs G φ (MZ F φ all) H xs vs := by
    intro φ h H all w m
    obtain ⟨b, vs, e, q, _, t⟩ := Has.cell (ρ := []) (r := .val (.lst xs)) w (m _ List.mem_cons_self) rfl
    cases e
    exact ⟨vs, q, t⟩
  refine ⟨l, fun φ h H all i w m hi => ?_, fun φ h H all w m => ?_, fun φ h H all i v H' w m hi y => ?_⟩
  · obtain ⟨vs, q, t⟩ := rd w m
    obtain ⟨v, e, _⟩ := t.get (List.getElem?_eq_getElem hi)
    exact ⟨vs, v, q, e⟩
  · obtain ⟨vs, q, t⟩ := rd w m
    exact ⟨vs, q, by rw [t.length]; exact Nat.le_refl _⟩
  · obtain ⟨vs, q, t⟩ := rd w m
    obtain ⟨e, y⟩ := y
    obtain ⟨v', e', r⟩ := t.get (List.getElem?_eq_getElem hi)
    have e2 := y vs q
    rw [e'] at e2; cases e2
    exact ⟨e, _, List.getElem?_eq_getElem hi, r⟩
theorem wk_tup {a : Addr} {xs : List D} (l : xs.length ≤ 16777216) : Wk G F L [(.ref a, .val (.tup xs))] xs (Itt G.K a) := by
  have rd : ∀ {φ h H all}, Wf G F L φ h H all → (∀ x ∈ [((.ref a, .val (.tup xs)) : V × Sl)], x ∈ all) → ∃ vs, SqT G.K H a vs ∧ RelDs G φ (MZ F φ all) H xs vs := by
    intro φ h H all w m
    obtain ⟨b, vs, e, q, _, t⟩ := Has.tup (ρ := []) (r := .val (.tup xs)) w (m _ List.mem_cons_self) rfl
    cases e
    exact ⟨vs, q, t⟩
  refine ⟨l, fun φ h H all i w m hi => ?_, fun φ h H all w m => ?_, fun φ h H all i v H' w m hi y => ?_⟩
  · obtain ⟨vs, q, t⟩ := rd w m
    obtain ⟨v, e, _⟩ := t.get (List.getElem?_eq_getElem hi)
    exact ⟨vs, v, q, e⟩
  · obtain ⟨vs, q, t⟩ := rd w m
    exact ⟨vs, q, by rw [t.length]; exact Nat.le_refl _⟩
  · obtain ⟨vs, q, t⟩ := rd w m
    obtain ⟨e, y⟩ := y
    obtain ⟨v', e', r⟩ := t.get (List.getElem?_eq_getElem hi)
    have e2 := y vs q
    rw [e'] at e2; cases e2
    exact ⟨e, _, List.getElem?_eq_getElem hi, r⟩
theorem wk_str {s : Str} (l : s.length ≤ 16777216) (k : PyData.strOk s = true) : Wk G F L [] (s.cps.toList.map fun c => .str ⟨#[c]⟩) (Its s) := by
  have hl : (s.cps.toList.map fun c => D.str ⟨#[c]⟩).length = s.cps.size := by rw [List.length_map, Array.length_toList]
  refine ⟨by rw [hl]; exact l, fun φ h H all i w m hi => by rw [hl] at hi; exact hi, fun φ h H all w m => by rw [hl]; exact Nat.le_refl _, fun φ h H all i v H' w m hi y => ?_⟩
  obtain ⟨e, c, e1, e2⟩ := y
  have e3 : s.cps.toList[i]? = some c := by rw [Array.getElem?_toList]; exact e1
  refine ⟨e, .str ⟨#[c]⟩, by rw [List.getElem?_map, e3]; rfl, ?_⟩
  exact ⟨e2, ok_one k (List.mem_of_getElem? e3), by show 1 ≤ 16777216; decide⟩
theorem wk_rng {n : Nat} (l : n ≤ 16777216) : Wk G F L [] ((List.range n).map fun (i : Nat) => D.int (i : Int)) (Itr 0 n) := by
  have hl : ((List.range n).map fun (i : Nat) => D.int (i : Int)).length = n := by rw [List.length_map, List.length_range]
  refine ⟨by rw [hl]; exact l, fun φ h H all i w m hi => by rw [hl] at hi; exact hi, fun φ h H all w m => by rw [hl]; exact Nat.le_refl _, fun φ h H all i v H' w m hi y => ?_⟩
  obtain ⟨e, y⟩ := y
  rw [hl] at hi
  refine ⟨e, .int (i : Int), by rw [List.getElem?_map, List.getElem?_range hi]; rfl, ?_⟩
  show v = .int (i : Int)
  rw [y, Int.zero_add]
def iAny (K : PySem.W.Frag) (te : TE) : TI := fun σ H R => te σ H fun v H1 => (∃ x, v = .str x ∧ R (Its x) H1) ∨ (∃ a xs, v = .ref a ∧ SqL K H1 a xs ∧ R (Itl K a) H1) ∨ ∃ a xs, v = .ref a ∧ SqT K H1 a xs ∧ R (Itt K a) H1
theorem pi_any {tg e : Expr} {te : TE} (he : PE X e te) : PI X tg e (iAny X.K te) := by
  refine ⟨fun pins s σ H R I k => ?_⟩
  refine thn (he.run pins s σ H _ I k) fun v s1 ⟨y, H1, I1, r1, q⟩ => ?_
  rcases q with ⟨x, rfl, q⟩ | ⟨a, xs, rfl, hq, q⟩ | ⟨a, xs, rfl, hq, q⟩
  · obtain ⟨t, rfl⟩ := r1
    cases ha : x.cps.all (· < 128)
    · exact PySem.wpAny_pyIter_wide ha (pi_one (tk := s1.toks) I1 _ (turn_str _ x t "str_iterator" (.inr rfl)) ⟨_, Heap.get?_push_size _ rfl, rfl, rfl⟩ q)
    · exact PySem.wpAny_pyIter_ascii ha (pi_one (tk := s1.toks) I1 _ (turn_str _ x t "str_ascii_iterator" (.inl rfl)) ⟨_, Heap.get?_push_size _ rfl, rfl, rfl⟩ q)
  · cases r1
    obtain ⟨its, rv, p, hz⟩ := I1.list hq
    exact PySem.wpAny_pyIter_list p.isList (pi_one (tk := s1.toks) I1 _ (turn_list a _) ⟨_, Heap.get?_push_size _ rfl, rfl, rfl⟩ q)
  · cases r1
    obtain ⟨its, rv, p, hz⟩ := I1.tuple hq
    exact PySem.wpAny_pyIter_tuple (show s1.heap.IsTuple a its.toArray from p) (pi_one (tk := s1.toks) I1 _ (turn_tuple a _) ⟨_, Heap.get?_push_size _ rfl, rfl, rfl⟩ q)
theorem si_any {ea : Env → Hh → Res (R × Hh)} {Q : L2.It → Hp → Prop} (q : SI G W (fun ρ h => (ea ρ h).bind fun x => (ofO (itD ρ x.2 x.1)).bind fun ds => .ok (ds, x.2)) σ H Q) : iAny G.K (SE G W ea) σ H Q := by
  obtain ⟨F, L, ρ, hs, T, φ, h, sr, wf, af⟩ := q
  refine se_in (A := []) sr wf af fun a h1 af1 x H1 φ1 wf1 rw1 => ?_
  obtain ⟨ds, ez, af3⟩ := af1.ofO
  have wf1 : Wf G F L φ1 h1 H1 (rh x a ++ (hs ++ T)) := wf1
  have A1 : Has (rh x a ++ (hs ++ T)) ρ a x := has1 (A := []) rw1
  rcases alt_some ez with e | ⟨_, e⟩
  · obtain ⟨t, e1, rfl⟩ := Option.map_eq_some_iff.mp e
    obtain ⟨x1, x2, x3⟩ := A1.str wf1 e1
    exact .inl ⟨t, x1, af3 _ [] H1 φ1 (wf1.sub (List.sublist_append_right _ _)) (wk_str x3 x2)⟩
  rcases alt_some e with e | ⟨_, e⟩
  · obtain ⟨p, vs, x1, x2, x3, x4⟩ := A1.tup wf1 e
    have rr := A1.tup' wf1 e
    subst x1
    refine .inr (.inr ⟨p, vs, rfl, x2, af3 _ [(.ref p, .val (.tup ds))] H1 φ1 ?_ (wk_tup (by rw [← x4.length]; exact x3))⟩)
    exact fin_val wf1 (List.sublist_append_right _ _) rr
  · cases a with
    | val d =>
      cases d with
      | lst ys =>
        cases e
        obtain ⟨p, vs, x1, x2, x3, x4⟩ := A1.cell wf1 rfl
        subst x1
        exact .inr (.inl ⟨p, vs, rfl, x2, af3 _ [(.ref p, .val (.lst ds))] H1 φ1 wf1 (wk_list (by rw [← x4.length]; exact x3))⟩)
      | _ => cases e
    | fr c =>
      cases c with
      | lst ys =>
        cases e
        obtain ⟨p, vs, x1, x2, x3, x4⟩ := A1.cell wf1 rfl
        subst x1
        exact .inr (.inl ⟨p, vs, rfl, x2, af3 _ [(.ref p, .val (.lst ds))] H1 φ1 wf1.freeze (wk_list (by rw [← x4.length]; exact x3))⟩)
      | _ => cases e
    | vw i => cases e
theorem si_rng {ea : Env → Hh → Res (R × Hh)} {Q : L2.It → Hp → Prop} (q : SI G W (fun ρ h => (ea ρ h).bind fun x => (ofO (intOf x.1)).bind fun n => if -16777216 ≤ n ∧ n ≤ 16777216 then .ok ((List.range n.toNat).map fun (i : Nat) => D.int (i : Int), x.2) else .stuck) σ H Q) :
    iRng1 (tCons (SE G W ea) tNil) σ H Q := by
  obtain ⟨F, L, ρ, hs, T, φ, h, sr, wf, af⟩ := q
  refine se_in (A := []) sr wf af fun a h1 af1 x H1 φ1 wf1 rw1 => ?_
  obtain ⟨n, ez, af3⟩ := af1.ofO
  by_cases c : -16777216 ≤ n ∧ n ≤ 16777216
  · rw [if_pos c] at af3
    exact ⟨n, by rw [Has.int wf1 (has1 rw1) ez], by omega, by omega, af3 _ [] H1 φ1 (wf1.sub (List.sublist_append_right _ _)) (wk_rng (by omega))⟩
  · rw [if_neg c] at af3; exact af3.elim
/-- a walk, for HandS' loops -/
theorem wk_walk {ds : List D} {J : L2.It} (k : Wk G F L B ds J) : Walk J ds.length (fun H => ∃ φ h all, Wf G F L φ h H all ∧ ∀ x ∈ B, x ∈ all) (fun i H v H' => J.yld i H v H') :=
  ⟨fun i H hi ⟨φ, h, all, w, m⟩ => k.go φ h H all i w m hi, fun H ⟨φ, h, all, w, m⟩ => k.st φ h H all w m, fun _ _ _ _ _ _ y => y⟩

/-! ### comprehensions -/
theorem SR.uniq : ∀ {ρ : Env} {σ : L2.St} {hs hs' : List (V × Sl)}, SR ρ σ hs → SR ρ σ hs' → hs = hs'
  | _, _, _, _, .nil, .nil => rfl
  | _, _, _, _, .none t, .none t' => t.uniq t'
  | _, _, _, _, .none _, .some n _ => absurd rfl n
  | _, _, _, _, .some n _, .none _ => absurd rfl n
  | _, _, _, _, .some _ t, .some _ t' => by rw [t.uniq t']
theorem wipeR_len (ρ : Env) : ∀ vs : List Nat, (wipeR ρ vs).length = ρ.length
  | [] => rfl
  | v :: vs => by unfold wipeR; rw [List.length_set, wipeR_len ρ vs]
theorem wipeR_at (ρ : Env) : ∀ (vs : List Nat) (j : Nat), (wipeR ρ vs)[j]? = if j ∈ vs then (if j < ρ.length then some .none else none) else ρ[j]?
  | [], j => by simp [wipeR]
  | v :: vs, j => by
    unfold wipeR
    by_cases e : v = j
    · subst e
      by_cases l : v < ρ.length
      · rw [List.getElem?_set_self (by rw [wipeR_len]; exact l)]; simp [l]
      · rw [List.getElem?_eq_none (by rw [List.length_set, wipeR_len]; omega)]; simp [l]
    · rw [List.getElem?_set_ne e, wipeR_at ρ vs j]
      by_cases m : j ∈ vs
      · simp [m]
      · have e' : ¬ j = v := fun z => e z.symm
        simp [m, e']
theorem wipeR_set {ρ : Env} {vs : List Nat} {i : Nat} {x : Sl} (h : i ∈ vs) : wipeR (ρ.set i x) vs = wipeR ρ vs := by
  refine List.ext_getElem? fun j => ?_
  rw [wipeR_at, wipeR_at, List.length_set]
  by_cases m : j ∈ vs
  · simp [m]
  · have e : i ≠ j := fun e => m (e ▸ h)
    rw [if_neg m, if_neg m, List.getElem?_set_ne e]
theorem wipeR_wipeR {ρ : Env} {vs : List Nat} : wipeR (wipeR ρ vs) vs = wipeR ρ vs := by
  refine List.ext_getElem? fun j => ?_
  rw [wipeR_at, wipeR_len, wipeR_at]
  by_cases m : j ∈ vs
  · simp [m]
  · simp [m]
theorem wipeR_fold {ws : List Nat} : ∀ (is : List Nat) (ds : List D) (ρ : Env), (∀ i ∈ is, i ∈ ws) → wipeR ((is.zip ds).foldl (fun ρ p => ρ.set p.1 (.val p.2)) ρ) ws = wipeR ρ ws
  | [], _, _, _ => rfl
  | _ :: _, [], _, _ => rfl
  | i :: is, d :: ds, ρ, h => by
    rw [List.zip_cons_cons, List.foldl_cons, wipeR_fold is ds _ fun j hj => h j (List.mem_cons_of_mem _ hj), wipeR_set (h i List.mem_cons_self)]
theorem wipeR_tg {tg : Tg} {d : D} {ρ ρ' : Env} {ws : List Nat} (e : setTg ρ tg d = some ρ') (h : ∀ i ∈ tgIx tg, i ∈ ws) : wipeR ρ' ws = wipeR ρ ws := by
  cases tg with
  | nm i => cases e; exact wipeR_set (h i List.mem_cons_self)
  | tp is =>
    cases d with
    | tup ds =>
      obtain ⟨c, e2⟩ := ite_some' (show (if is.length = ds.length then some ((is.zip ds).foldl (fun ρ p => ρ.set p.1 (.val p.2)) ρ) else none) = some ρ' from e)
      cases e2
      exact wipeR_fold is ds ρ h
    | _ => cases e
def lcF (ee : Env → Hh → Res (R × Hh)) (ec : Env → Hh → Res (Bool × Hh)) (tg : Tg) (vs : List Nat) (ρ : Env) (d : D) (h : Hh) : Res (Option D × Hh) := noErr ((ofO (setTg (wipeR ρ vs) tg d)).bind fun ρ1 => (ec ρ1 h).bind fun k => match k.1 with
  | false => .ok (none, k.2)
  | true => (ee ρ1 k.2).bind fun z => (ofO (toD z.1)).bind fun d => .ok (some d, z.2))
theorem noErr_aft {α : Type} {m : Res (α × Hh)} {okA : α → Hh → Prop} {er er' : D → Hh → Prop} (a : Aft okA er (noErr m)) : Aft okA er' m := by
  cases m with
  | ok x => exact a
  | err x h => exact a.elim
  | stuck => exact a
def lcStep {α : Type} (f : D → Hh → Res (Option D × Hh)) (x : D) (xs : List D) (h : Hh) : Res (List D × Hh) := (f x h).bind fun r => (lcL f xs r.2).bind fun q => .ok ((match r.1 with
    | some d => d :: q.1
    | none => q.1), q.2)
theorem se_lc {ei : Env → Hh → Res (List D × Hh)} {ee : Env → Hh → Res (R × Hh)} {ec : Env → Hh → Res (Bool × Hh)} {tg : Tg} {vs : List Nat} {Q : VK} (hK : X.K = G.K) (ht : ∀ i ∈ tgIx tg, i ∈ vs)
    (q : SE G W (fun ρ h => (ei ρ h).bind fun x => (lcL (lcF ee ec tg vs ρ) x.1 x.2).bind fun y => .ok (.fr (.lst y.1), y.2)) σ H Q) :
    tLc (SI G W ei) (gOf X.K tg) (ST G (fun _ _ _ _ => False) ec) (SE G (fun _ _ _ _ => False) ee) vs σ H Q := by
  obtain ⟨F, L, ρ, hs, T, φ, h, sr, wf, af⟩ := q
  refine ⟨F, L, ρ, hs, T, φ, h, sr, wf, af.bind (fun ds h1 af1 J B H1 φ1 wf1 wk D hD => ?_) fun _ _ z => z⟩
  have hz := sizeLine_eq
  have af1 : Aft (OkR G F L ρ hs T Q) (AftX G W F L hs T σ) ((lcL (lcF ee ec tg vs ρ) ds h1).bind fun y => .ok (.fr (.lst y.1), y.2)) := af1
  obtain ⟨hw, dr, pm, srw⟩ := sr.wipeP vs
  refine lc_it (wk_walk wk) (fun i H => ∃ φ h acc, Wf G F L φ h H ((.ref D, .own (.lst acc)) :: (B ++ (hs ++ T))) ∧ acc.length ≤ i ∧
    Aft (fun ys h' => ∀ v H' φ', Wf G F L φ' h' H' ((v, .own (.lst (acc ++ ys))) :: (hs ++ T)) → Q v H') (AftX G W F L hs T σ) (lcL (lcF ee ec tg vs ρ) (ds.drop i) h)) ?_ ?_ ?_ ?_
  · refine ⟨φ1, h1, [], fin_lst wf1 (List.Sublist.refl _) hD (Nat.zero_le _) rfl, Nat.zero_le _, ?_⟩
    exact af1.bind (fun ys h' ok v H' φ' w => ok v H' φ' w True.intro) fun _ _ z => z
  · rintro i H _ ⟨φ2, h2, acc, w, _⟩
    exact ⟨φ2, h2, _, w, fun x hx => List.mem_cons_of_mem _ (List.mem_append_left _ hx)⟩
  · rintro i x H H' hi ⟨φ2, h2, acc, w, la, af2⟩ y
    obtain ⟨e1, d, ed, rd⟩ := wk.yl φ2 h2 H _ i x H' w (fun x hx => List.mem_cons_of_mem _ (List.mem_append_left _ hx)) hi y
    subst e1
    have ei : ds[i] = d := (List.getElem?_eq_some_iff.mp ed).2
    rw [List.drop_eq_getElem_cons hi, ei] at af2
    have af3 : Aft (fun ys h' => ∀ v H' φ', Wf G F L φ' h' H' ((v, .own (.lst (acc ++ ys))) :: (hs ++ T)) → Q v H') (AftX G W F L hs T σ) ((lcF ee ec tg vs ρ d h2).bind fun r => (lcL (lcF ee ec tg vs ρ) (ds.drop (i + 1)) r.2).bind fun q => .ok ((match r.1 with
      | some d => d :: q.1
      | none => q.1), q.2)) := af2
    -- all but the block's slots
    have pm2' : ∀ acc, ((V.ref D, Sl.own (.lst acc)) :: (B ++ (hs ++ T))).Perm (hw ++ ((.ref D, .own (.lst acc)) :: (dr ++ (B ++ T)))) := by
      intro acc
      refine List.Perm.trans (List.Perm.cons _ ?_) List.perm_middle.symm
      refine perm_in.trans ?_
      refine (pm.append_right _).trans ?_
      rw [← List.append_assoc hw]
      exact (List.Perm.append_right _ List.perm_append_comm).trans (by rw [List.append_assoc])
    have pm2 := pm2' acc
    have w2 := w.perm pm2
    have rd2 : RelD G φ2 (MZ F φ2 (hw ++ ((.ref D, .own (.lst acc)) :: (dr ++ (B ++ T))))) H' d x := by rw [← mz_perm pm2]; exact rd
    -- the turn's own run
    have ag : Aft (fun r h' => Aft (fun ys h' => ∀ v H' φ', Wf G F L φ' h' H' ((v, .own (.lst (acc ++ ys))) :: (hs ++ T)) → Q v H') (AftX G W F L hs T σ) ((lcL (lcF ee ec tg vs ρ) (ds.drop (i + 1)) h').bind fun q => .ok ((match r with
      | some d => d :: q.1
      | none => q.1), q.2))) (AftX G W F L hs T σ) (lcF ee ec tg vs ρ d h2) := af3.bind (fun r h' z => z) fun _ _ z => z
    obtain ⟨ρ1, e2, ag2⟩ := (noErr_aft (er' := fun _ _ => False) ag).ofO
    refine tg_go hK e2 srw w2 rd2 fun σ2 hs2 sr2 wf2 hws => ⟨(hws vs ht).trans wipe_wipe, ?_⟩
    have back : ∀ {φ h H acc} (U : List (V × Sl)), Wf G F L φ h H (U ++ (hs2 ++ ((.ref D, .own (.lst acc)) :: (dr ++ (B ++ T))))) → Wf G F L φ h H (U ++ ((.ref D, .own (.lst acc)) :: (B ++ (hs ++ T)))) := by
      intro φ h H acc U w
      obtain ⟨hw2, d2, pm3, srw2⟩ := sr2.wipeP vs
      rw [wipeR_tg e2 ht, wipeR_wipeR, hws vs ht, wipe_wipe] at srw2
      have e3 := srw.uniq srw2
      subst e3
      have w3 : Wf G F L φ h H (U ++ (hw ++ ((.ref D, .own (.lst acc)) :: (dr ++ (B ++ T))))) := (w.perm (List.Perm.append_left U (pm3.append_right _))).sub ((List.Sublist.refl U).append (by rw [List.append_assoc]; exact List.sublist_append_right _ _))
      exact w3.perm (List.Perm.append_left U (pm2' acc).symm)
    refine ⟨F, L, ρ1, hs2, _, φ2, h2, sr2, wf2, ag2.bind (fun k h3 ag3 H3 φ3 wf3 => ?_) fun _ _ z => z.elim⟩
    cases k with
    | false =>
      have ag4 : Aft (fun ys h' => ∀ v H' φ', Wf G F L φ' h' H' ((v, .own (.lst (acc ++ ys))) :: (hs ++ T)) → Q v H') (AftX G W F L hs T σ) ((lcL (lcF ee ec tg vs ρ) (ds.drop (i + 1)) h3).bind fun q => .ok (q.1, q.2)) := ag3
      rw [Res.bind_ok] at ag4
      exact ⟨φ3, h3, acc, back [] wf3, Nat.le_succ_of_le la, ag4⟩
    | true =>
      have ag3' : Aft (fun r h' => Aft (fun ys h' => ∀ v H' φ', Wf G F L φ' h' H' ((v, .own (.lst (acc ++ ys))) :: (hs ++ T)) → Q v H') (AftX G W F L hs T σ) ((lcL (lcF ee ec tg vs ρ) (ds.drop (i + 1)) h').bind fun q => .ok ((match r with
        | some d => d :: q.1
        | none => q.1), q.2))) (AftX G (fun _ _ _ _ => False) F L hs2 ((.ref D, .own (.lst acc)) :: (dr ++ (B ++ T))) σ2) ((ee ρ1 h3).bind fun z => (ofO (toD z.1)).bind fun d => .ok (some d, z.2)) := Aft.mono ag3 (fun _ _ z => z) fun _ _ z => z.elim
      refine se_in (A := []) sr2 wf3 ag3' fun r h4 ag4 v H4 φ4 wf4 rw4 => ?_
      obtain ⟨dd, e4, ag5⟩ := ag4.ofO
      have wf5 := toD_hold e4 wf4
      have wf6 : Wf G F L φ4 h4 H4 ((.ref D, .own (.lst acc)) :: ((v, .val dd) :: (B ++ (hs ++ T)))) := (back [(v, .val dd)] wf5).perm (List.Perm.swap ..)
      obtain ⟨a, ea, vs2, eh, lz, rr⟩ := wf6.own_at
      cases ea
      have lv : vs2.length ≤ i := by rw [rr.length]; exact la
      have li : i < 16777216 := Nat.lt_of_lt_of_le hi wk.len
      have rv : RelD G φ4 (MZ F φ4 ((.ref D, .own (.lst acc)) :: ((v, .val dd) :: (B ++ (hs ++ T))))) H4 dd v := wf6.hold v (.val dd) (List.mem_cons_of_mem _ List.mem_cons_self)
      have ma : MZ F φ4 ((.ref D, .own (.lst acc)) :: ((v, .val dd) :: (B ++ (hs ++ T)))) D := by rw [mz_own]; exact .inr rfl
      have wf7 : Wf G F L φ4 h4 (upd H4 D (.lst (vs2 ++ [v]))) ((.ref D, .own (.lst (acc ++ [dd]))) :: ((v, .val dd) :: (B ++ (hs ++ T)))) :=
        wf6.setOwn ⟨vs2 ++ [v], upd_same, by rw [List.length_append, List.length_singleton]; omega, (rr.append (RelDs.cons_iff.mpr ⟨v, [], rfl, rv, RelDs.nil_iff.mpr rfl⟩)).mono (stay_set ma)⟩
      refine ⟨vs2, eh, by omega, φ4, h4, acc ++ [dd], wf7.sub ((List.sublist_cons_self _ _).cons_cons _), by rw [List.length_append, List.length_singleton]; omega, ?_⟩
      have ag6 : Aft (fun ys h' => ∀ v H' φ', Wf G F L φ' h' H' ((v, .own (.lst (acc ++ ys))) :: (hs ++ T)) → Q v H') (AftX G W F L hs T σ) ((lcL (lcF ee ec tg vs ρ) (ds.drop (i + 1)) h4).bind fun q => .ok (dd :: q.1, q.2)) := ag5
      refine ag6.bind (fun ys h' ok v H' φ' w => ok v H' φ' ?_) fun _ _ z => z
      rw [List.append_assoc] at w
      exact w
  · rintro H ⟨φ2, h2, acc, w, la, af2⟩
    rw [List.drop_length] at af2
    have af3 : ∀ v H' φ', Wf G F L φ' h2 H' ((v, .own (.lst (acc ++ []))) :: (hs ++ T)) → Q v H' := af2
    rw [List.append_nil] at af3
    exact af3 (.ref D) H φ2 (w.sub ((List.sublist_append_right _ _).cons_cons _))
end
end An

namespace An
open PySem L2

theorem ands {a b : Bool} (h : (a && b) = true) : a = true ∧ b = true := (Bool.and_eq_true _ _).mp h
theorem dect {p : Prop} [Decidable p] (h : decide p = true) : p := of_decide_eq_true h
section
variable {G : GX} {W : WX} {X : Cx} {k : Ck} {lvl : Nat} {call : Nat → List D → List (Str × D) → Hh → Res (D × Hh)}
theorem star_of {e : E} {x : Expr} (h : chkE k e x = true) (env : PySem.Env) (es : List Expr) : starEach (x :: es) env = (false, eval x env) :: starEach es env := by
  cases x <;> first
    | rfl
    | (cases e <;> cases h)
theorem star_one {e : E} {x : Expr} (h : chkE k e x = true) (env : PySem.Env) : starEach [x] env = [(false, eval x env)] := star_of h env []
theorem vis_of {sc : Scope} {x : Str} (h : visB sc x = true) : Vis sc x := by
  unfold visB at h
  split at h
  · exact .inl (by assumption)
  · exact .inr (.inl (by assumption))
  · exact .inr (.inr (by assumption))
  · cases h
theorem neq_of {x y : Str} (h : decide (x ≠ y) = true) : (x == y) = false := by
  have := dect h
  simpa using this
theorem chkV_of (g : Good G k call W lvl X) {i : Nat} {x : Str} (c : chkV k i x = true) (pos : Pos) : PE X (.Name x pos) (tVar i) := by
  obtain ⟨c, c4⟩ := ands c
  obtain ⟨c, c3⟩ := ands c
  obtain ⟨c1, c2⟩ := ands c
  exact pe_var (by rw [g.N]; exact dect c1) (by rw [g.sc]; exact vis_of c2) (neq_of c3) (neq_of c4)
theorem chkG_of (g : Good G k call W lvl X) {x y : Str} (c : chkG k x y = true) : x = y ∧ Gl X x ∧ (x == ("__debug__" : Str)) = false := by
  obtain ⟨c1, c2⟩ := ands c
  obtain ⟨c2, c3⟩ := ands c2
  have e := dect c1
  subst e
  refine ⟨rfl, ?_, neq_of c3⟩
  show X.env.scope.names.lookup x = _
  rw [g.sc]; exact dect c2
theorem cst_of {d : D} {c : Const} (h : sameC d c = true) (j : Nat) (pos : Pos) : ∃ v, PE X (.Constant c j pos) (tC v) ∧ ∀ φ M H, RelD G φ M H d v := by
  cases d <;> cases c <;> first
    | exact ⟨_, pe_non, fun _ _ _ => rfl⟩
    | (cases h; done)
    | skip
  · rename_i a b
    have e : a = b := by simpa [sameC] using h
    subst e
    exact ⟨_, pe_bl, fun _ _ _ => rfl⟩
  · rename_i a b
    have e : a = b := dect h
    subst e
    exact ⟨_, pe_int, fun _ _ _ => rfl⟩
  · rename_i a b
    obtain ⟨h1, h2⟩ := ands h
    have e : a = b := dect h1
    subst e
    obtain ⟨h3, h4⟩ := ands h2
    exact ⟨_, pe_str, fun _ _ _ => ⟨rfl, h3, dect h4⟩⟩
theorem same_gl {d d' : D} {v : V} (h : sameD d d' = true) (r : ∀ φ M H, RelD G φ M H d' v) : ∀ φ M H, RelD G φ M H d v := by
  have e : d = d' := by
    cases d <;> cases d' <;> first
      | rfl
      | (cases h; done)
      | (rename_i a b; have e : a = b := (by simpa [sameD] using h); rw [e])
  rw [e]; exact r
theorem plain_of {b : Expr} (h : plainIx b = true) : PlainIx b := by
  cases b <;> first
    | (intro o i; with_unfolding_all rfl)
    | cases h
theorem rD2_id {op : Env → Hh → R → R → Option R} : rD2 G (fun ρ h a b => (op ρ h a b).map fun z => z) = rD2 G op := by
  congr 1
  funext ρ h a b
  exact Option.map_id'
theorem rD1_id {op : Env → Hh → R → Option R} : rD1 G (fun ρ h a => (op ρ h a).map fun z => z) = rD1 G op := by
  congr 1
  funext ρ h a
  exact Option.map_id'
theorem rDL_id {op : Env → Hh → R → Option R} : rDL G (fun ρ h a => (op ρ h a).map fun z => z) = rDL G op := by
  unfold rDL
  rw [rD1_id]
/-- a value's truth as a test -/
theorem pt_of (hK : X.K = G.K) {x : Expr} {ev : Env → Hh → Res (R × Hh)} (h : PE X x (SE G W ev)) (he : ∀ whole, isTrue x X.env whole = (do let v ← whole; standAt x.pos; holding [v] (truthy v))) : PT X x (ST G W (evT ev)) :=
  (pt_truth h he).impl fun σ H Q q => by rw [hK]; exact st_tru q
theorem pt_ifE {c a b : Expr} {tc ta tb : TT} {pos : Pos} (hc : PT X c tc) (ha : PT X a ta) (hb : PT X b tb) : PT X (.IfExp c a b pos) (fun σ H Q => tc σ H fun k H1 => if k = true then ta σ H1 Q else tb σ H1 Q) := by
  refine ⟨fun pins s σ H Q I h => ?_⟩
  refine PyProof.Rows.isTrue_IfExp (thn (hc.run pins s σ H _ I h) fun d s1 ⟨H1, I1, q1⟩ => ?_)
  cases d with
  | true => exact ha.run pins s1 σ H1 Q I1 q1
  | false => exact hb.run pins s1 σ H1 Q I1 q1
end

structure Snd (G : GX) (lvl : Nat) (call : Nat → List D → List (Str × D) → Hh → Res (D × Hh)) (e : E) : Prop where
  pe : ∀ {k W X x}, Good G k call W lvl X → chkE k e x = true → PE X x (SE G W (evE call e))
  pt : ∀ {k W X x}, Good G k call W lvl X → chkE k e x = true → PT X x (ST G W (evT (evE call e)))
structure SndEs (G : GX) (lvl : Nat) (call : Nat → List D → List (Str × D) → Hh → Res (D × Hh)) (es : Es) : Prop where
  pa : ∀ {k W X xs}, Good G k call W lvl X → chkEs k es xs = true → PA X xs (SEs G W (evEs call es))
  star : ∀ {k : Ck} {xs}, chkEs k es xs = true → ∀ env, starEach xs env = xs.map fun e => (false, eval e env)
  len : ∀ {k : Ck} {xs}, chkEs k es xs = true → ∀ ρ h x, evEs call es ρ h = .ok x → x.1.length = xs.length
  nil : ∀ {k : Ck} {xs}, chkEs k es xs = true → xs = [] → evEs call es = fun _ h => .ok ([], h)
  an : ∀ {k W X xs}, Good G k call W lvl X → chkEs k es xs = true → ∀ (pos : Pos) (x : Expr) (ea : Env → Hh → Res (R × Hh)), PE X x (SE G W ea) → PT X x (ST G W (evT ea)) →
    PE X (.BoolOp .And (x :: xs) pos) (SE G W fun ρ h => (ea ρ h).bind fun x => evAnd call es ρ x.2 x.1) ∧ PW X (.BoolOp .And (x :: xs) pos) (ST G W (evT fun ρ h => (ea ρ h).bind fun x => evAnd call es ρ x.2 x.1))
  orr : ∀ {k W X xs}, Good G k call W lvl X → chkEs k es xs = true → ∀ (pos : Pos) (x : Expr) (ea : Env → Hh → Res (R × Hh)), PE X x (SE G W ea) → PT X x (ST G W (evT ea)) →
    PE X (.BoolOp .Or (x :: xs) pos) (SE G W fun ρ h => (ea ρ h).bind fun x => evOr call es ρ x.2 x.1) ∧ PW X (.BoolOp .Or (x :: xs) pos) (ST G W (evT fun ρ h => (ea ρ h).bind fun x => evOr call es ρ x.2 x.1))
structure SndKs (G : GX) (lvl : Nat) (call : Nat → List D → List (Str × D) → Hh → Res (D × Hh)) (ks : Ks) : Prop where
  pk : ∀ {k W X kws}, Good G k call W lvl X → chkKs k ks kws = true → PK X kws (SEs G W (evKs call ks))
  kw : ∀ {k : Ck} {kws}, chkKs k ks kws = true → ∀ pos env, (backToKw pos (keywordEach kws env)).all (·.1.isSome) = true ∧ (backToKw pos (keywordEach kws env)).any (·.1.isNone) = false ∧ (backToKw pos (keywordEach kws env)).filterMap (·.1) = keysOf ks
  len : ∀ ρ h x, evKs call ks ρ h = .ok x → x.1.length = (keysOf ks).length
  nil : ∀ {k : Ck} {kws}, chkKs k ks kws = true → kws = [] → evKs call ks = fun _ h => .ok ([], h)
structure SndO (G : GX) (lvl : Nat) (call : Nat → List D → List (Str × D) → Hh → Res (D × Hh)) (o : Oe) : Prop where
  po : ∀ {k W X x}, Good G k call W lvl X → chkO k o x = true → PO X x (SO G W (evO call o))
  pc : ∀ {k W X x}, Good G k call W lvl X → chkC k o x = true → PTs X x (ST G W (evC call o))
structure SndI (G : GX) (lvl : Nat) (call : Nat → List D → List (Str × D) → Hh → Res (D × Hh)) (i : It) : Prop where
  pi : ∀ {k W X x tg}, Good G k call W lvl X → chkI k i x = true → PI X tg x (SI G W (evIt call i))
section
variable {G : GX} {W : WX} {X : Cx} {k : Ck} {lvl : Nat} {call : Nat → List D → List (Str × D) → Hh → Res (D × Hh)}
theorem snd_bi (g : Good G k call W lvl X) {b : Bi} {ev : Env → Hh → Res (R × Hh)} {x : Str} {y : Expr} {p pos : Pos} (c : chkG k (biN b) x = true) (hy : PE X y (SE G W ev)) (st : ∀ env es, starEach (y :: es) env = (false, eval y env) :: starEach es env) :
    PE X (.Call (.Name x p) [y] [] pos) (SE G W fun ρ h => (ev ρ h).bind fun x => (ofO (biR ρ x.2 b x.1)).bind fun z => .ok (z, x.2)) := by
  obtain ⟨e, hg, hd⟩ := chkG_of g c
  subst e
  have ha : PA X [y] (tCons (SE G W ev) tNil) := pa_cons hy pa_nil (st _ _)
  have fin : ∀ {r : List V → Hp → VK → Prop}, r = rDL G (fun ρ h => biR ρ h b) → ∀ σ H Q, SE G W (fun ρ h => (ev ρ h).bind fun x => (ofO (biR ρ x.2 b x.1)).bind fun z => .ok (z, x.2)) σ H Q → tCB r (tCons (SE G W ev) tNil) σ H Q := by
    intro r er σ H Q q
    rw [er, ← rDL_id]
    exact se_call1 q
  cases b with
  | len => exact (pe_callB (o_len g.hK) hg (g.blt _ (by simp [biN])) (by with_unfolding_all rfl) ha (by decide) hd (st _ _) rfl).impl (fin rfl)
  | list => exact (pe_callTy (o_list g.hK) hg (g.blt _ (by simp [biN])) (by with_unfolding_all rfl) ha (by decide) hd (st _ _) rfl).impl (fin rfl)
  | tuple => exact (pe_callTy (o_tuple g.hK) hg (g.blt _ (by simp [biN])) (by with_unfolding_all rfl) ha (by decide) hd (st _ _) rfl).impl (fin rfl)
  | int => exact (pe_callTy o_int hg (g.blt _ (by simp [biN])) (by with_unfolding_all rfl) ha (by decide) hd (st _ _) rfl).impl (fin rfl)
  | repr => exact (pe_callB (o_repr g.hK g.gd (by have := g.room.un; omega)) hg (g.blt _ (by simp [biN])) (by with_unfolding_all rfl) ha (by decide) hd (st _ _) rfl).impl (fin rfl)
  | all => exact (pe_callB (o_all g.hK g.calm) hg (g.blt _ (by simp [biN])) (by with_unfolding_all rfl) ha (by decide) hd (st _ _) rfl).impl (fin rfl)
  | any => exact (pe_callB (o_any g.hK g.calm) hg (g.blt _ (by simp [biN])) (by with_unfolding_all rfl) ha (by decide) hd (st _ _) rfl).impl (fin rfl)
end
end An

namespace An
open PySem L2

section
variable {G : GX} {lvl : Nat} {call : Nat → List D → List (Str × D) → Hh → Res (D × Hh)}
/-- a value, whose truth is the test -/
theorem snd_plain {e : E} (pe : ∀ {k W X x}, Good G k call W lvl X → chkE k e x = true → PE X x (SE G W (evE call e)))
    (he : ∀ {k : Ck} {x : Expr}, chkE k e x = true → ∀ env whole, isTrue x env whole = (do let v ← whole; standAt x.pos; holding [v] (truthy v))) : Snd G lvl call e :=
  ⟨pe, fun g c => pt_of g.hK (pe g c) (he c _)⟩
theorem isSet_no {i : Expr} (h : isSetE i = false) (env : PySem.Env) : ∀ x, foldedSetIterable i env x = pure x := by
  cases i <;> first
    | (intro _; rfl)
    | cases h
theorem super_no {o : Expr} (h : isSuper o = false) (m : Str) (env : PySem.Env) (w : Sem Value) : attributeBase o m env w = w := by
  unfold attributeBase
  cases o <;> try rfl
  rename_i f args kws pos
  cases f <;> try rfl
  cases args <;> try rfl
  cases kws <;> try rfl
  rename_i id p
  have e : id ≠ "super" := by
    have h' : decide (id = "super") = false := h
    exact of_decide_eq_false h'
  have e2 : (id != "super") = true := by simpa using e
  simp only [e2, Bool.true_or, if_true]
theorem snd_var {i : Nat} : Snd G lvl call (.var i) := snd_plain (fun {k W X x} g c => by
    cases x with
    | Name x pos => exact (chkV_of g c pos).impl fun σ H Q q => se_var q
    | _ => cases c) (fun {k x} c env whole => by cases x <;> first | rfl | cases c)
theorem snd_pk {i : Nat} : Snd G lvl call (.pk i) := snd_plain (fun {k W X x} g c => by
    cases x with
    | Name x pos => exact (chkV_of g c pos).impl fun σ H Q q => se_pk q
    | _ => cases c) (fun {k x} c env whole => by cases x <;> first | rfl | cases c)
theorem snd_gv {y : Str} {d : D} : Snd G lvl call (.gv y d) := snd_plain (fun {k W X x} g c => by
    cases x with
    | Name x pos =>
      obtain ⟨c1, c2⟩ := ands (show (chkG k y x && (match k.gl.lookup y with
        | some d' => sameD d d'
        | none => false)) = true from c)
      obtain ⟨e, hg, hd⟩ := chkG_of g c1
      subst e
      cases q : k.gl.lookup y with
      | none => rw [q] at c2; cases c2
      | some d' =>
        rw [q] at c2
        obtain ⟨v, u, hm, r, rd⟩ := g.gl y d' q
        exact (pe_glob hg hm r hd).impl fun σ H Q q => se_cst (same_gl c2 rd) q
    | _ => cases c) (fun {k x} c env whole => by cases x <;> first | rfl | cases c)
theorem snd_cst {d : D} : Snd G lvl call (.cst d) := snd_plain (fun {k W X x} g c => by
    cases x with
    | Constant cc j pos =>
      obtain ⟨v, h, rd⟩ := cst_of (G := G) (X := X) (show sameC d cc = true from c) j pos
      exact h.impl fun σ H Q q => se_cst rd q
    | _ => cases c) (fun {k x} c env whole => by cases x <;> first | rfl | cases c)
theorem snd_bin {o : Bop} {a b : E} (sa : Snd G lvl call a) (sb : Snd G lvl call b) : Snd G lvl call (.bin o a b) := snd_plain (fun {k W X x} g c => by
    cases x with
    | BinOp x op y pos =>
      obtain ⟨c, c3⟩ := ands (show (sameB o op && chkE k a x && chkE k b y) = true from c)
      obtain ⟨c1, c2⟩ := ands c
      rw [sameB_eq c1]
      refine (pe_op (o_bin g.hK o) (sa.pe g c2) (sb.pe g c3)).impl fun σ H Q q => ?_
      rw [← rD2_id]
      exact se_bin q
    | _ => cases c) (fun {k x} c env whole => by cases x <;> first | rfl | cases c)
theorem snd_neg {a : E} (sa : Snd G lvl call a) : Snd G lvl call (.neg a) := snd_plain (fun {k W X x} g c => by
    cases x with
    | UnaryOp op x pos =>
      cases op with
      | USub => exact (pe_un o_neg (sa.pe g c)).impl fun σ H Q q => se_un (op := fun _ _ a => intOf a) q
      | _ => cases c
    | _ => cases c) (fun {k x} c env whole => by
      cases x <;> first | rfl | (cases c; done) | skip
      rename_i op x pos
      cases op <;> first | rfl | cases c)
theorem snd_cmp {o : Cop} {a b : E} (sa : Snd G lvl call a) (sb : Snd G lvl call b) : Snd G lvl call (.cmp o a b) := by
  have key : ∀ {k W X x}, Good G k call W lvl X → chkE k (.cmp o a b) x = true → PE X x (SE G W (evE call (.cmp o a b))) ∧ PT X x (ST G W (evT (evE call (.cmp o a b)))) := by
    intro k W X x g c
    match x, c with
    | .Compare x [op] [y] pos, c =>
      obtain ⟨c, c4⟩ := ands (show (sameO o op && chkE k a x && chkE k b y && !behindInMarks op y) = true from c)
      obtain ⟨c, c3⟩ := ands c
      obtain ⟨c1, c2⟩ := ands c
      rw [sameO_eq c1] at c4 ⊢
      have hm : behindInMarks (copO o) y = false := by simpa using c4
      exact ⟨(pe_cmpR (o_cmp g.hK g.room.units o) (sa.pe g c2) (sb.pe g c3) hm).impl fun σ H Q q => se_bin q, (pt_cmpR (o_cmp g.hK g.room.units o) (sa.pe g c2) (sb.pe g c3) hm).impl fun σ H Q q => st_bin q⟩
  exact ⟨fun g c => (key g c).1, fun g c => (key g c).2⟩
theorem snd_chn {o o' : Cop} {a b d : E} (sa : Snd G lvl call a) (sb : Snd G lvl call b) (sd : Snd G lvl call d) : Snd G lvl call (.chn o o' a b d) := by
  have key : ∀ {k W X x}, Good G k call W lvl X → chkE k (.chn o o' a b d) x = true → PE X x (SE G W (evE call (.chn o o' a b d))) ∧ PT X x (ST G W (evT (evE call (.chn o o' a b d)))) := by
    intro k W X x g c
    match x, c with
    | .Compare x [op, op'] [y, z] pos, c =>
      obtain ⟨c, c6⟩ := ands (show (sameO o op && sameO o' op' && chkE k a x && chkE k b y && chkE k d z && !lastMarks [op, op'] [y, z]) = true from c)
      obtain ⟨c, c5⟩ := ands c
      obtain ⟨c, c4⟩ := ands c
      obtain ⟨c, c3⟩ := ands c
      obtain ⟨c1, c2⟩ := ands c
      rw [sameO_eq c1, sameO_eq c2] at c6 ⊢
      have hm : lastMarks [copO o, copO o'] [y, z] = false := by simpa using c6
      exact ⟨(pe_chain (o_cmp g.hK g.room.units o) (o_cmp g.hK g.room.units o') (sa.pe g c3) (sb.pe g c4) (sd.pe g c5) hm).impl fun σ H Q q => se_chn q,
        (pt_chain (o_cmp g.hK g.room.units o) (o_cmp g.hK g.room.units o') (sa.pe g c3) (sb.pe g c4) (sd.pe g c5) hm).impl fun σ H Q q => st_chn q⟩
  exact ⟨fun g c => (key g c).1, fun g c => (key g c).2⟩
theorem snd_not {a : E} (sa : Snd G lvl call a) : Snd G lvl call (.not a) := by
  have key : ∀ {k W X x}, Good G k call W lvl X → chkE k (.not a) x = true → PE X x (SE G W (evE call (.not a))) ∧ PT X x (ST G W (evT (evE call (.not a)))) := by
    intro k W X x g c
    match x, c with
    | .UnaryOp .Not x pos, c =>
      exact ⟨(pe_notT (sa.pe g c)).impl fun σ H Q q => by rw [g.hK]; exact se_not q, (pt_not (sa.pt g c)).impl fun σ H Q q => st_not q⟩
  exact ⟨fun g c => (key g c).1, fun g c => (key g c).2⟩
theorem snd_and {a : E} {es : Es} (sa : Snd G lvl call a) (ss : SndEs G lvl call es) : Snd G lvl call (.and a es) := by
  have key : ∀ {k W X x}, Good G k call W lvl X → chkE k (.and a es) x = true → PE X x (SE G W (evE call (.and a es))) ∧ PT X x (ST G W (evT (evE call (.and a es)))) := by
    intro k W X x g c
    match x, c with
    | .BoolOp .And (x :: xs) pos, c =>
      obtain ⟨c1, c2⟩ := ands (show (chkE k a x && chkEs k es xs) = true from c)
      obtain ⟨h1, h2⟩ := ss.an g c2 pos x (evE call a) (sa.pe g c1) (sa.pt g c1)
      exact ⟨h1, h2.pt⟩
  exact ⟨fun g c => (key g c).1, fun g c => (key g c).2⟩
theorem snd_or {a : E} {es : Es} (sa : Snd G lvl call a) (ss : SndEs G lvl call es) : Snd G lvl call (.or a es) := by
  have key : ∀ {k W X x}, Good G k call W lvl X → chkE k (.or a es) x = true → PE X x (SE G W (evE call (.or a es))) ∧ PT X x (ST G W (evT (evE call (.or a es)))) := by
    intro k W X x g c
    match x, c with
    | .BoolOp .Or (x :: xs) pos, c =>
      obtain ⟨c1, c2⟩ := ands (show (chkE k a x && chkEs k es xs) = true from c)
      obtain ⟨h1, h2⟩ := ss.orr g c2 pos x (evE call a) (sa.pe g c1) (sa.pt g c1)
      exact ⟨h1, h2.pt⟩
  exact ⟨fun g c => (key g c).1, fun g c => (key g c).2⟩
theorem snd_ite {d a b : E} (sd : Snd G lvl call d) (sa : Snd G lvl call a) (sb : Snd G lvl call b) : Snd G lvl call (.ite d a b) := by
  have key : ∀ {k W X x}, Good G k call W lvl X → chkE k (.ite d a b) x = true → PE X x (SE G W (evE call (.ite d a b))) ∧ PT X x (ST G W (evT (evE call (.ite d a b)))) := by
    intro k W X x g c
    match x, c with
    | .IfExp x y z pos, c =>
      obtain ⟨c, c3⟩ := ands (show (chkE k d x && chkE k a y && chkE k b z) = true from c)
      obtain ⟨c1, c2⟩ := ands c
      exact ⟨(pe_ifExp (sd.pt g c1) (sa.pe g c2) (sb.pe g c3)).impl fun σ H Q q => se_if q, (pt_ifE (sd.pt g c1) (sa.pt g c2) (sb.pt g c3)).impl fun σ H Q q => st_if q⟩
  exact ⟨fun g c => (key g c).1, fun g c => (key g c).2⟩
theorem snd_tup {es : Es} (ss : SndEs G lvl call es) : Snd G lvl call (.tup es) := snd_plain (fun {k W X x} g c => by
    cases x with
    | Tuple xs y pos => exact (pe_tup (ss.pa g c)).impl fun σ H Q q => se_tup q
    | _ => cases c) (fun {k x} c env whole => by cases x <;> first | rfl | cases c)
theorem snd_lst {es : Es} (ss : SndEs G lvl call es) : Snd G lvl call (.lst es) := snd_plain (fun {k W X x} g c => by
    cases x with
    | List xs pos => exact (pe_lst (ss.pa g c)).impl fun σ H Q q => se_lst q
    | _ => cases c) (fun {k x} c env whole => by cases x <;> first | rfl | cases c)
theorem snd_call {f : Nat} {es : Es} {ks : Ks} (ss : SndEs G lvl call es) (sk : SndKs G lvl call ks) : Snd G lvl call (.call f es ks) := by
  refine snd_plain (fun {k W X x} g c => ?_) (fun {k x} c env whole => by cases x <;> first | rfl | cases c)
  match x, c with
  | .Call (.Name x p) xs kws pos, c =>
    obtain ⟨c, c3⟩ := ands (show ((match k.fn[f]? with
      | some y => chkG k y.1 x && decide ((xs.length, keysOf ks) ∈ y.2)
      | none => false) && chkEs k es xs && chkKs k ks kws) = true from c)
    obtain ⟨c1, c2⟩ := ands c
    cases q : k.fn[f]? with
    | none => rw [q] at c1; cases c1
    | some y =>
      rw [q] at c1
      obtain ⟨c1, c4⟩ := ands c1
      obtain ⟨y, shs⟩ := y
      obtain ⟨e, hg, hd⟩ := chkG_of g c1
      subst e
      obtain ⟨k1, k2, k3⟩ := sk.kw c3 pos X.env
      exact pe_callG (g.cal f y shs q) g.room g.gd g.tk hg hd (dect c4) (ss.star c2 _) k1 k2 k3 (ss.len c2) sk.len (ss.nil c2) (sk.nil c3) (ss.pa g c2) (sk.pk g c3)
theorem snd_bii {b : Bi} {a : E} (sa : Snd G lvl call a) : Snd G lvl call (.bi b a) := by
  refine snd_plain (fun {k W X x} g c => ?_) (fun {k x} c env whole => by cases x <;> first | rfl | cases c)
  match x, c with
  | .Call (.Name x p) [y] [] pos, c =>
    obtain ⟨c1, c2⟩ := ands (show (chkG k (biN b) x && chkE k a y) = true from c)
    exact snd_bi g c1 (sa.pe g c2) (star_of c2)
theorem snd_isi {t : Ty} {a : E} (sa : Snd G lvl call a) : Snd G lvl call (.isi a t) := by
  refine snd_plain (fun {k W X x} g c => ?_) (fun {k x} c env whole => by cases x <;> first | rfl | cases c)
  match x, c with
  | .Call (.Name x p) [y, .Name z p2] [] pos, c =>
    obtain ⟨c, c3⟩ := ands (show (chkG k "isinstance" x && chkE k a y && chkG k (tyN t) z) = true from c)
    obtain ⟨c1, c2⟩ := ands c
    obtain ⟨e, hg, hd⟩ := chkG_of g c1
    subst e
    obtain ⟨e, hg2, hd2⟩ := chkG_of g c3
    subst e
    have hz : PE X (.Name (tyN t) p2) (tC (.ty (tyS t))) := pe_bltn hg2 (g.blt _ (by cases t <;> simp [tyN])) (boot_ty t) rfl (by cases t <;> decide) hd2
    have ha : PA X [y, .Name (tyN t) p2] (tCons (SE G W (evE call a)) (tCons (tC (.ty (tyS t))) tNil)) := pa_cons (sa.pe g c2) (pa_cons hz pa_nil) (star_of c2 _ _)
    exact (pe_callB (o_isi g.hK t) hg (g.blt _ (by simp)) (by with_unfolding_all rfl) ha (by decide) hd (star_of c2 _ _) rfl).impl fun σ H Q q => se_isi q
theorem snd_ix {a b : E} (sa : Snd G lvl call a) (sb : Snd G lvl call b) : Snd G lvl call (.ix a b) := snd_plain (fun {k W X x} g c => by
    cases x with
    | Subscript x y pos =>
      cases y with
      | Slice _ _ _ _ => 
        obtain ⟨_, c3⟩ := ands (show (chkE k a x && chkE k b _ && plainIx _) = true from c)
        cases c3
      | _ =>
        obtain ⟨c, c3⟩ := ands (show (chkE k a x && chkE k b _ && plainIx _) = true from c)
        obtain ⟨c1, c2⟩ := ands c
        refine (pe_ix (o_ix g.hK) (sa.pe g c1) (sb.pe g c2) (plain_of c3)).impl fun σ H Q q => ?_
        rw [← rD2_id]
        exact se_bin q
    | _ => cases c) (fun {k x} c env whole => by cases x <;> first | rfl | cases c)
theorem snd_sl {a : E} {lo hi : Oe} (sa : Snd G lvl call a) (sl : SndO G lvl call lo) (sh : SndO G lvl call hi) : Snd G lvl call (.sl a lo hi) := by
  refine snd_plain (fun {k W X x} g c => ?_) (fun {k x} c env whole => by cases x <;> first | rfl | cases c)
  match x, c with
  | .Subscript x (.Slice l u none p2) pos, c =>
    obtain ⟨c, c3⟩ := ands (show (chkE k a x && chkO k lo l && chkO k hi u) = true from c)
    obtain ⟨c1, c2⟩ := ands c
    exact (pe_slice (o_sl g.hK) (sa.pe g c1) (sl.po g c2) (sh.po g c3)).impl fun σ H Q q => se_sl q
theorem snd_mt {m : Mt} {a : E} {es : Es} (sa : Snd G lvl call a) (ss : SndEs G lvl call es) : Snd G lvl call (.mt m a es) := by
  refine snd_plain (fun {k W X x} g c => ?_) (fun {k x} c env whole => by cases x <;> first | rfl | cases c)
  match x, c with
  | .Call (.Attribute y x apos) xs [] pos, c =>
    obtain ⟨c, c7⟩ := ands (show (decide (mtN m = x) && chkE k a y && chkEs k es xs && (apos.endLine == pos.line) && !isSuper y && decide (xs.length < 20) && !xs.isEmpty) = true from c)
    obtain ⟨c, c6⟩ := ands c
    obtain ⟨c, c5⟩ := ands c
    obtain ⟨c, c4⟩ := ands c
    obtain ⟨c, c3⟩ := ands c
    obtain ⟨c1, c2⟩ := ands c
    have e := dect c1
    subst e
    have hs := ss.star c3 X.env
    have c5' : isSuper y = false := by simpa using c5
    match xs, c7, c6, c3, hs with
    | z :: zs, _, c6, c3, hs =>
      have hs' : starEach zs X.env = zs.map fun e => (false, eval e X.env) := star_tail hs
      have he : starEach (z :: zs) X.env = (false, eval z X.env) :: starEach zs X.env := by rw [hs, hs']; rfl
      have hfew : ((backTo pos (starEach (z :: zs) X.env)).all (fun x => !x.1) && (backToKw pos (keywordEach [] X.env)).all (fun x => x.1.isSome)
          && decide ((z :: zs).length + ([] : List Keyword).length + (if ([] : List Keyword).isEmpty then 0 else 1) < 30)) = true := by
        have l := dect c6
        rw [hs]
        refine (Bool.and_eq_true _ _).mpr ⟨(Bool.and_eq_true _ _).mpr ⟨?_, rfl⟩, decide_eq_true ?_⟩
        · unfold backTo
          rw [List.map_map, List.all_map]
          refine List.all_eq_true.mpr fun e _ => ?_
          simp
        · show (z :: zs).length + 0 + 0 < 30
          omega
      cases m with
      | join => exact (pe_bm PySem.F.plainAttrs_str PySem.F.slot_str_join PySem.F.type_str_join (o_join g.hK) (sa.pe g c2) (ss.pa g c3) (super_no c5' _ _ _) hfew c4 he (star_any hs')).impl fun σ H Q q => by rw [g.hK]; exact se_join q
theorem lookup_mapf {f : Str × NameKind → Str × NameKind} (h1 : ∀ p, (f p).1 = p.1) {x : Str} {kd : NameKind} (h2 : ∀ n, f (n, kd) = (n, kd)) : ∀ (l : List (Str × NameKind)), l.lookup x = some kd → (l.map f).lookup x = some kd
  | [], h => by cases h
  | (m, q) :: l, h => by
    have h' : (match x == m with | true => some q | false => l.lookup x) = some kd := h
    have e1 := h1 (m, q)
    rw [List.map_cons]
    show (match x == (f (m, q)).1 with | true => some (f (m, q)).2 | false => (l.map f).lookup x) = some kd
    rw [e1]
    cases e : (x == m) with
    | true =>
      rw [e] at h'
      cases (Option.some.inj h' : q = kd)
      rw [h2 m]
    | false =>
      rw [e] at h'
      exact lookup_mapf h1 h2 l h'
theorem relS_lookup {scope sc : Scope} {x : Str} {kd : NameKind} (h : scope.names.lookup x = some kd) (n : kd ≠ .free) : (relS scope sc).names.lookup x = some kd := by
  refine lookup_mapf (fun p => ?_) (fun m => ?_) scope.names h
  · dsimp only
    split <;> rfl
  · have f : (kd == NameKind.free) = false := by cases kd <;> first | rfl | exact absurd rfl n
    simp only [f, Bool.false_and, Bool.false_eq_true, if_false]
theorem noTakes {X : Cx} : Takes X (fun _ _ _ _ => False) := fun _ _ x => by
  obtain ⟨_, _, _, _, _, _, _, _, _, _, _, _, _, _, _, _, z⟩ := x
  exact z.elim
theorem snd_lc {elt : E} {own : List (Str × Nat)} {tg : Tg} {it : It} {cd : Oe} (se : Snd G lvl call elt) (si : SndI G lvl call it) (sc : SndO G lvl call cd) : Snd G lvl call (.lc elt own tg it cd) := by
  refine snd_plain (fun {k W X x} g c => ?_) (fun {k x} c env whole => by cases x <;> first | rfl | cases c)
  match x, c with
  | .ListComp x [⟨t, i, ifs, z⟩] scope pos, c =>
    obtain ⟨c, c8⟩ := ands (show (decide (z = 0) && blkC k.N k.sc scope own && chkTg { k with sc := scope } tg t && tgIn tg own && chkI k it i && chkE { k with sc := relS scope k.sc } elt x && chkC { k with sc := relS scope k.sc } cd ifs && !isSetE i) = true from c)
    obtain ⟨c, c7⟩ := ands c
    obtain ⟨c, c6⟩ := ands c
    obtain ⟨c, c5⟩ := ands c
    obtain ⟨c, c4⟩ := ands c
    obtain ⟨c, c3⟩ := ands c
    obtain ⟨c1, c2⟩ := ands c
    have ez := dect c1
    subst ez
    have c8' : isSetE i = false := by simpa using c8
    have g' : ∀ (s : Shared) (H : Hp) (C : Addr) (cl : List (Str × Addr)) (fp : List Addr), Good G { k with sc := relS scope k.sc } call (fun _ _ _ _ => False) lvl (X.blk s H scope (compEnvC scope cl C X.env) fp) := fun s H C cl fp =>
      ⟨g.hK, g.calm, g.N, g.nd, by show relS scope X.env.scope = _; rw [g.sc], noTakes, g.room, g.gd, g.blt, g.gl, g.cal⟩
    have hg : ∀ (s : Shared) (H : Hp) (C : Addr) (cl : List (Str × Addr)) (fp : List Addr), PG (X.blk s H scope (compEnvC scope cl C X.env) fp) t (gOf X.K tg) := fun s H C cl fp =>
      pg_of (X := X.blk s H scope (compEnvC scope cl C X.env) fp) (k := { k with sc := scope }) g.N g.nd g.calm (fun i x cn => by
        rcases (chkNm_loc cn).2 with l | l
        · exact ⟨.inl (relS_lookup l (fun z => nomatch z)), .inr (relS_lookup l (fun z => nomatch z))⟩
        · refine ⟨.inr (relS_lookup l (fun z => nomatch z)), .inl ?_⟩
          show (scope.names.lookup x == some .cell) = true
          rw [show scope.names.lookup x = some .cell from l]; rfl) c3
    have ht : ∀ i ∈ tgIx tg, i ∈ own.map (·.2) := by
      cases tg with
      | nm j =>
        intro i hi
        rw [List.mem_singleton.mp hi]
        exact dect c4
      | tp is => exact fun i hi => dect (List.all_eq_true.mp (show (is.all fun i => decide (i ∈ own.map (·.2))) = true from c4) i hi)
    refine (pe_lc g.calm (by rw [g.N]; exact g.nd) (si.pi g c5) (by rw [g.N, g.sc]; exact blkOk_by c2) hg (fun s H C cl fp => sc.pc (g' s H C cl fp) c7) (fun s H C cl fp => se.pe (g' s H C cl fp) c6) (isSet_no c8' _)).impl fun σ H Q q => ?_
    exact se_lc g.hK ht q
end
end An

namespace An
open PySem L2

section
variable {G : GX} {lvl : Nat} {call : Nat → List D → List (Str × D) → Hh → Res (D × Hh)}
theorem snds_nil : SndEs G lvl call .nil where
  pa := fun {k W X xs} g c => by
    cases xs with
    | nil => exact pa_nil.impl fun σ H Q q => ses_nil q
    | cons _ _ => cases c
  star := fun {k xs} c env => by
    cases xs with
    | nil => rfl
    | cons _ _ => cases c
  len := fun {k xs} c ρ h x e => by
    cases xs with
    | nil => cases e; rfl
    | cons _ _ => cases c
  nil := fun _ _ => rfl
  an := fun {k W X xs} g c pos x ea hx ht => by
    cases xs with
    | nil =>
      have e : (fun ρ h => (ea ρ h).bind fun x => evAnd call .nil ρ x.2 x.1) = ea := by
        funext ρ h
        exact Res.bind_ok _
      rw [e]
      exact ⟨pe_one hx, pw_and1 ht⟩
    | cons _ _ => cases c
  orr := fun {k W X xs} g c pos x ea hx ht => by
    cases xs with
    | nil =>
      have e : (fun ρ h => (ea ρ h).bind fun x => evOr call .nil ρ x.2 x.1) = ea := by
        funext ρ h
        exact Res.bind_ok _
      rw [e]
      exact ⟨pe_one hx, pw_or1 ht⟩
    | cons _ _ => cases c
theorem snds_cons {e : E} {es : Es} (se : Snd G lvl call e) (ss : SndEs G lvl call es) : SndEs G lvl call (.cons e es) where
  pa := fun {k W X xs} g c => by
    cases xs with
    | nil => cases c
    | cons x xs =>
      obtain ⟨c1, c2⟩ := ands (show (chkE k e x && chkEs k es xs) = true from c)
      exact (pa_cons (se.pe g c1) (ss.pa g c2) (star_of c1 _ _)).impl fun σ H Q q => ses_cons q
  star := fun {k xs} c env => by
    cases xs with
    | nil => cases c
    | cons x xs =>
      obtain ⟨c1, c2⟩ := ands (show (chkE k e x && chkEs k es xs) = true from c)
      rw [star_of c1, ss.star c2]; rfl
  len := fun {k xs} c ρ h x ev => by
    cases xs with
    | nil => cases c
    | cons y xs =>
      obtain ⟨c1, c2⟩ := ands (show (chkE k e y && chkEs k es xs) = true from c)
      have ev' : ((evE call e ρ h).bind fun x => (evEs call es ρ x.2).bind fun y => .ok (x.1 :: y.1, y.2)) = .ok x := ev
      cases e1 : evE call e ρ h with
      | stuck => rw [e1] at ev'; cases ev'
      | err _ _ => rw [e1] at ev'; cases ev'
      | ok a =>
        rw [e1] at ev'
        have ev2 : ((evEs call es ρ a.2).bind fun y => .ok (a.1 :: y.1, y.2)) = .ok x := ev'
        cases e2 : evEs call es ρ a.2 with
        | stuck => rw [e2] at ev2; cases ev2
        | err _ _ => rw [e2] at ev2; cases ev2
        | ok b =>
          rw [e2] at ev2
          cases ev2
          rw [List.length_cons, List.length_cons, ss.len c2 _ _ _ e2]
  nil := fun {k xs} c e => by
    subst e; cases c
  an := fun {k W X xs} g c pos x ea hx ht => by
    cases xs with
    | nil => cases c
    | cons y xs =>
      obtain ⟨c1, c2⟩ := ands (show (chkE k e y && chkEs k es xs) = true from c)
      obtain ⟨h1, h2⟩ := ss.an g c2 pos y (evE call e) (se.pe g c1) (se.pt g c1)
      exact ⟨(pe_andT hx h1).impl fun σ H Q q => by rw [g.hK]; exact se_and q, (pw_and ht h2).impl fun σ H Q q => st_and q⟩
  orr := fun {k W X xs} g c pos x ea hx ht => by
    cases xs with
    | nil => cases c
    | cons y xs =>
      obtain ⟨c1, c2⟩ := ands (show (chkE k e y && chkEs k es xs) = true from c)
      obtain ⟨h1, h2⟩ := ss.orr g c2 pos y (evE call e) (se.pe g c1) (se.pt g c1)
      exact ⟨(pe_orT hx h1).impl fun σ H Q q => by rw [g.hK]; exact se_or q, (pw_or ht h2).impl fun σ H Q q => st_or q⟩
theorem sndk_nil : SndKs G lvl call .nil where
  pk := fun {k W X kws} g c => by
    cases kws with
    | nil => exact pk_nil.impl fun σ H Q q => ses_nil q
    | cons _ _ => cases c
  kw := fun {k kws} c pos env => by
    cases kws with
    | nil => exact ⟨rfl, rfl, rfl⟩
    | cons _ _ => cases c
  len := fun ρ h x e => by cases e; rfl
  nil := fun _ _ => rfl
theorem sndk_cons {n : Str} {e : E} {ks : Ks} (se : Snd G lvl call e) (ss : SndKs G lvl call ks) : SndKs G lvl call (.cons n e ks) where
  pk := fun {k W X kws} g c => by
    match kws, c with
    | ⟨some m, x, p⟩ :: kws, c =>
      obtain ⟨c, c2⟩ := ands (show (decide (n = m) && chkE k e x && chkKs k ks kws) = true from c)
      obtain ⟨c0, c1⟩ := ands c
      exact (pk_cons (se.pe g c1) (ss.pk g c2)).impl fun σ H Q q => ses_cons q
  kw := fun {k kws} c pos env => by
    match kws, c with
    | ⟨some m, x, p⟩ :: kws, c =>
      obtain ⟨c, c2⟩ := ands (show (decide (n = m) && chkE k e x && chkKs k ks kws) = true from c)
      obtain ⟨c0, c1⟩ := ands c
      have en := dect c0
      subst en
      obtain ⟨h1, h2, h3⟩ := ss.kw c2 pos env
      refine ⟨?_, ?_, ?_⟩
      · show (true && (backToKw pos (keywordEach kws env)).all (·.1.isSome)) = true
        rw [h1]; rfl
      · show (false || (backToKw pos (keywordEach kws env)).any (·.1.isNone)) = false
        rw [h2]; rfl
      · show n :: (backToKw pos (keywordEach kws env)).filterMap (·.1) = _
        rw [h3]; rfl
  len := fun ρ h x ev => by
    have ev' : ((evE call e ρ h).bind fun x => (evKs call ks ρ x.2).bind fun y => .ok (x.1 :: y.1, y.2)) = .ok x := ev
    cases e1 : evE call e ρ h with
    | stuck => rw [e1] at ev'; cases ev'
    | err _ _ => rw [e1] at ev'; cases ev'
    | ok a =>
      rw [e1] at ev'
      have ev2 : ((evKs call ks ρ a.2).bind fun y => .ok (a.1 :: y.1, y.2)) = .ok x := ev'
      cases e2 : evKs call ks ρ a.2 with
      | stuck => rw [e2] at ev2; cases ev2
      | err _ _ => rw [e2] at ev2; cases ev2
      | ok b =>
        rw [e2] at ev2
        cases ev2
        show _ = (n :: keysOf ks).length
        rw [List.length_cons, List.length_cons, ss.len _ _ _ e2]
  nil := fun {k kws} c e => by
    subst e; cases c
theorem sndo_nil : SndO G lvl call .none where
  po := fun {k W X x} g c => by
    cases x with
    | none => exact po_none.impl fun σ H Q q => so_nil q
    | some _ => cases c
  pc := fun {k W X x} g c => by
    cases x with
    | nil =>
      refine ⟨fun pins s σ H Q I q => pts_nil.run pins s σ H Q I ?_⟩
      obtain ⟨F, L, ρ, hs, T, φ, h, sr, wf, af⟩ := q
      exact af H φ wf
    | cons _ _ => cases c
theorem sndo_some {e : E} (se : Snd G lvl call e) : SndO G lvl call (.some e) where
  po := fun {k W X x} g c => by
    cases x with
    | none => cases c
    | some x => exact (po_some (se.pe g c)).impl fun σ H Q q => so_some q
  pc := fun {k W X x} g c => by
    match x, c with
    | [x], c => exact pts_one (se.pt g c)
theorem sndi_sq {e : E} (se : Snd G lvl call e) : SndI G lvl call (.sq e) where
  pi := fun {k W X x tg} g c => by
    have h := pi_any (tg := tg) (se.pe g (show chkE k e x = true from c))
    exact ⟨fun pins s σ H R I q => h.run pins s σ H R I (by rw [g.hK]; exact si_any q)⟩
theorem sndi_rg {e : E} (se : Snd G lvl call e) : SndI G lvl call (.rg e) where
  pi := fun {k W X x tg} g c => by
    match x, c with
    | .Call (.Name x p) [y] [] pos, c =>
      obtain ⟨c1, c2⟩ := ands (show (chkG k "range" x && chkE k e y) = true from c)
      obtain ⟨ex, hg, hd⟩ := chkG_of g c1
      subst ex
      have h := pi_range1 (tg := tg) (p := p) (pos := pos) hg (g.blt _ (by simp)) (pa_cons (se.pe g c2) pa_nil (star_of c2 _ _)) (star_one c2 _)
      exact ⟨fun pins s σ H R I q => h.run pins s σ H R I (si_rng q)⟩
/-! ### every expression -/
mutual
theorem sndE : ∀ e : E, Snd G lvl call e
  | .var i => snd_var
  | .pk i => snd_pk
  | .gv x d => snd_gv
  | .cst d => snd_cst
  | .bin o a b => snd_bin (sndE a) (sndE b)
  | .neg a => snd_neg (sndE a)
  | .cmp o a b => snd_cmp (sndE a) (sndE b)
  | .chn o o' a b c => snd_chn (sndE a) (sndE b) (sndE c)
  | .not a => snd_not (sndE a)
  | .and a es => snd_and (sndE a) (sndEs es)
  | .or a es => snd_or (sndE a) (sndEs es)
  | .ite c a b => snd_ite (sndE c) (sndE a) (sndE b)
  | .tup es => snd_tup (sndEs es)
  | .lst es => snd_lst (sndEs es)
  | .call f es ks => snd_call (sndEs es) (sndKs ks)
  | .bi b a => snd_bii (sndE a)
  | .isi a t => snd_isi (sndE a)
  | .mt m o es => snd_mt (sndE o) (sndEs es)
  | .ix a i => snd_ix (sndE a) (sndE i)
  | .sl a lo hi => snd_sl (sndE a) (sndO lo) (sndO hi)
  | .lc elt own tg it c => snd_lc (sndE elt) (sndI it) (sndO c)
theorem sndEs : ∀ es : Es, SndEs G lvl call es
  | .nil => snds_nil
  | .cons e es => snds_cons (sndE e) (sndEs es)
theorem sndKs : ∀ ks : Ks, SndKs G lvl call ks
  | .nil => sndk_nil
  | .cons k e ks => sndk_cons (sndE e) (sndKs ks)
theorem sndO : ∀ o : Oe, SndO G lvl call o
  | .none => sndo_nil
  | .some e => sndo_some (sndE e)
theorem sndI : ∀ i : It, SndI G lvl call i
  | .sq e => sndi_sq (sndE e)
  | .rg e => sndi_rg (sndE e)
end
end
end An

namespace An
open PySem L2

def AftS (G : GX) (W : WX) (F : FX) (L : List (Addr × Obj)) (T : List (V × Sl)) (Dn : Ends) : RS → Prop
  | .nx ρ' h' => ∀ σ' hs' H' φ', SR ρ' σ' hs' → Wf G F L φ' h' H' (hs' ++ T) → Dn.nx σ' H'
  | .rt d h' => ∀ v H' φ', Wf G F L φ' h' H' ((v, .val d) :: T) → Dn.rt v H'
  | .bk ρ' h' => ∀ σ' hs' H' φ', SR ρ' σ' hs' → Wf G F L φ' h' H' (hs' ++ T) → Dn.bk σ' H'
  | .ct ρ' h' => ∀ σ' hs' H' φ', SR ρ' σ' hs' → Wf G F L φ' h' H' (hs' ++ T) → Dn.ct σ' H'
  | .err x ρ' h' => ∀ σ' hs' cls d H' φ', SR ρ' σ' hs' → Wf G F L φ' h' H' (hs' ++ T) → RelX G φ' (MZ F φ' (hs' ++ T)) H' x cls d → W cls d σ' H'
  | .stuck => False
def SS (G : GX) (W : WX) (ev : Env → Hh → RS) : TS := fun Dn σ H => ∃ F L ρ hs T φ h, SR ρ σ hs ∧ Wf G F L φ h H (hs ++ T) ∧ AftS G W F L T Dn (ev ρ h)
section
variable {G : GX} {W : WX} {F : FX} {L : List (Addr × Obj)} {ρ : Env} {hs T A B base all : List (V × Sl)} {σ : L2.St} {φ φ' : List Addr} {h h' : Hh} {H H' : Hp} {M : Addr → Prop} {Dn : Ends}
/-- an expression of a statement -/
theorem aft_st {α : Type} {m : Res (α × Hh)} {f : α × Hh → RS} (sr : SR ρ σ hs) (af : AftS G W F L T Dn (m.st ρ f)) : Aft (fun r h' => AftS G W F L T Dn (f (r, h'))) (AftX G W F L hs T σ) m := by
  cases m with
  | ok x => exact af
  | err x h => exact fun cls d H' φ' w r => af σ hs cls d H' φ' sr w r
  | stuck => exact af
theorem se_st {ev : Env → Hh → Res (R × Hh)} {f : R × Hh → RS} {Q : VK} (sr : SR ρ σ hs) (wf : Wf G F L φ h H (A ++ (hs ++ T))) (af : AftS G W F L T Dn ((ev ρ h).st ρ f))
    (hk : ∀ r h', AftS G W F L T Dn (f (r, h')) → ∀ v H' φ', Wf G F L φ' h' H' (rh v r ++ (A ++ (hs ++ T))) → RW ρ hs r v → Q v H') : SE G W ev σ H Q :=
  ⟨F, L, ρ, hs, A ++ T, φ, h, sr, wf.perm perm_in, (aft_st sr af).mono (fun r h' a v H' φ' w rw => hk r h' a v H' φ' (w.perm perm_ev) rw) fun _ _ a => a.weak⟩
theorem st_st {ev : Env → Hh → Res (Bool × Hh)} {f : Bool × Hh → RS} {Q : Bool → Hp → Prop} (sr : SR ρ σ hs) (wf : Wf G F L φ h H (hs ++ T)) (af : AftS G W F L T Dn ((ev ρ h).st ρ f))
    (hk : ∀ r h', AftS G W F L T Dn (f (r, h')) → ∀ H' φ', Wf G F L φ' h' H' (hs ++ T) → Q r H') : ST G W ev σ H Q :=
  ⟨F, L, ρ, hs, T, φ, h, sr, wf, (aft_st sr af).mono (fun r h' a H' φ' w => hk r h' a H' φ' w) fun _ _ a => a⟩
theorem si_st {ev : Env → Hh → Res (List D × Hh)} {f : List D × Hh → RS} {Q : L2.It → Hp → Prop} (sr : SR ρ σ hs) (wf : Wf G F L φ h H (hs ++ T)) {Dn : Ends} (af : AftS G W F L T Dn ((ev ρ h).st ρ f))
    (hk : ∀ ds h', AftS G W F L T Dn (f (ds, h')) → ∀ J B H' φ', Wf G F L φ' h' H' (B ++ (hs ++ T)) → Wk G F L B ds J → Q J H') : SI G W ev σ H Q :=
  ⟨F, L, ρ, hs, T, φ, h, sr, wf, (aft_st sr af).mono (fun r h' a J B H' φ' w wk => hk r h' a J B H' φ' w wk) fun _ _ a => a⟩
theorem aft_seq {r : RS} {f : Env → Hh → RS} (af : AftS G W F L T Dn (r.seq f)) : AftS G W F L T { Dn with nx := SS G W f Dn } r := by
  cases r with
  | nx ρ' h' => exact fun σ' hs' H' φ' sr w => ⟨F, L, ρ', hs', T, φ', h', sr, w, af⟩
  | rt d h' => exact af
  | bk ρ' h' => exact af
  | ct ρ' h' => exact af
  | err x ρ' h' => exact af
  | stuck => exact af
theorem ss_seq {ev f : Env → Hh → RS} (q : SS G W (fun ρ h => (ev ρ h).seq f) Dn σ H) : tSeq (SS G W ev) (SS G W f) Dn σ H := by
  obtain ⟨F, L, ρ, hs, T, φ, h, sr, wf, af⟩ := q
  exact ⟨F, L, ρ, hs, T, φ, h, sr, wf, aft_seq af⟩

/-! ### stores -/
/-- what we own is stored -/
theorem put_own {c : C} {v : V} (i : Nat) (sr : SR ρ σ hs) (w : Wf G F L φ h H ((v, .own c) :: (hs ++ T))) : ∃ hs', SR (ρ.set i (.own c)) (σ.set i (some v)) hs' ∧ Wf G F L φ h H (hs' ++ T) := by
  by_cases l : i < ρ.length
  · obtain ⟨rest, hs', sb, sr', pm⟩ := SR.set (s := .own c) (v := v) i sr l (fun z => nomatch z)
    exact ⟨hs', sr', (w.sub ((sb.append (List.Sublist.refl T)).cons_cons _)).perm (pm.append_right T).symm⟩
  · rw [List.set_eq_of_length_le (by omega), List.set_eq_of_length_le (by rw [sr.length]; omega)]
    exact ⟨hs, sr, w.drop⟩
theorem put_holder {d : D} {v : V} (i : Nat) (sr : SR ρ σ hs) (w : Wf G F L φ h H ((v, .val d) :: (hs ++ T))) : ∃ hs', SR (ρ.set i (.val d)) (σ.set i (some v)) hs' ∧ Wf G F L φ h H (hs' ++ T) := by
  have r := w.hold v (.val d) List.mem_cons_self
  rw [mz_val] at r
  obtain ⟨hs', s1, w1, _⟩ := put_val i sr w.drop r
  exact ⟨hs', s1, w1⟩
theorem putM_ok {m : Mode} {i : Nat} {r : R} {v : V} (sr : SR ρ σ hs) (af : AftS G W F L T Dn (putM ρ i h m r)) (w : Wf G F L φ h H (rh v r ++ (hs ++ T))) (rw1 : RW ρ hs r v) : gName i v σ H Dn.nx := by
  cases m with
  | frz =>
    have af' : AftS G W F L T Dn (match toD r with
      | some d => .nx (ρ.set i (.val d)) h
      | none => .stuck) := af
    cases e : toD r with
    | none => rw [e] at af'; exact af'.elim
    | some d =>
      rw [e] at af'
      obtain ⟨hs', s1, w1⟩ := put_holder i sr (toD_hold e w)
      exact af' _ hs' H φ s1 w1
  | own =>
    cases r with
    | fr c =>
      obtain ⟨hs', s1, w1⟩ := put_own i sr w
      exact af _ hs' H φ s1 w1
    | val d => exact af.elim
    | vw j => exact af.elim
  | cel =>
    cases r with
    | fr c =>
      obtain ⟨a, ev, _⟩ := Wf.own_at w
      subst ev
      obtain ⟨hs', s1, w1⟩ := put_holder i sr (Wf.toCell w)
      exact af _ hs' H _ s1 w1
    | val d => exact af.elim
    | vw j => exact af.elim
theorem ss_asg {ev : Env → Hh → Res (R × Hh)} {m : Mode} {i : Nat} (q : SS G W (fun ρ h => (ev ρ h).st ρ fun x => putM ρ i x.2 m x.1) Dn σ H) : tAsg (SE G W ev) (gName i) Dn σ H := by
  obtain ⟨F, L, ρ, hs, T, φ, h, sr, wf, af⟩ := q
  exact se_st (A := []) sr wf af fun r h1 af1 v H1 φ1 wf1 rw1 => putM_ok sr af1 wf1 rw1
theorem ss_ret {ev : Env → Hh → Res (R × Hh)} {m : Mode} (q : SS G W (fun ρ h => (ev ρ h).st ρ fun x => retM x.2 m x.1) Dn σ H) : tRet (SE G W ev) Dn σ H := by
  obtain ⟨F, L, ρ, hs, T, φ, h, sr, wf, af⟩ := q
  refine se_st (A := []) sr wf af fun r h1 af1 v H1 φ1 wf1 rw1 => ?_
  have wf1 : Wf G F L φ1 h1 H1 (rh v r ++ (hs ++ T)) := wf1
  cases m with
  | frz =>
    have af' : AftS G W F L T Dn (match toD r with
      | some d => .rt d h1
      | none => .stuck) := by cases r <;> exact af1
    cases e : toD r with
    | none => rw [e] at af'; exact af'.elim
    | some d =>
      rw [e] at af'
      exact af' v H1 φ1 ((toD_hold e wf1).sub ((List.sublist_append_right _ _).cons_cons _))
  | own => cases r <;> exact af1.elim
  | cel =>
    cases r with
    | fr c =>
      obtain ⟨a, ev, _⟩ := Wf.own_at wf1
      subst ev
      exact af1 _ H1 _ ((Wf.toCell wf1).sub ((List.sublist_append_right _ _).cons_cons _))
    | val d => exact af1.elim
    | vw j => exact af1.elim
theorem ss_ex {ev : Env → Hh → Res (R × Hh)} (q : SS G W (fun ρ h => (ev ρ h).st ρ fun x => .nx ρ x.2) Dn σ H) : tDrop (SE G W ev) Dn σ H := by
  obtain ⟨F, L, ρ, hs, T, φ, h, sr, wf, af⟩ := q
  exact se_st (A := []) sr wf af fun r h1 af1 v H1 φ1 wf1 rw1 => af1 σ hs H1 φ1 sr (wf1.sub (List.sublist_append_right _ _))
theorem ss_ite {ev : Env → Hh → Res (R × Hh)} {fa fb : Env → Hh → RS} (q : SS G W (fun ρ h => (ev ρ h).st ρ fun x => (match truR ρ x.2 x.1 with
    | some true => fa ρ x.2
    | some false => fb ρ x.2
    | none => .stuck)) Dn σ H) : tIfS (ST G W (evT ev)) (SS G W fa) (SS G W fb) Dn σ H := by
  obtain ⟨F, L, ρ, hs, T, φ, h, sr, wf, af⟩ := q
  have e : (ev ρ h).st ρ (fun x => (match truR ρ x.2 x.1 with
    | some true => fa ρ x.2
    | some false => fb ρ x.2
    | none => .stuck)) = (evT ev ρ h).st ρ fun y => if y.1 = true then fa ρ y.2 else fb ρ y.2 := by
    unfold evT
    cases ev ρ h with
    | ok x =>
      show (match truR ρ x.2 x.1 with
        | some true => fa ρ x.2
        | some false => fb ρ x.2
        | none => .stuck) = Res.st ((ofO (truR ρ x.2 x.1)).bind fun k => .ok (k, x.2)) ρ _
      cases truR ρ x.2 x.1 with
      | none => rfl
      | some k => cases k <;> rfl
    | err x h => rfl
    | stuck => rfl
  dsimp only at af
  rw [e] at af
  refine st_st sr wf af fun k h1 af1 H1 φ1 wf1 => ?_
  cases k with
  | true => exact ⟨F, L, ρ, hs, T, φ1, h1, sr, wf1, af1⟩
  | false => exact ⟨F, L, ρ, hs, T, φ1, h1, sr, wf1, af1⟩
end
end An

namespace An
open PySem L2

section
variable {G : GX} {W : WX} {F : FX} {L : List (Addr × Obj)} {ρ : Env} {hs T A B base all : List (V × Sl)} {σ : L2.St} {φ φ' : List Addr} {h h' : Hh} {H H' : Hp} {M : Addr → Prop} {Dn : Ends} {K : PySem.W.Frag}
theorem ss_setix {ee eo ei : Env → Hh → Res (R × Hh)} (q : SS G W (fun ρ h => (ee ρ h).st ρ fun x => (eo ρ x.2).st ρ fun y => (ei ρ y.2).st ρ fun z => (match setC z.2 y.1 z.1 x.1 with
    | some h' => .nx ρ h'
    | none => .stuck)) Dn σ H) : tAsg (SE G W ee) (gSub (SE G W eo) (SE G W ei) rSetL) Dn σ H := by
  obtain ⟨F, L, ρ, hs, T, φ, h, sr, wf, af⟩ := q
  refine se_st (A := []) sr wf af fun a h1 af1 x H1 φ1 wf1 rw1 => ?_
  refine se_st (A := rh x a) sr wf1 af1 fun b h2 af2 y H2 φ2 wf2 rw2 => ?_
  have wf2' : Wf G F L φ2 h2 H2 ((rh y b ++ rh x a) ++ (hs ++ T)) := by rw [List.append_assoc]; exact wf2
  refine se_st (A := rh y b ++ rh x a) sr wf2' af2 fun c h3 af3 z H3 φ3 wf3 rw3 => ?_
  dsimp only at af3
  cases e : setC h3 b c a with
  | none => rw [e] at af3; exact af3.elim
  | some h' =>
    rw [e] at af3
    match b, e, rw2, wf3 with
    | .val (.ref k), e, rw2, wf3 =>
      have e' : (match h3[k]? with
        | some (.lst xs) => (intOf c).bind fun j => (ixN xs.length j).bind fun n => (toD a).map fun d => h3.set k (.lst (xs.set n d))
        | _ => none) = some h' := e
      match eh : h3[k]? with
      | some (.lst xs) =>
        rw [eh] at e'
        obtain ⟨j, e1, e'⟩ := Option.bind_eq_some_iff.mp e'
        obtain ⟨n, e2, e'⟩ := Option.bind_eq_some_iff.mp e'
        obtain ⟨d, e3, e'⟩ := Option.map_eq_some_iff.mp e'
        subst e'
        obtain ⟨p, ep, ey⟩ := (show ∃ p, φ3[k]? = some p ∧ y = .ref p from wf3.hold y (.val (.ref k)) (List.mem_append_right _ (List.mem_append_left _ (List.mem_append_left _ List.mem_cons_self))))
        have ez := Has.int wf3 (has1 rw3) e1
        have w0 : Wf G F L φ3 h3 H3 (rh x a ++ (hs ++ T)) := wf3.sub (by rw [List.append_assoc]; exact (List.sublist_append_right (rh y (.val (.ref k))) _).trans (List.sublist_append_right _ _))
        have w1 := toD_hold e3 w0
        obtain ⟨vs, hv, lz, rr⟩ := w1.cell k p _ ep eh
        have rx := w1.hold x (.val d) List.mem_cons_self
        refine ⟨p, vs, j, n, ey, ez, hv, by rw [rr.length]; exact e2, ?_⟩
        have w2 := w1.setCell (o := .lst (vs.set n x)) (c := .lst (xs.set n d)) ep ⟨vs.set n x, upd_same, by rw [List.length_set]; exact lz, (rr.set n rx).mono (stay_set (.inl (List.mem_of_getElem? ep)))⟩
        exact af3 σ hs _ φ3 sr w2.drop
      | some (.dct _ _) => rw [eh] at e'; cases e'
      | some (.ins _ _ _) => rw [eh] at e'; cases e'
      | none => rw [eh] at e'; cases e'
theorem ss_app {ee : Env → Hh → Res (R × Hh)} {i : Nat} (q : SS G W (fun ρ h => (match ρ[i]? with
    | some (.own (.lst xs)) => (ee ρ h).st ρ fun x => (match toD x.1 with
      | some d => if xs.length < 16777216 then .nx (ρ.set i (.own (.lst (xs ++ [d])))) x.2 else .stuck
      | none => .stuck)
    | _ => .stuck)) Dn σ H) : tDrop (tBM K "list" rAppend (tVar i) (tCons (SE G W ee) tNil)) Dn σ H := by
  obtain ⟨F, L, ρ, hs, T, φ, h, sr, wf, af⟩ := q
  dsimp only at af
  match eρ : ρ[i]? with
  | none => rw [eρ] at af; exact af.elim
  | some .none => rw [eρ] at af; exact af.elim
  | some (.val _) => rw [eρ] at af; exact af.elim
  | some (.own (.dct _ _)) => rw [eρ] at af; exact af.elim
  | some (.own (.ins _ _ _)) => rw [eρ] at af; exact af.elim
  | some (.own (.lst xs)) =>
    rw [eρ] at af
    have hz := sizeLine_eq
    obtain ⟨v, rest, ev, pm, k⟩ := sr.swap eρ (fun z => nomatch z)
    have pm' : (hs ++ T).Perm ((v, .own (.lst xs)) :: (rest ++ T)) := pm.append_right T
    obtain ⟨a, ea, vs, hv, _, _⟩ := (wf.perm pm').own_at
    subst ea
    refine ⟨.ref a, ev, .inl ⟨rfl, vs, .inl (.of hv)⟩, ?_⟩
    refine se_st (A := []) sr wf af fun r h1 af1 y H1 φ1 wf1 rw1 => ?_
    dsimp only at af1
    cases e : toD r with
    | none => rw [e] at af1; exact af1.elim
    | some d =>
      rw [e] at af1
      by_cases l : xs.length < 16777216
      · dsimp only at af1
        rw [if_pos l] at af1
        have w1 := toD_hold e wf1
        have w2 : Wf G F L φ1 h1 H1 ((.ref a, .own (.lst xs)) :: ((y, .val d) :: (rest ++ T))) := (w1.perm (pm'.cons _)).perm (List.Perm.swap ..)
        obtain ⟨a2, ea, vs2, hv2, lz, rr⟩ := w2.own_at
        cases ea
        have ry := w2.hold y (.val d) (List.mem_cons_of_mem _ List.mem_cons_self)
        have ma : MZ F φ1 ((.ref a, .own (.lst xs)) :: ((y, .val d) :: (rest ++ T))) a := by rw [mz_own]; exact .inr rfl
        have lv := rr.length
        have w3 : Wf G F L φ1 h1 (upd H1 a (.lst (vs2 ++ [y]))) ((.ref a, .own (.lst (xs ++ [d]))) :: ((y, .val d) :: (rest ++ T))) :=
          w2.setOwn ⟨vs2 ++ [y], upd_same, by rw [List.length_append, List.length_singleton]; omega, (rr.append (RelDs.cons_iff.mpr ⟨y, [], rfl, ry, RelDs.nil_iff.mpr rfl⟩)).mono (stay_set ma)⟩
        obtain ⟨hs', sr', pm2⟩ := k (.own (.lst (xs ++ [d]))) (fun z => nomatch z)
        exact ⟨a, vs2, y, rfl, rfl, hv2, by omega, af1 σ hs' _ φ1 sr' ((w3.sub ((List.sublist_cons_self _ _).cons_cons _)).perm (pm2.append_right T).symm)⟩
      · dsimp only at af1
        rw [if_neg l] at af1
        exact af1.elim
/-- a ghost: what we own is changed no more -/
theorem ss_frz {i : Nat} {f : Env → Hh → RS} (q : SS G W (fun ρ h => ((match ρ[i]? with
    | some (.own c) => .nx (ρ.set i (.val c.toD)) h
    | _ => .stuck) : RS).seq f) Dn σ H) : SS G W f Dn σ H := by
  obtain ⟨F, L, ρ, hs, T, φ, h, sr, wf, af⟩ := q
  dsimp only at af
  match eρ : ρ[i]? with
  | none => rw [eρ] at af; exact af.elim
  | some .none => rw [eρ] at af; exact af.elim
  | some (.val _) => rw [eρ] at af; exact af.elim
  | some (.own c) =>
    rw [eρ] at af
    obtain ⟨v, rest, ev, pm, k⟩ := sr.swap eρ (fun z => nomatch z)
    obtain ⟨hs', sr', pm2⟩ := k (.val c.toD) (fun z => nomatch z)
    have w1 : Wf G F L φ h H ((v, .own c) :: (rest ++ T)) := wf.perm (pm.append_right T)
    exact ⟨F, L, _, hs', T, φ, h, sr', w1.freeze.perm (pm2.append_right T).symm, af⟩
def forF (fb : Env → Hh → RS) (tg : Tg) (d : D) (ρ : Env) (h : Hh) : RS := match setTg ρ tg d with
  | some ρ' => fb ρ' h
  | none => .stuck
theorem ss_for {X : Cx} {ei : Env → Hh → Res (List D × Hh)} {fb : Env → Hh → RS} {tg : Tg} (hK : X.K = G.K) (q : SS G W (fun ρ h => (ei ρ h).st ρ fun x => forL (forF fb tg) x.1 ρ x.2) Dn σ H) :
    tFor (SI G W ei) (gOf X.K tg) (SS G W fb) Dn σ H := by
  obtain ⟨F, L, ρ, hs, T, φ, h, sr, wf, af⟩ := q
  refine si_st sr wf af fun ds h1 af1 J B H1 φ1 wf1 wk => ?_
  have af1 : AftS G W F L T Dn (forL (forF fb tg) ds ρ h1) := af1
  have sbT : ∀ {U : List (V × Sl)}, (U ++ T).Sublist (U ++ (B ++ T)) := fun {U} => (List.Sublist.refl U).append (List.sublist_append_right _ _)
  refine for_it (wk_walk wk) (fun i σ H => ∃ ρ hs φ h, SR ρ σ hs ∧ Wf G F L φ h H (hs ++ (B ++ T)) ∧ AftS G W F L T Dn (forL (forF fb tg) (ds.drop i) ρ h)) ⟨ρ, hs, φ1, h1, sr, wf1.perm perm_in, af1⟩ ?_ ?_ ?_
  · rintro i σ H _ ⟨ρ, hs, φ, h, _, w, _⟩
    exact ⟨φ, h, _, w, fun x hx => List.mem_append_right _ (List.mem_append_left _ hx)⟩
  · rintro i x σ H H' hi ⟨ρ, hs, φ, h, sr, w, af2⟩ y
    obtain ⟨e1, d, ed, rd⟩ := wk.yl φ h H _ i x H' w (fun x hx => List.mem_append_right _ (List.mem_append_left _ hx)) hi y
    subst e1
    have ei : ds[i] = d := (List.getElem?_eq_some_iff.mp ed).2
    rw [List.drop_eq_getElem_cons hi, ei] at af2
    have af3 : AftS G W F L T Dn (match forF fb tg d ρ h with
      | .nx ρ' h' => forL (forF fb tg) (ds.drop (i + 1)) ρ' h'
      | .ct ρ' h' => forL (forF fb tg) (ds.drop (i + 1)) ρ' h'
      | .bk ρ' h' => .nx ρ' h'
      | r => r) := af2
    unfold forF at af3
    cases et : setTg ρ tg d with
    | none => rw [et] at af3; exact af3.elim
    | some ρ' =>
      rw [et] at af3
      refine tg_go hK et sr w rd fun σ2 hs2 sr2 w2 _ => ⟨F, L, ρ', hs2, B ++ T, φ, h, sr2, w2, ?_⟩
      dsimp only at af3
      cases er : fb ρ' h with
      | nx ρ3 h3 => rw [er] at af3; exact fun σ' hs' H' φ' s' w' => ⟨ρ3, hs', φ', h3, s', w', af3⟩
      | ct ρ3 h3 => rw [er] at af3; exact fun σ' hs' H' φ' s' w' => ⟨ρ3, hs', φ', h3, s', w', af3⟩
      | bk ρ3 h3 => rw [er] at af3; exact fun σ' hs' H' φ' s' w' => af3 σ' hs' H' φ' s' (w'.sub sbT)
      | rt d h3 => rw [er] at af3; exact fun v H' φ' w' => af3 v H' φ' (w'.sub ((List.sublist_append_right _ _).cons_cons _))
      | err x ρ3 h3 => rw [er] at af3; exact fun σ' hs' cls d H' φ' s' w' rx => af3 σ' hs' cls d H' φ' s' (w'.sub sbT) (rx.sub sbT)
      | stuck => rw [er] at af3; exact af3
  · rintro σ H ⟨ρ, hs, φ, h, sr, w, af2⟩
    rw [List.drop_length] at af2
    have af3 : AftS G W F L T Dn (.nx ρ h) := af2
    exact af3 σ hs H φ sr (w.sub sbT)
end
end An

namespace An
open PySem L2

section
variable {G : GX} {lvl : Nat} {call : Nat → List D → List (Str × D) → Hh → Res (D × Hh)} {W : WX} {X : Cx} {k : Ck}
theorem no_swap {e : E} {y : Expr} (c : noComp y = true) (t : Option Expr) (l : Nat) (env : PySem.Env) : swapsWith y t l env = pure false := by
  cases y <;> first
    | rfl
    | cases c
/-- name = e -/
theorem ps_asgE {e : E} {i : Nat} {x : Str} {px pos : Pos} {y : Expr} (g : GoodS G k call W lvl X) (c1 : chkNm k i x = true) (c2 : chkE k e y = true) (c3 : lcAlone k x px y = true) : PS X (.Assign [.Name x px] y pos) (tAsg (SE G W (evE call e)) (gName i)) := by
  have hN : X.N.Nodup := by rw [g.N]; exact g.nd
  have hi : X.N[i]? = some x := by rw [g.N]; exact (chkNm_loc c1).1
  by_cases hc : noComp y = true
  · exact ps_set hN hi (g.st i x c1).1 ((sndE e).pe g.toGood c2) (no_swap (e := e) hc _ _ _) (g.st i x c1).2
  · cases e with
    | lc elt own tg it cd =>
      match y, c2, c3, hc with
      | .ListComp elt' [⟨t, it', ifs, z⟩] scope lpos, c, c3, hc =>
        obtain ⟨c, c8⟩ := ands (show (decide (z = 0) && blkC k.N k.sc scope own && chkTg { k with sc := scope } tg t && tgIn tg own && chkI k it it' && chkE { k with sc := relS scope k.sc } elt elt' && chkC { k with sc := relS scope k.sc } cd ifs && !isSetE it') = true from c)
        obtain ⟨c, c7⟩ := ands c
        obtain ⟨c, c6⟩ := ands c
        obtain ⟨c, c5⟩ := ands c
        obtain ⟨c, c4⟩ := ands c
        obtain ⟨c, c3'⟩ := ands c
        obtain ⟨c0, c2⟩ := ands c
        have ez := dect c0
        subst ez
        have c8' : isSetE it' = false := by simpa using c8
        have g0 := g.toGood
        have g' : ∀ (s : Shared) (H : Hp) (C : Addr) (cl : List (Str × Addr)) (fp : List Addr), Good G { k with sc := relS scope k.sc } call (fun _ _ _ _ => False) lvl (X.blk s H scope (compEnvC scope cl C X.env) fp) := fun s H C cl fp =>
          ⟨g0.hK, g0.calm, g0.N, g0.nd, by show relS scope X.env.scope = _; rw [g0.sc], noTakes, g0.room, g0.gd, g0.blt, g0.gl, g0.cal⟩
        have hg : ∀ (s : Shared) (H : Hp) (C : Addr) (cl : List (Str × Addr)) (fp : List Addr), PG (X.blk s H scope (compEnvC scope cl C X.env) fp) t (gOf X.K tg) := fun s H C cl fp =>
          pg_of (X := X.blk s H scope (compEnvC scope cl C X.env) fp) (k := { k with sc := scope }) g0.N g0.nd g0.calm (fun i x cn => by
            rcases (chkNm_loc cn).2 with l | l
            · exact ⟨.inl (relS_lookup l (fun z => nomatch z)), .inr (relS_lookup l (fun z => nomatch z))⟩
            · refine ⟨.inr (relS_lookup l (fun z => nomatch z)), .inl ?_⟩
              show (scope.names.lookup x == some .cell) = true
              rw [show scope.names.lookup x = some .cell from l]; rfl) c3'
        have ht : ∀ i ∈ tgIx tg, i ∈ own.map (·.2) := by
          cases tg with
          | nm j =>
            intro i hi
            rw [List.mem_singleton.mp hi]
            exact dect c4
          | tp is => exact fun i hi => dect (List.all_eq_true.mp (show (is.all fun i => decide (i ∈ own.map (·.2))) = true from c4) i hi)
        obtain ⟨c9, c10⟩ := ands (show (locB k.sc x && (px.line == lpos.line) && !(scope.names.any fun (n, k) => n == x && (k == .local || k == .cell))) = true from c3)
        obtain ⟨c9, c11⟩ := ands c9
        have hyl : X.env.scope.names.lookup x = some .local := by
          rw [g0.sc]
          unfold locB at c9
          split at c9
          · assumption
          · cases c9
        have hk : X.env.scope.kind = .function ∨ True := .inr trivial
        refine ⟨fun pins s σ H Dn I q => ?_⟩
        have hsw : swapsWith (.ListComp elt' [⟨t, it', ifs, 0⟩] scope lpos) (some (.Name x px)) pos.line X.env = pure true := sw_true I.ok.kind hyl c11 (by simpa using c10)
        exact (ps_setLc (spos := pos) g0.calm hN hi hyl hsw ((sndI it).pi g0 c5) (by rw [g0.N, g0.sc]; exact blkOk_by c2) hg (fun s H C cl fp => (sndO cd).pc (g' s H C cl fp) c7) (fun s H C cl fp => (sndE elt).pe (g' s H C cl fp) c6) (isSet_no c8' _)).run pins s σ H Dn I (se_lc g0.hK ht q)
    | _ => exact absurd (by cases y <;> first | rfl | cases c2) hc
structure SndS (G : GX) (lvl : Nat) (call : Nat → List D → List (Str × D) → Hh → Res (D × Hh)) (s : S) : Prop where
  ps : ∀ {k W X x}, GoodS G k call W lvl X → chkS k s x = true → PS X x (SS G W (evS call s))
structure SndSs (G : GX) (lvl : Nat) (call : Nat → List D → List (Str × D) → Hh → Res (D × Hh)) (s : Ss) : Prop where
  pss : ∀ {k W X x}, GoodS G k call W lvl X → chkSs k s x = true → PSs X x (SS G W (evSs call s))
theorem snds_asg {m : Mode} {i : Nat} {e : E} : SndS G lvl call (.asg m i e) where
  ps := fun {k W X x} g c => by
    obtain ⟨⟨x, px, y, pos⟩, ev, c⟩ := onO_eq (o := vAsg x) c
    rw [vAsg_eq ev]
    obtain ⟨c, c3⟩ := ands c
    obtain ⟨c1, c2⟩ := ands c
    exact (ps_asgE g c1 c2 c3).impl fun D σ H q => ss_asg q
theorem snds_setix {o i e : E} : SndS G lvl call (.setix o i e) where
  ps := fun {k W X x} g c => by
    obtain ⟨⟨x, y, p2, z, pos⟩, ev, c⟩ := onO_eq (o := vSet x) c
    rw [vSet_eq ev]
    obtain ⟨c, c5⟩ := ands c
    obtain ⟨c, c4⟩ := ands c
    obtain ⟨c, c3⟩ := ands c
    obtain ⟨c1, c2⟩ := ands c
    have c3 : plainIx y = true := c3
    have c5 : noComp z = true := c5
    · refine (ps_asg ((sndE e).pe g.toGood c4) (pg_sub ((sndE o).pe g.toGood c1) ((sndE i).pe g.toGood c2) set_list ?_) ?_ ?_ rfl).impl fun D σ H q => ss_setix q
      · intro v
        cases y <;> first
          | rfl
          | cases c3
      · cases z <;> first
          | rfl
          | cases c5
      · cases z <;> rfl
theorem snds_app {i : Nat} {e : E} : SndS G lvl call (.app i e) where
  ps := fun {k W X x} g c => by
    obtain ⟨⟨x, p, m, apos, y, pos, p2⟩, ev, c⟩ := onO_eq (o := vApp x) c
    rw [vApp_eq ev]
    obtain ⟨c, c4⟩ := ands c
    obtain ⟨c, c3⟩ := ands c
    obtain ⟨c1, c2⟩ := ands c
    have em : m = "append" := dect c1
    have c3 : chkE k e y = true := c3
    have c4 : (apos.endLine == pos.line) = true := c4
    · skip
      subst em
      have ha : PA X [y] (tCons (SE G W (evE call e)) tNil) := pa_cons ((sndE e).pe g.toGood c3) pa_nil (star_of c3 _ _)
      refine (ps_expr (pe_bm PySem.F.plainAttrs_list PySem.F.slot_list_append PySem.F.type_list_append mt_append (chkV_of g.toGood c2 p) ha (super_no rfl _ _ _) ?_ c4 (star_of c3 _ _) rfl) rfl).impl fun D σ H q => ss_app q
      rw [star_one c3]
      rfl
theorem snds_ex {e : E} : SndS G lvl call (.ex e) where
  ps := fun {k W X x} g c => by
    obtain ⟨⟨x, pos⟩, ev, c⟩ := onO_eq (o := vEx x) c
    rw [vEx_eq ev]
    obtain ⟨c1, c2⟩ := ands c
    · skip
      exact (ps_expr ((sndE e).pe g.toGood c1) (no_swap (e := e) c2 _ _ _)).impl fun D σ H q => ss_ex q
theorem snds_ret {m : Mode} {e : E} : SndS G lvl call (.ret m e) where
  ps := fun {k W X x} g c => by
    obtain ⟨⟨x, pos⟩, ev, c⟩ := onO_eq (o := vRet x) c
    rw [vRet_eq ev]
    exact (ps_ret ((sndE e).pe g.toGood c)).impl fun D σ H q => ss_ret q
theorem snds_ite {c : E} {a b : Ss} (sa : SndSs G lvl call a) (sb : SndSs G lvl call b) : SndS G lvl call (.ite c a b) where
  ps := fun {k W X x} g cc => by
    obtain ⟨⟨x, y, z, pos⟩, ev, cc⟩ := onO_eq (o := vIf x) cc
    rw [vIf_eq ev]
    obtain ⟨cc, c3⟩ := ands cc
    obtain ⟨c1, c2⟩ := ands cc
    · skip
      exact (ps_if ((sndE c).pt g.toGood c1) (sa.pss g c2) (sb.pss g c3)).impl fun D σ H q => ss_ite q
theorem snds_for {tg : Tg} {it : It} {b : Ss} (sb : SndSs G lvl call b) : SndS G lvl call (.for tg it b) where
  ps := fun {k W X x} g c => by
    obtain ⟨⟨t, i, y, pos⟩, ev, c⟩ := onO_eq (o := vFor x) c
    rw [vFor_eq ev]
    obtain ⟨c, c4⟩ := ands c
    obtain ⟨c, c3⟩ := ands c
    obtain ⟨c1, c2⟩ := ands c
    · skip
      have c4' : isSetE i = false := by simpa using c4
      exact (ps_for g.po g.calm ((sndI it).pi g.toGood c2) (pg_of g.N g.nd g.calm g.st c1) (sb.pss g c3) (isSet_no c4' _)).impl fun D σ H q => ss_for g.hK q
theorem snds_brk : SndS G lvl call .brk where
  ps := fun {k W X x} g c => by
    obtain ⟨⟨n, pos⟩, ev, c⟩ := onO_eq (o := vOne x) c
    have en : n = 0 := dect c
    subst en
    have ex : x = .Break pos := by
      rcases vOne_eq ev with ⟨e, z⟩ | ⟨e, z⟩ | ⟨e, z⟩ <;> first | exact z | cases e
    rw [ex]
    · refine ps_break.impl fun D σ H q => ?_
      obtain ⟨F, L, ρ, hs, T, φ, h, sr, wf, af⟩ := q
      exact af σ hs H φ sr wf
theorem snds_cnt : SndS G lvl call .cnt where
  ps := fun {k W X x} g c => by
    obtain ⟨⟨n, pos⟩, ev, c⟩ := onO_eq (o := vOne x) c
    have en : n = 1 := dect c
    subst en
    have ex : x = .Continue pos := by
      rcases vOne_eq ev with ⟨e, z⟩ | ⟨e, z⟩ | ⟨e, z⟩ <;> first | exact z | cases e
    rw [ex]
    · refine ps_continue.impl fun D σ H q => ?_
      obtain ⟨F, L, ρ, hs, T, φ, h, sr, wf, af⟩ := q
      exact af σ hs H φ sr wf
theorem snds_pas : SndS G lvl call .pas where
  ps := fun {k W X x} g c => by
    obtain ⟨⟨n, pos⟩, ev, c⟩ := onO_eq (o := vOne x) c
    have en : n = 2 := dect c
    subst en
    have ex : x = .Pass pos := by
      rcases vOne_eq ev with ⟨e, z⟩ | ⟨e, z⟩ | ⟨e, z⟩ <;> first | exact z | cases e
    rw [ex]
    · refine ps_pass.impl fun D σ H q => ?_
      obtain ⟨F, L, ρ, hs, T, φ, h, sr, wf, af⟩ := q
      exact af σ hs H φ sr wf
theorem sndss_nil : SndSs G lvl call .nil where
  pss := fun {k W X x} g c => by
    cases x with
    | nil =>
      refine pss_nil.impl fun D σ H q => ?_
      obtain ⟨F, L, ρ, hs, T, φ, h, sr, wf, af⟩ := q
      exact af σ hs H φ sr wf
    | cons y x => cases c
theorem sndss_frz {i : Nat} {r : Ss} (sr : SndSs G lvl call r) : SndSs G lvl call (.cons (.frz i) r) where
  pss := fun {k W X x} g c => (sr.pss g c).impl fun D σ H q => ss_frz q
theorem sndss_cons {s : S} {r : Ss} (ss : SndS G lvl call s) (sr : SndSs G lvl call r) (n : isFrz s = false) : SndSs G lvl call (.cons s r) where
  pss := fun {k W X x} g c => by
    cases x with
    | nil =>
      have c' : (match isFrz s with
        | true => chkSs k r []
        | false => false) = true := c
      rw [n] at c'
      cases c'
    | cons y x =>
      have c' : (match isFrz s with
        | true => chkSs k r (y :: x)
        | false => chkS k s y && chkSs k r x) = true := c
      rw [n] at c'
      obtain ⟨c1, c2⟩ := ands c'
      exact (pss_cons (ss.ps g c1) (sr.pss g c2)).impl fun D σ H q => ss_seq q
mutual
theorem sndSs : ∀ s : Ss, SndSs G lvl call s
  | .nil => sndss_nil
  | .cons (.frz i) r => sndss_frz (sndSs r)
  | .cons (.asg m i e) r => sndss_cons snds_asg (sndSs r) rfl
  | .cons (.setix o i e) r => sndss_cons snds_setix (sndSs r) rfl
  | .cons (.app i e) r => sndss_cons snds_app (sndSs r) rfl
  | .cons (.ex e) r => sndss_cons snds_ex (sndSs r) rfl
  | .cons (.ret m e) r => sndss_cons snds_ret (sndSs r) rfl
  | .cons (.ite c a b) r => sndss_cons (snds_ite (sndSs a) (sndSs b)) (sndSs r) rfl
  | .cons (.for tg it b) r => sndss_cons (snds_for (sndSs b)) (sndSs r) rfl
  | .cons .brk r => sndss_cons snds_brk (sndSs r) rfl
  | .cons .cnt r => sndss_cons snds_cnt (sndSs r) rfl
  | .cons .pas r => sndss_cons snds_pas (sndSs r) rfl
end
end
end An

namespace An
open PySem L2

/-- a def keeps its promise, by its body -/
theorem fn_ofG {P : Program} {w : World} {K : PySem.W.Frag} {mg : Str → Option Value} {base : Heap} {k : Nat} {f : Addr} {name qual : Str} {params : Arguments} {body : List Stmt} {scope : Scope} {dV kV doc pm cdv ct oc : Value} {an od : Option Addr}
    {osl : Array (Option Value)} {N ps : List Str} {sp : Sp} (lk : K.lookup f = some ⟨oc, od, .func (PySem.W.fnOf name qual params body scope dV kV doc pm an cdv ct), osl⟩) (hcd : PySem.W.codeIn K cdv qual = true) (S : FnScope N ps scope)
    (len : ∀ vs H Q E, sp vs H Q E → vs.length = ps.length)
    (hbody : ∀ (A : Around) (outer : List PySem.Env) (s : Shared) (H : Hp) (vs : List V) (Q : VK) (E : XK), Room k (A.deeper (PyProof.Rows.envOfC qual scope s.heap.objs.size f cdv)) → A.guards = some [] → sp vs H Q E →
      ∃ t, PSs (cxOf (L2.CX P w) P w K mg base N qual scope f cdv A outer s H E) body t ∧ t { nx := fun _ H' => Q .non H', rt := Q } (L2.start N vs) H) :
    FnG P w K mg base (k + 1) f (PySem.W.fnOf name qual params body scope dV kV doc pm an cdv ct) ps sp := by
  refine ⟨len, fun A outer s H args us vs Q E hr hg e0 hb r hsp => ?_⟩
  have hl := len _ _ _ _ hsp
  have kin : ∀ b o, base.get? b = some o → s.heap.get? b = some o := fun b o e => (e0.bs b o e).1
  have hpar : ∀ y ∈ ps.zip us, scope.names.lookup y.1 = some .local ∨ (scope.names.lookup y.1 = some .cell ∧ ((cellsFrom (s.heap.objs.size + 1) scope.names []).lookup y.1).isSome = true) := fun ⟨n, v⟩ hy =>
    (S.par n (List.of_mem_zip hy).1).imp id fun q => ⟨q, PySem.W.cellsFrom_some _ _ _ (.inl q)⟩
  refine codeAny_call_function hr.depth ((e0.mod.kin.keeps kin) _ _ lk) rfl S.co S.gen rfl (PySem.W.codeRec_of (e0.mod.kin.keeps kin) hcd) (hb _ _ _ _ ?_)
  refine wpAny_newFunctionEnv_cells S.kind hpar fun env he s1 x => ?_
  subst he
  refine ⟨(e0.mod.nolimit.keeps kin).keeps x.toInCall.keep, codeAny_func ?_⟩
  obtain ⟨t, ht, hq⟩ := hbody A outer s H vs Q E (hr.deeper _) hg hsp
  refine wpAny_mono (ht.run [] s1 (L2.start N vs) H _ (inv_start S hr.hd e0 hl r x) hq) (fun fl s' hs => ?_) fun e s' hs => hs
  cases fl with
  | ret u =>
    obtain ⟨v, σ', H', J, rv, q⟩ := hs
    exact ⟨v, H', J.os, J.bare, J.base, J.hok, rv, q⟩
  | next =>
    obtain ⟨σ', H', J, q⟩ := hs
    exact ⟨.non, H', J.os, J.bare, J.base, J.hok, rfl, q⟩
  | brk =>
    obtain ⟨_, _, _, q⟩ := hs
    exact q.elim
  | cont =>
    obtain ⟨_, _, _, q⟩ := hs
    exact q.elim

theorem sr_none : ∀ n : Nat, SR (List.replicate n .none) (List.replicate n Option.none) []
  | 0 => .nil
  | n + 1 => .none (sr_none n)
theorem sr_start {N : List Str} : ∀ {vs : List V} {ds : List D} (n : Nat), vs.length = ds.length → SR (ds.map Sl.val ++ List.replicate n .none) (vs.map some ++ List.replicate n Option.none) (vals vs ds)
  | [], [], n, _ => sr_none n
  | v :: vs, d :: ds, n, l => .some (fun z => nomatch z) (sr_start (N := N) n (Nat.succ.inj l))

/-- what is known of a def -/
structure DefK (K : PySem.W.Frag) (mg : Str → Option Value) (name qual : Str) (params : Arguments) (body : List Stmt) (scope : Scope) (dvs : List V) (kws : List (Str × V)) : Prop where
  ex : ∃ a fd, mg name = some (.ref a) ∧ FunD K name qual params body scope dvs kws a fd
/-- how a def binds: no defaults -/
def Bnd0 (name qual : Str) (params : Arguments) (body : List Stmt) (scope : Scope) (ps : List Str) (shs : List (Nat × List Str)) : Prop :=
  ∀ n ks, (n, ks) ∈ shs → ∀ (kV doc pm cdv ct : Value) (an : Option Addr) (us ws vs : List Value), us.length = n → ws.length = ks.length → bindG ps ([] : List (Str × Value)) us (ks.zip ws) = some vs →
    bindArgs (PySem.W.fnOf name qual params body scope .none kV doc pm an cdv ct) ⟨us, ks.zip ws⟩ = pure (ps.zip vs)

section
variable {G : GX} {P : Program} {w : World} {mg : Str → Option Value} {base : Heap}
/-- what every context of the program shares -/
structure Ground (G : GX) (P : Program) (w : World) (mg : Str → Option Value) (base : Heap) (gl : List (Str × D)) : Prop where
  blt : ∀ x, x ∈ (["len", "list", "tuple", "int", "repr", "all", "any", "isinstance", "range", "str", "bool"] : List Str) → mg x = none
  gl : ∀ x d, gl.lookup x = some d → ∃ v u, mg x = some u ∧ RelV v u ∧ ∀ φ M H, RelD G φ M H d v
theorem body_ok {k : Ck} {n : Nat} {call : Nat → List D → List (Str × D) → Hh → Res (D × Hh)} {ir : Ss} {name qual : Str} {params : Arguments} {body : List Stmt} {scope : Scope} {dvs : List V} {kws : List (Str × V)} {a : Addr} {fd : FuncData} {ps : List Str}
    (gr : Ground G P w mg base k.gl) (F : FunD G.K name qual params body scope dvs kws a fd) (S : FnScope k.N ps scope) (hsc : k.sc = scope) (chk : chkSs k ir body = true)
    (cal : ∀ (f : Nat) y shs, k.fn[f]? = some (y, shs) → Callee G P w G.K mg base n y shs (call f)) :
    FnG P w G.K mg base (n + 1) a fd ps (spF G ps.length fun ds h => endF (evSs call ir (env0 k.N ds) h)) := by
  obtain ⟨oc, od, dV, kV, doc, pm, an, cdv, ct, osl, rfl, lk, hcd, _, _⟩ := F.ex
  refine fn_ofG lk hcd S (fun vs H Q E q => q.1) fun A outer s H vs Q E hr hg q => ?_
  obtain ⟨hl, φ, h, Z, ds, ld, wf, af⟩ := q
  have g : GoodS G k call (fun cls d _ H => E cls d H) n (cxOf (L2.CX P w) P w G.K mg base k.N qual scope a cdv A outer s H E) :=
    { hK := rfl, calm := rfl, N := rfl, nd := S.nd, sc := hsc.symm, tk := takes_of rfl rfl rfl rfl, room := hr, gd := hg, blt := gr.blt, gl := gr.gl, cal := cal
      st := fun i x c => ⟨by rw [show (cxOf (L2.CX P w) P w G.K mg base k.N qual scope a cdv A outer s H E).env.scope = k.sc from hsc.symm]; exact (chkNm_loc c).2, .inl rfl⟩, po := passes_of rfl }
  refine ⟨_, (sndSs ir).pss g chk, ⟨H, φ, Z⟩, [], env0 k.N ds, vals vs ds, [], φ, h, ?_, by rw [List.append_nil]; exact wf, ?_⟩
  · unfold env0 L2.start
    rw [ld]
    exact sr_start (N := k.N) _ ld
  · dsimp only at af
    cases e : evSs call ir (env0 k.N ds) h with
    | nx ρ' h' =>
      rw [e] at af
      intro σ' hs' H' φ' sr w'
      exact af .non H' φ' ((w'.sub (List.nil_sublist _)).push rfl)
    | rt d h' => rw [e] at af; exact fun v H' φ' w' => af v H' φ' w'
    | err x ρ' h' =>
      rw [e] at af
      intro σ' hs' cls d H' φ' sr w' rx
      exact af cls d H' φ' (w'.sub (List.nil_sublist _)) (rx.sub (List.nil_sublist _))
    | bk ρ' h' => rw [e] at af; exact af.elim
    | ct ρ' h' => rw [e] at af; exact af.elim
    | stuck => rw [e] at af; exact af.elim

/-- the table's entry and the row's def -/
structure Entry (G : GX) (mg : Str → Option Value) (Pr : Pg) (gl : List (Str × D)) (fn : List (Str × List (Nat × List Str))) (f : Nat) (y : Str) (shs : List (Nat × List Str)) : Prop where
  ex : ∃ (fi : FI) (qual : Str) (params : Arguments) (body : List Stmt) (scope : Scope), Pr.fs[f]? = some fi ∧ fi.dfl = [] ∧ DefK G.K mg y qual params body scope [] [] ∧ FnScope fi.N fi.ps scope ∧ chkSs ⟨fi.N, scope, fn, gl⟩ fi.body body = true ∧ Bnd0 y qual params body scope fi.ps shs
theorem ofO_stuck {α β : Type} (o : Option α) : (ofO o).bind (fun _ => (Res.stuck : Res β)) = .stuck := by cases o <;> rfl
theorem callee_ok {Pr : Pg} {gl : List (Str × D)} {fn : List (Str × List (Nat × List Str))} (gr : Ground G P w mg base gl) (tab : ∀ (f : Nat) y shs, fn[f]? = some (y, shs) → Entry G mg Pr gl fn f y shs) :
    ∀ (n : Nat) (f : Nat) y shs, fn[f]? = some (y, shs) → Callee G P w G.K mg base n y shs (callF Pr n f) := by
  intro n
  induction n with
  | zero =>
    intro f y shs hf
    obtain ⟨fi, qual, params, body, scope, hfi, hd, ⟨a, fd, hm, F⟩, S, chk, hb⟩ := (tab f y shs hf).ex
    refine ⟨a, fd, fi.ps, [], [], [], fun _ _ => .stuck, hm, F.kp, ⟨fun vs H Q E q => q.1, fun A outer s H args us vs Q E hr hg e0 hb r q => ?_⟩, fun ds kd h => (ofO_stuck _).symm, .nil, .nil, fun n ks hs s us ws vs X l1 l2 e => ?_⟩
    · obtain ⟨_, _, _, _, _, _, _, z⟩ := q
      exact z.elim
    · obtain ⟨oc, od, dV, kV, doc, pm, an, cdv, ct, osl, rfl, lk, hcd, hD, _⟩ := F.ex
      rcases hD with ⟨_, rfl⟩ | ⟨z, _⟩
      · exact .of_eq (hb n ks hs kV doc pm cdv ct an us ws vs l1 l2 e)
      · exact absurd rfl z
  | succ n ih =>
    intro f y shs hf
    obtain ⟨fi, qual, params, body, scope, hfi, hd, ⟨a, fd, hm, F⟩, S, chk, hb⟩ := (tab f y shs hf).ex
    refine ⟨a, fd, fi.ps, [], [], [], fun ds h => endF (evSs (callF Pr n) fi.body (env0 fi.N ds) h), hm, F.kp, body_ok (k := ⟨fi.N, scope, fn, gl⟩) gr F S rfl chk ih, fun ds kd h => ?_, .nil, .nil, fun n ks hs s us ws vs X l1 l2 e => ?_⟩
    · show ((ofO Pr.fs[f]?).bind fun fi => (ofO (bindG fi.ps fi.dfl ds kd)).bind fun vs => endF (evSs (callF Pr n) fi.body (env0 fi.N vs) h)) = _
      rw [hfi]
      show (ofO (bindG fi.ps fi.dfl ds kd)).bind _ = _
      rw [hd]
    · obtain ⟨oc, od, dV, kV, doc, pm, an, cdv, ct, osl, rfl, lk, hcd, hD, _⟩ := F.ex
      rcases hD with ⟨_, rfl⟩ | ⟨z, _⟩
      · exact .of_eq (hb n ks hs kV doc pm cdv ct an us ws vs l1 l2 e)
      · exact absurd rfl z
end
end An

namespace An
open PySem L2 PySem.W PySem.Calls PyProof.Rows

/-- the script's object -/
def scO (vs : List Value) : Obj := { cls := .type "list", data := .seq vs.toArray }
/-- what may be tracked at the entry: the script, known to the object -/
def Sc (K : PySem.W.Frag) (a : Addr) (vs : List Value) (ns : List Int) (H : Hp) : Prop := ∀ b u, H b = some u → b = a ∧ u = .frz (scO vs) (.lst (ns.map V.int)) ∧ K.lookup a = none
theorem callG {P : Program} {w : World} {K : PySem.W.Frag} {mg mb : Str → Option Value} {k : Nat} {fa a : Addr} {fd : FuncData} {x : Str} {sp : Sp} {s₁ : Shared} {vs : List Value} {ns : List Int}
    (KX : K.In s₁.heap) (hns : s₁.heap.Ns mainGlobals mg) (hb : s₁.heap.Ns builtinsNs mb) (hbb : ∀ x : Str, x ≠ "__name__" → mb x = bootBuiltins x) (hlim : s₁.heap.NoLimit) (hg : s₁.gens = #[])
    (ha : s₁.heap.get? a = some (scO vs)) (hi : PyProof.Rows.IntsAre vs ns) (hl : ns.length ≤ 63) (hr : Room k callerA)
    (F : ∀ base : Heap, K.In base → base.Ns mainGlobals mg → FnG P w K mg base k fa fd [x] sp) (hbind : ∀ (s : Shared) (u : Value), BindsTo s fd ⟨[u], []⟩ [(x, u)])
    (hsp : ∀ H : Hp, Sc K a vs ns H → SqL K H a (ns.map V.int) → sp [.ref a] H (fun v _ => v = .bl true) fun _ _ _ => False) :
    codeAny (model P w) callerA (.call (.ref fa) ⟨[.ref a], []⟩) (fun r s' => r = .ok (.ret (.bool true)) ∧ OldK s₁.heap s'.heap ∧ s'.os = s₁.os ∧ AllBare s'.gens) s₁ := by
  have rv : Vals (ns.map V.int) vs := vals_ints hi
  have hz := sizeLine_eq
  have lm : (ns.map V.int).length ≤ sizeLine := by rw [List.length_map]; omega
  have lv : vs.toArray.size ≤ sizeLine := by
    have := rv.length
    rw [List.size_toArray, ← this]; exact lm
  have core : ∀ H : Hp, Sc K a vs ns H → SqL K H a (ns.map V.int) → codeAny (model P w) callerA (.call (.ref fa) ⟨[.ref a], []⟩) (fun r s' => r = .ok (.ret (.bool true)) ∧ OldK s₁.heap s'.heap ∧ s'.os = s₁.os ∧ AllBare s'.gens) s₁ := by
    intro H hH hS
    have ok : HOk P w H s₁.heap := fun b u e => by
      obtain ⟨rfl, rfl, _⟩ := hH b u e
      exact ⟨ha, lm, vs, _, rv, ha⟩
    -- what is no list of the script is untracked
    have free : ∀ {b : Addr} {o : Obj}, s₁.heap.get? b = some o → (b ≠ a ∨ K.lookup a ≠ none) → H b = none := fun {b o} _ n => by
      cases q : H b with
      | none => rfl
      | some u =>
        obtain ⟨e1, _, e2⟩ := hH b u q
        exact (n.elim (fun z => z e1) fun z => z e2).elim
    have dict : ∀ {b : Addr} {m : Str → Option Value}, s₁.heap.Ns b m → (hidT s₁.heap H).Ns b m := fun {b m} ⟨o, es, ep, e, d, r⟩ => by
      refine ⟨o, es, ep, hidT_get e (free e (.inl fun z => ?_)), d, r⟩
      rw [z, ha] at e
      cases e
      cases d
    have kin : K.In (hidT s₁.heap H) := fun b o e => hidT_get (KX b o e) (free (KX b o e) (by
      by_cases z : b = a
      · right; rw [← z, e]; exact fun q => nomatch q
      · exact .inl z))
    have e0 : Env0 P w K mg (hidT s₁.heap H) callerA [] s₁ H :=
      ⟨rfl, ⟨kin, dict hns, ⟨mb, dict hb, hbb⟩, let ⟨mc, h1, h2⟩ := hlim; ⟨mc, dict h1, h2⟩⟩, fun b o e => of_hidT e, Nat.le_of_eq (hidT_size _ _), trivial, fun b hb => (List.not_mem_nil hb).elim, ok, .of_eq hg⟩
    refine codeAny_mono ((F _ kin (dict hns)).run callerA [] s₁ H ⟨[.ref a], []⟩ [.ref a] [.ref a] _ _ hr rfl e0 (hbind s₁ (.ref a)) (.cons rfl .nil) (hsp H hH hS)) fun r s' h => ?_
    match r, h with
    | .error e, h => obtain ⟨_, _, _, _, _, _, _, _, _, _, _, _, z⟩ := h; exact z.elim
    | .ok (.ret u), h =>
      obtain ⟨v, H', os, bare, un, ok', r', q⟩ := h
      cases (show v = .bl true from q)
      cases (show u = Value.bool true from r')
      refine ⟨rfl, OldK.of_keep fun b o e => ?_, os, bare⟩
      cases z : H b with
      | none => exact un.keep b o e z (fun m => (List.not_mem_nil m).elim) (fun m => (List.not_mem_nil m).elim)
      | some u =>
        obtain ⟨e1, e2, _⟩ := hH b u z
        subst e1 e2
        rw [ha] at e
        cases e
        exact (ok' b _ (un.frzs b _ _ z)).1
  by_cases hk : K.lookup a = none
  · refine core (fun b => if b = a then some (.frz (scO vs) (.lst (ns.map V.int))) else none) (fun b u e => ?_) (.inl (.inr ⟨_, if_pos rfl⟩))
    dsimp only at e
    by_cases z : b = a
    · rw [if_pos z] at e
      cases e
      exact ⟨z, rfl, hk⟩
    · rw [if_neg z] at e; cases e
  · cases q : K.lookup a with
    | none => exact absurd q hk
    | some o =>
      have e := KX a o q
      rw [ha] at e
      cases e
      exact core (fun _ => none) (fun _ _ e => by cases e) (.inr ⟨_, vs.toArray, _, q, rfl, rfl, rfl, lv, by simpa using rv⟩)
theorem walkG {l : PySem.W.OpenLaw} {k : Nat} {q : Program} {loose : List Str} {XP : (Str → Option Value) → Heap → Prop} {YP : World → Heap → Prop} {d : DefRec} {x : Str}
    (hn : l.most = some 63) (hdf : d.params.defaults = []) (hr : Room k callerA)
    (F : ∀ (w : World) (mg : Str → Option Value) (fa : Addr) (h : Heap), YP w h → h.Ns mainGlobals mg → mg d.name = some (.ref fa) →
      ∃ (K : PySem.W.Frag) (fd : FuncData) (sp : Sp), K.In h ∧ (∀ (s : Shared) (u : Value), BindsTo s fd ⟨[u], []⟩ [(x, u)]) ∧
        (∀ (H : Hp) (a : Addr) (vs : List Value) (ns : List Int), ns.length ≤ 63 → (∀ z ∈ ns, Builtin.Int.intBits z ≤ 1048576) → Sc K a vs ns H → SqL K H a (ns.map V.int) → sp [.ref a] H (fun v _ => v = .bl true) fun _ _ _ => False) ∧
        ∀ base : Heap, K.In base → base.Ns mainGlobals mg → FnG l.prog w K mg base k fa fd [x] sp) :
    PySem.W.WalkO q loose XP YP l.row.toRowW d [] (fun f vs => PySem.call f vs) := by
  refine Att.attach_callB hn hdf fun w s₀ s₁ mg mb fa o pm cd doc a vs ns G Y ho hd hcd hmg hobj hints hlen hbits hg => ?_
  obtain ⟨K, fd, sp, KX, hb, hsp, hF⟩ := F w mg fa _ Y G.T.g hmg
  exact callG KX G.T.g G.T.b G.T.builtins G.T.nolimit hg hobj hints hlen hr hF hb fun H hH hS => hsp H a vs ns hlen hbits hH hS
/-- the law, by its own run -/
def scD (ns : List Int) : D := .lst (ns.map D.int)
theorem rel_ints {G : GX} {φ : List Addr} {M : Addr → Prop} {H : Hp} : ∀ ns : List Int, RelDs G φ M H (ns.map D.int) (ns.map V.int)
  | [] => rfl
  | n :: ns => ⟨_, _, rfl, rfl, rel_ints ns⟩
theorem law_sp {G : GX} {run : List D → Hh → Res (D × Hh)} {H : Hp} {a : Addr} {ns : List Int} (hl : ns.length ≤ 63) (hS : SqL G.K H a (ns.map V.int)) (k : ∃ h', run [scD ns] [] = .ok (.bl true, h')) :
    spF G 1 run [.ref a] H (fun v _ => v = .bl true) fun _ _ _ => False := by
  obtain ⟨h', e⟩ := k
  have nm : ∀ b, ¬ MZ ⟨H, [], fun _ => False⟩ [] (vals [.ref a] [scD ns]) b := fun b m => by
    rcases m with m | m | m
    · cases m
    · exact m
    · cases m
  refine ⟨rfl, [], [], fun _ => False, [scD ns], rfl, ⟨List.prefix_refl _, rfl, List.nodup_nil, fun _ m => (List.not_mem_nil m).elim, fun _ z => z.elim, fun b o e _ => e, fun _ m => (List.not_mem_nil m).elim, fun i b c e1 _ => (by cases e1), fun v s m => ?_⟩, ?_⟩
  · cases List.mem_singleton.mp m
    refine ⟨a, _, rfl, hS.imp (fun r => ⟨r, nm a⟩) id, by rw [List.length_map]; omega, rel_ints ns⟩
  · rw [e]
    exact fun v H' φ' w => w.hold v (.val (.bl true)) List.mem_cons_self
end An

namespace L_k01
open PySem L2 An
abbrev rw : PySem.W.OpenLaw := PySem.Challenge.rw_anyheir_k01_names_and_words
def top (i : Nat) : Stmt := PySem.Challenge.pw_anyheir_k01_names_and_words.main.body.getD i (.Pass ⟨0, 0, 0, 0⟩)
def ir_is_made_of : Ss := (.cons (.ite (.or (.not (.isi (.var 0) .str)) (.cons (.not (.chn .le .le (.cst (.int 1)) (.bi .len (.var 0)) (.var 2))) .nil))
    (.cons (.ret .frz (.cst (.bl false)))
    .nil)
    .nil)
    (.cons (.ret .frz (.bi .all (.lc (.cmp .inn (.var 3) (.var 1)) [("sign", 3)] (.nm 3) (.sq (.var 0)) .none)))
    .nil))
def N_is_made_of : List Str := ["value", "signs", "most", "sign"]
def P_is_made_of : List Str := ["value", "signs", "most"]
def ir_is_name : Ss := (.cons (.ret .frz (.call 0 (.cons (.var 0) (.cons (.gv "LETTERS" (.str "abcdefghijklmnopqrstuvwxyz")) (.cons (.gv "MOST_NAME" (.int 8)) .nil))) .nil))
    .nil)
def N_is_name : List Str := ["value"]
def P_is_name : List Str := ["value"]
def ir_is_word : Ss := (.cons (.ret .frz (.call 0 (.cons (.var 0) (.cons (.bin .add (.bin .add (.gv "LETTERS" (.str "abcdefghijklmnopqrstuvwxyz")) (.gv "DIGITS" (.str "0123456789"))) (.gv "SIGNS" (.str "#$:?"))) (.cons (.gv "MOST_WORD" (.int 30)) .nil))) .nil))
    .nil)
def N_is_word : List Str := ["value"]
def P_is_word : List Str := ["value"]
def ir_is_plain : Ss := (.cons (.ret .frz (.call 0 (.cons (.var 0) (.cons (.bin .add (.gv "LETTERS" (.str "abcdefghijklmnopqrstuvwxyz")) (.gv "DIGITS" (.str "0123456789"))) (.cons (.gv "MOST_PLAIN" (.int 12)) .nil))) .nil))
    .nil)
def N_is_plain : List Str := ["value"]
def P_is_plain : List Str := ["value"]
def ir__law_bag : Ss := (.cons (.ret .cel (.lst (.cons (.bi .list (.sl (.var 0) .none (.some (.cst (.int 63))))) (.cons (.cst (.int 0)) (.cons (.cst (.int 0)) (.cons (.cst (.int 58831)) (.cons (.cst (.int 0)) .nil)))))))
    .nil)
def N__law_bag : List Str := ["_law_script"]
def P__law_bag : List Str := ["_law_script"]
def ir__law_draw : Ss := (.cons (.ite (.and (.cmp .eq (.ix (.var 0) (.cst (.int 2))) (.cst (.int 0))) (.cons (.cmp .lt (.ix (.var 0) (.cst (.int 1))) (.bi .len (.ix (.var 0) (.cst (.int 0))))) .nil))
    (.cons (.asg .frz 3 (.ix (.ix (.var 0) (.cst (.int 0))) (.ix (.var 0) (.cst (.int 1)))))
    (.cons (.setix (.var 0) (.cst (.int 1)) (.bin .add (.ix (.var 0) (.cst (.int 1))) (.cst (.int 1))))
    (.cons (.setix (.var 0) (.cst (.int 3)) (.bin .mod (.bi .int (.bin .add (.bin .add (.bin .mul (.ix (.var 0) (.cst (.int 3))) (.cst (.int 40013))) (.bin .mul (.bin .mod (.bi .int (.var 3)) (.cst (.int 2147483549))) (.cst (.int 307)))) (.cst (.int 1013)))) (.cst (.int 2147483629))))
    (.cons (.ite (.cmp .ge (.var 3) (.bin .pow (.cst (.int 10)) (.cst (.int 18))))
    (.cons (.setix (.var 0) (.cst (.int 2)) (.var 3))
    .nil)
    .nil)
    .nil))))
    .nil)
    (.cons (.ite (.cmp .gt (.ix (.var 0) (.cst (.int 2))) (.cst (.int 0)))
    (.cons (.asg .frz 4 (.bin .mod (.bi .int (.ix (.var 0) (.cst (.int 2)))) (.var 1)))
    (.cons (.setix (.var 0) (.cst (.int 2)) (.bin .fdiv (.ix (.var 0) (.cst (.int 2))) (.var 1)))
    (.cons (.ret .frz (.var 4))
    .nil)))
    .nil)
    (.cons (.setix (.var 0) (.cst (.int 4)) (.bin .add (.ix (.var 0) (.cst (.int 4))) (.cst (.int 1))))
    (.cons (.asg .frz 2 (.ix (.var 0) (.cst (.int 3))))
    (.cons (.setix (.var 0) (.cst (.int 3)) (.bin .mod (.bi .int (.bin .add (.bin .add (.bin .add (.bin .mul (.var 2) (.var 2)) (.bin .mul (.cst (.int 70001)) (.var 2))) (.bin .mul (.cst (.int 7907)) (.ix (.var 0) (.cst (.int 4))))) (.cst (.int 30011)))) (.cst (.int 2147483629))))
    (.cons (.ret .frz (.bin .mod (.bi .int (.bin .add (.bin .add (.bin .fdiv (.ix (.var 0) (.cst (.int 3))) (.cst (.int 59))) (.bin .mul (.var 2) (.cst (.int 33301)))) (.ix (.var 0) (.cst (.int 4))))) (.var 1)))
    .nil))))))
def N__law_draw : List Str := ["_law_sack", "_law_many", "_law_base", "_law_cell", "_law_digit"]
def P__law_draw : List Str := ["_law_sack", "_law_many"]
def ir__law_of : Ss := (.cons (.ret .frz (.ix (.var 1) (.call 5 (.cons (.var 0) (.cons (.bi .len (.var 1)) .nil)) .nil)))
    .nil)
def N__law_of : List Str := ["_law_sack", "_law_some"]
def P__law_of : List Str := ["_law_sack", "_law_some"]
def ir__law_same : Ss := (.cons (.ret .frz (.cmp .eq (.bi .repr (.var 0)) (.bi .repr (.var 1))))
    .nil)
def N__law_same : List Str := ["_law_found", "_law_due"]
def P__law_same : List Str := ["_law_found", "_law_due"]
def ir__law_is_plain : Ss := (.cons (.asg .frz 1 (.cst (.str "abcdefghijklmnopqrstuvwxyz0123456789")))
    (.cons (.ret .frz (.and (.isi (.var 0) .str) (.cons (.chn .lt .lt (.cst (.int 0)) (.bi .len (.var 0)) (.cst (.int 13))) (.cons (.bi .all (.lc (.cmp .inn (.var 2) (.var 1)) [("_law_sign", 2)] (.nm 2) (.sq (.var 0)) .none)) .nil))))
    .nil))
def N__law_is_plain : List Str := ["_law_given", "_law_signs", "_law_sign"]
def P__law_is_plain : List Str := ["_law_given"]
def ir__law_is_name : Ss := (.cons (.ite (.or (.not (.isi (.var 0) .str)) (.cons (.not (.chn .lt .lt (.cst (.int 0)) (.bi .len (.var 0)) (.cst (.int 9)))) .nil))
    (.cons (.ret .frz (.cst (.bl false)))
    .nil)
    .nil)
    (.cons (.ret .frz (.bi .all (.lc (.cmp .inn (.var 1) (.cst (.str "abcdefghijklmnopqrstuvwxyz"))) [("_law_sign", 1)] (.nm 1) (.sq (.var 0)) .none)))
    .nil))
def N__law_is_name : List Str := ["_law_given", "_law_sign"]
def P__law_is_name : List Str := ["_law_given"]
def ir__law_is_word : Ss := (.cons (.ite (.or (.not (.isi (.var 0) .str)) (.cons (.not (.chn .lt .lt (.cst (.int 0)) (.bi .len (.var 0)) (.cst (.int 31)))) .nil))
    (.cons (.ret .frz (.cst (.bl false)))
    .nil)
    .nil)
    (.cons (.ret .frz (.bi .all (.lc (.cmp .inn (.var 1) (.cst (.str "abcdefghijklmnopqrstuvwxyz0123456789#$:?"))) [("_law_sign", 1)] (.nm 1) (.sq (.var 0)) .none)))
    .nil))
def N__law_is_word : List Str := ["_law_given", "_law_sign"]
def P__law_is_word : List Str := ["_law_given"]
def ir__law_text : Ss := (.cons (.ret .frz (.mt .join (.cst (.str "")) (.cons (.lc (.call 6 (.cons (.var 0) (.cons (.var 1) .nil)) .nil) [("_law_k", 3)] (.nm 3) (.rg (.call 5 (.cons (.var 0) (.cons (.bin .add (.var 2) (.cst (.int 2))) .nil)) .nil)) .none) .nil)))
    .nil)
def N__law_text : List Str := ["_law_sack", "_law_signs", "_law_most", "_law_k"]
def P__law_text : List Str := ["_law_sack", "_law_signs", "_law_most"]
def ir_law : Ss := (.cons (.asg .frz 1 (.call 4 (.cons (.var 0) .nil) .nil))
    (.cons (.asg .own 2 (.lst (.cons (.cst .non) (.cons (.cst (.int 3)) (.cons (.cst (.bl true)) (.cons (.tup .nil) (.cons (.tup (.cons (.cst (.str "a")) .nil)) (.cons (.cst (.str "")) (.cons (.cst (.str "a")) (.cons (.bin .mul (.cst (.str "a")) (.cst (.int 8))) (.cons (.bin .mul (.cst (.str "a")) (.cst (.int 9))) (.cons (.bin .mul (.cst (.str "a")) (.cst (.int 12))) (.cons (.bin .mul (.cst (.str "a")) (.cst (.int 13))) .nil)))))))))))))
    (.cons (.asg .own 2 (.bin .add (.pk 2) (.lst (.cons (.bin .mul (.cst (.str "z9")) (.cst (.int 15))) (.cons (.bin .mul (.cst (.str "a")) (.cst (.int 31))) (.cons (.cst (.str "A")) (.cons (.cst (.str "-")) (.cons (.cst (.str "_")) .nil))))))))
    (.cons (.for (.nm 3) (.rg (.cst (.int 10)))
    (.cons (.asg .frz 5 (.call 6 (.cons (.var 1) (.cons (.lst (.cons (.cst (.str "abcxyz")) (.cons (.cst (.str "az09")) (.cons (.cst (.str "az09#$:?")) (.cons (.cst (.str "az09#$:?A -")) (.cons (.cst (.str "q")) .nil)))))) .nil)) .nil))
    (.cons (.app 2 (.call 11 (.cons (.var 1) (.cons (.var 5) (.cons (.call 6 (.cons (.var 1) (.cons (.lst (.cons (.cst (.int 8)) (.cons (.cst (.int 12)) (.cons (.cst (.int 30)) .nil)))) .nil)) .nil) .nil))) .nil))
    .nil)))
    (.cons (.frz 2)
    (.cons (.for (.nm 4) (.sq (.var 2))
    (.cons (.asg .frz 6 (.lst (.cons (.call 1 (.cons (.var 4) .nil) .nil) (.cons (.call 2 (.cons (.var 4) .nil) .nil) (.cons (.call 3 (.cons (.var 4) .nil) .nil) (.cons (.call 1 .nil (.cons "value" (.var 4) .nil)) .nil))))))
    (.cons (.asg .frz 7 (.lst (.cons (.call 9 (.cons (.var 4) .nil) .nil) (.cons (.call 10 (.cons (.var 4) .nil) .nil) (.cons (.call 8 (.cons (.var 4) .nil) .nil) (.cons (.call 9 (.cons (.var 4) .nil) .nil) .nil))))))
    (.cons (.ite (.not (.call 7 (.cons (.var 6) (.cons (.var 7) .nil)) .nil))
    (.cons (.ret .frz (.cst (.bl false)))
    .nil)
    .nil)
    .nil))))
    (.cons (.ret .frz (.call 7 (.cons (.lst (.cons (.call 2 .nil (.cons "value" (.cst (.str "?")) .nil)) (.cons (.call 3 .nil (.cons "value" (.cst (.str "?")) .nil)) .nil))) (.cons (.lst (.cons (.cst (.bl true)) (.cons (.cst (.bl false)) .nil))) .nil)) .nil))
    .nil)))))))
def N_law : List Str := ["_law_script", "_law_sack", "_law_some", "_law_turn", "_law_given", "_law_signs", "_law_told", "_law_due"]
def P_law : List Str := ["_law_script"]
def Pr : Pg := ⟨[⟨P_is_made_of, N_is_made_of, [], ir_is_made_of⟩, ⟨P_is_name, N_is_name, [], ir_is_name⟩, ⟨P_is_word, N_is_word, [], ir_is_word⟩, ⟨P_is_plain, N_is_plain, [], ir_is_plain⟩, ⟨P__law_bag, N__law_bag, [], ir__law_bag⟩, ⟨P__law_draw, N__law_draw, [], ir__law_draw⟩, ⟨P__law_of, N__law_of, [], ir__law_of⟩, ⟨P__law_same, N__law_same, [], ir__law_same⟩, ⟨P__law_is_plain, N__law_is_plain, [], ir__law_is_plain⟩, ⟨P__law_is_name, N__law_is_name, [], ir__law_is_name⟩, ⟨P__law_is_word, N__law_is_word, [], ir__law_is_word⟩, ⟨P__law_text, N__law_text, [], ir__law_text⟩, ⟨P_law, N_law, [], ir_law⟩]⟩
def fn : List (Str × List (Nat × List Str)) := [("is_made_of", [(3, [])]), ("is_name", [(0, ["value"]), (1, [])]), ("is_word", [(0, ["value"]), (1, [])]), ("is_plain", [(0, ["value"]), (1, [])]), ("_law_bag", [(1, [])]), ("_law_draw", [(2, [])]), ("_law_of", [(2, [])]), ("_law_same", [(2, [])]), ("_law_is_plain", [(1, [])]), ("_law_is_name", [(1, [])]), ("_law_is_word", [(1, [])]), ("_law_text", [(3, [])]), ("law", [(1, [])])]
def gl : List (Str × D) := [("LETTERS", (.str "abcdefghijklmnopqrstuvwxyz")), ("MOST_NAME", (.int 8)), ("DIGITS", (.str "0123456789")), ("SIGNS", (.str "#$:?")), ("MOST_WORD", (.int 30)), ("MOST_PLAIN", (.int 12))]
abbrev scp (i : Nat) : Scope := L2.defScope (top i)
theorem chk_is_made_of : chkSs ⟨N_is_made_of, scp 7, fn, gl⟩ ir_is_made_of (L2.defBody (top 7)) = true := by kernel_rfl
theorem sc_is_made_of : FnScope N_is_made_of P_is_made_of (scp 7) := ⟨by kernel_rfl, by kernel_rfl, by kernel_rfl, by decide +kernel, by kernel_rfl, by decide +kernel, by decide +kernel⟩
theorem chk_is_name : chkSs ⟨N_is_name, scp 8, fn, gl⟩ ir_is_name (L2.defBody (top 8)) = true := by kernel_rfl
theorem sc_is_name : FnScope N_is_name P_is_name (scp 8) := ⟨by kernel_rfl, by kernel_rfl, by kernel_rfl, by decide +kernel, by kernel_rfl, by decide +kernel, by decide +kernel⟩
theorem chk_is_word : chkSs ⟨N_is_word, scp 9, fn, gl⟩ ir_is_word (L2.defBody (top 9)) = true := by kernel_rfl
theorem sc_is_word : FnScope N_is_word P_is_word (scp 9) := ⟨by kernel_rfl, by kernel_rfl, by kernel_rfl, by decide +kernel, by kernel_rfl, by decide +kernel, by decide +kernel⟩
theorem chk_is_plain : chkSs ⟨N_is_plain, scp 10, fn, gl⟩ ir_is_plain (L2.defBody (top 10)) = true := by kernel_rfl
theorem sc_is_plain : FnScope N_is_plain P_is_plain (scp 10) := ⟨by kernel_rfl, by kernel_rfl, by kernel_rfl, by decide +kernel, by kernel_rfl, by decide +kernel, by decide +kernel⟩
theorem chk__law_bag : chkSs ⟨N__law_bag, scp 12, fn, gl⟩ ir__law_bag (L2.defBody (top 12)) = true := by kernel_rfl
theorem sc__law_bag : FnScope N__law_bag P__law_bag (scp 12) := ⟨by kernel_rfl, by kernel_rfl, by kernel_rfl, by decide +kernel, by kernel_rfl, by decide +kernel, by decide +kernel⟩
theorem chk__law_draw : chkSs ⟨N__law_draw, scp 13, fn, gl⟩ ir__law_draw (L2.defBody (top 13)) = true := by kernel_rfl
theorem sc__law_draw : FnScope N__law_draw P__law_draw (scp 13) := ⟨by kernel_rfl, by kernel_rfl, by kernel_rfl, by decide +kernel, by kernel_rfl, by decide +kernel, by decide +kernel⟩
theorem chk__law_of : chkSs ⟨N__law_of, scp 14, fn, gl⟩ ir__law_of (L2.defBody (top 14)) = true := by kernel_rfl
theorem sc__law_of : FnScope N__law_of P__law_of (scp 14) := ⟨by kernel_rfl, by kernel_rfl, by kernel_rfl, by decide +kernel, by kernel_rfl, by decide +kernel, by decide +kernel⟩
theorem chk__law_same : chkSs ⟨N__law_same, scp 15, fn, gl⟩ ir__law_same (L2.defBody (top 15)) = true := by kernel_rfl
theorem sc__law_same : FnScope N__law_same P__law_same (scp 15) := ⟨by kernel_rfl, by kernel_rfl, by kernel_rfl, by decide +kernel, by kernel_rfl, by decide +kernel, by decide +kernel⟩
theorem chk__law_is_plain : chkSs ⟨N__law_is_plain, scp 16, fn, gl⟩ ir__law_is_plain (L2.defBody (top 16)) = true := by kernel_rfl
theorem sc__law_is_plain : FnScope N__law_is_plain P__law_is_plain (scp 16) := ⟨by kernel_rfl, by kernel_rfl, by kernel_rfl, by decide +kernel, by kernel_rfl, by decide +kernel, by decide +kernel⟩
theorem chk__law_is_name : chkSs ⟨N__law_is_name, scp 17, fn, gl⟩ ir__law_is_name (L2.defBody (top 17)) = true := by kernel_rfl
theorem sc__law_is_name : FnScope N__law_is_name P__law_is_name (scp 17) := ⟨by kernel_rfl, by kernel_rfl, by kernel_rfl, by decide +kernel, by kernel_rfl, by decide +kernel, by decide +kernel⟩
theorem chk__law_is_word : chkSs ⟨N__law_is_word, scp 18, fn, gl⟩ ir__law_is_word (L2.defBody (top 18)) = true := by kernel_rfl
theorem sc__law_is_word : FnScope N__law_is_word P__law_is_word (scp 18) := ⟨by kernel_rfl, by kernel_rfl, by kernel_rfl, by decide +kernel, by kernel_rfl, by decide +kernel, by decide +kernel⟩
theorem chk__law_text : chkSs ⟨N__law_text, scp 19, fn, gl⟩ ir__law_text (L2.defBody (top 19)) = true := by kernel_rfl
theorem sc__law_text : FnScope N__law_text P__law_text (scp 19) := ⟨by kernel_rfl, by kernel_rfl, by kernel_rfl, by decide +kernel, by kernel_rfl, by decide +kernel, by decide +kernel⟩
theorem chk_law : chkSs ⟨N_law, scp 20, fn, gl⟩ ir_law (L2.defBody (top 20)) = true := by kernel_rfl
theorem sc_law : FnScope N_law P_law (scp 20) := ⟨by kernel_rfl, by kernel_rfl, by kernel_rfl, by decide +kernel, by kernel_rfl, by decide +kernel, by decide +kernel⟩
def d_is_made_of : He.DefD := ⟨("is_made_of", none), "is_made_of", "is_made_of", L2.defArgs (top 7), L2.defBody (top 7), L2.defScope (top 7), [], []⟩
def d_is_name : He.DefD := ⟨("is_name", none), "is_name", "is_name", L2.defArgs (top 8), L2.defBody (top 8), L2.defScope (top 8), [], []⟩
def d_is_word : He.DefD := ⟨("is_word", none), "is_word", "is_word", L2.defArgs (top 9), L2.defBody (top 9), L2.defScope (top 9), [], []⟩
def d_is_plain : He.DefD := ⟨("is_plain", none), "is_plain", "is_plain", L2.defArgs (top 10), L2.defBody (top 10), L2.defScope (top 10), [], []⟩
def d__law_bag : He.DefD := ⟨("_law_bag", none), "_law_bag", "_law_bag", L2.defArgs (top 12), L2.defBody (top 12), L2.defScope (top 12), [], []⟩
def d__law_draw : He.DefD := ⟨("_law_draw", none), "_law_draw", "_law_draw", L2.defArgs (top 13), L2.defBody (top 13), L2.defScope (top 13), [], []⟩
def d__law_of : He.DefD := ⟨("_law_of", none), "_law_of", "_law_of", L2.defArgs (top 14), L2.defBody (top 14), L2.defScope (top 14), [], []⟩
def d__law_same : He.DefD := ⟨("_law_same", none), "_law_same", "_law_same", L2.defArgs (top 15), L2.defBody (top 15), L2.defScope (top 15), [], []⟩
def d__law_is_plain : He.DefD := ⟨("_law_is_plain", none), "_law_is_plain", "_law_is_plain", L2.defArgs (top 16), L2.defBody (top 16), L2.defScope (top 16), [], []⟩
def d__law_is_name : He.DefD := ⟨("_law_is_name", none), "_law_is_name", "_law_is_name", L2.defArgs (top 17), L2.defBody (top 17), L2.defScope (top 17), [], []⟩
def d__law_is_word : He.DefD := ⟨("_law_is_word", none), "_law_is_word", "_law_is_word", L2.defArgs (top 18), L2.defBody (top 18), L2.defScope (top 18), [], []⟩
def d__law_text : He.DefD := ⟨("_law_text", none), "_law_text", "_law_text", L2.defArgs (top 19), L2.defBody (top 19), L2.defScope (top 19), [], []⟩
def d_law : He.DefD := ⟨("law", none), "law", "law", L2.defArgs (top 20), L2.defBody (top 20), L2.defScope (top 20), [], []⟩
def fds : List He.DefD := [d_is_made_of, d_is_name, d_is_word, d_is_plain, d__law_bag, d__law_draw, d__law_of, d__law_same, d__law_is_plain, d__law_is_name, d__law_is_word, d__law_text, d_law]
def fas : List He.Fa := [.glo "is_made_of", .glo "is_name", .glo "is_word", .glo "is_plain", .glo "_law_bag", .glo "_law_draw", .glo "_law_of", .glo "_law_same", .glo "_law_is_plain", .glo "_law_is_name", .glo "_law_is_word", .glo "_law_text", .glo "law", .free "len", .free "list", .free "tuple", .free "int", .free "repr", .free "all", .free "any", .free "isinstance", .free "range", .free "str", .free "bool", .str "LETTERS" "abcdefghijklmnopqrstuvwxyz", .int "MOST_NAME" 8, .str "DIGITS" "0123456789", .str "SIGNS" "#$:?", .int "MOST_WORD" 30, .int "MOST_PLAIN" 12]
def names : List Str := (["LETTERS", "DIGITS", "SIGNS", "MOST_NAME", "MOST_WORD", "MOST_PLAIN", "is_made_of", "is_name", "is_word", "is_plain", "_law_bag", "_law_draw", "_law_of", "_law_same", "_law_is_plain", "_law_is_name", "_law_is_word", "_law_text"] : List Str)
abbrev R : PySem.W.OpenRow := PySem.W.OpenLaw.row rw
abbrev hk : PySem.W.Hook := He.hookD 5 fas fds
def ob (s : PySem.W.SharedT) : He.AlD := He.obsDG 5 fas fds (HandSHeadRun.getT s)
theorem ob_eq (s : PySem.W.SharedT) : ob s = hk.obs s.abs := He.obsDG_eq (HandSHeadRun.getT_eq s)
theorem run (w : World) : HandSHeadRun.RunEq R (PySem.W.view R.prog [20]) hk ob 100000 names w := by
  intro os
  kernel_rfl
theorem bn_is_made_of : Bnd0 "is_made_of" "is_made_of" (L2.defArgs (top 7)) (L2.defBody (top 7)) (scp 7) P_is_made_of [(3, [])] := by
  intro n ks hm kV doc pm cdv ct an us ws vs l1 l2 e
  simp only [List.mem_cons, List.not_mem_nil, or_false, Prod.mk.injEq] at hm
  obtain ⟨rfl, rfl⟩ := hm
  · match us, l1, ws, l2 with
    | [u0, u1, u2], _, [], _ => cases e; with_unfolding_all rfl
theorem bn_is_name : Bnd0 "is_name" "is_name" (L2.defArgs (top 8)) (L2.defBody (top 8)) (scp 8) P_is_name [(0, ["value"]), (1, [])] := by
  intro n ks hm kV doc pm cdv ct an us ws vs l1 l2 e
  simp only [List.mem_cons, List.not_mem_nil, or_false, Prod.mk.injEq] at hm
  rcases hm with ⟨rfl, rfl⟩ | ⟨rfl, rfl⟩
  · match us, l1, ws, l2 with
    | [], _, [w0], _ => cases e; with_unfolding_all rfl
  · match us, l1, ws, l2 with
    | [u0], _, [], _ => cases e; with_unfolding_all rfl
theorem bn_is_word : Bnd0 "is_word" "is_word" (L2.defArgs (top 9)) (L2.defBody (top 9)) (scp 9) P_is_word [(0, ["value"]), (1, [])] := by
  intro n ks hm kV doc pm cdv ct an us ws vs l1 l2 e
  simp only [List.mem_cons, List.not_mem_nil, or_false, Prod.mk.injEq] at hm
  rcases hm with ⟨rfl, rfl⟩ | ⟨rfl, rfl⟩
  · match us, l1, ws, l2 with
    | [], _, [w0], _ => cases e; with_unfolding_all rfl
  · match us, l1, ws, l2 with
    | [u0], _, [], _ => cases e; with_unfolding_all rfl
theorem bn_is_plain : Bnd0 "is_plain" "is_plain" (L2.defArgs (top 10)) (L2.defBody (top 10)) (scp 10) P_is_plain [(0, ["value"]), (1, [])] := by
  intro n ks hm kV doc pm cdv ct an us ws vs l1 l2 e
  simp only [List.mem_cons, List.not_mem_nil, or_false, Prod.mk.injEq] at hm
  rcases hm with ⟨rfl, rfl⟩ | ⟨rfl, rfl⟩
  · match us, l1, ws, l2 with
    | [], _, [w0], _ => cases e; with_unfolding_all rfl
  · match us, l1, ws, l2 with
    | [u0], _, [], _ => cases e; with_unfolding_all rfl
theorem bn__law_bag : Bnd0 "_law_bag" "_law_bag" (L2.defArgs (top 12)) (L2.defBody (top 12)) (scp 12) P__law_bag [(1, [])] := by
  intro n ks hm kV doc pm cdv ct an us ws vs l1 l2 e
  simp only [List.mem_cons, List.not_mem_nil, or_false, Prod.mk.injEq] at hm
  obtain ⟨rfl, rfl⟩ := hm
  · match us, l1, ws, l2 with
    | [u0], _, [], _ => cases e; with_unfolding_all rfl
theorem bn__law_draw : Bnd0 "_law_draw" "_law_draw" (L2.defArgs (top 13)) (L2.defBody (top 13)) (scp 13) P__law_draw [(2, [])] := by
  intro n ks hm kV doc pm cdv ct an us ws vs l1 l2 e
  simp only [List.mem_cons, List.not_mem_nil, or_false, Prod.mk.injEq] at hm
  obtain ⟨rfl, rfl⟩ := hm
  · match us, l1, ws, l2 with
    | [u0, u1], _, [], _ => cases e; with_unfolding_all rfl
theorem bn__law_of : Bnd0 "_law_of" "_law_of" (L2.defArgs (top 14)) (L2.defBody (top 14)) (scp 14) P__law_of [(2, [])] := by
  intro n ks hm kV doc pm cdv ct an us ws vs l1 l2 e
  simp only [List.mem_cons, List.not_mem_nil, or_false, Prod.mk.injEq] at hm
  obtain ⟨rfl, rfl⟩ := hm
  · match us, l1, ws, l2 with
    | [u0, u1], _, [], _ => cases e; with_unfolding_all rfl
theorem bn__law_same : Bnd0 "_law_same" "_law_same" (L2.defArgs (top 15)) (L2.defBody (top 15)) (scp 15) P__law_same [(2, [])] := by
  intro n ks hm kV doc pm cdv ct an us ws vs l1 l2 e
  simp only [List.mem_cons, List.not_mem_nil, or_false, Prod.mk.injEq] at hm
  obtain ⟨rfl, rfl⟩ := hm
  · match us, l1, ws, l2 with
    | [u0, u1], _, [], _ => cases e; with_unfolding_all rfl
theorem bn__law_is_plain : Bnd0 "_law_is_plain" "_law_is_plain" (L2.defArgs (top 16)) (L2.defBody (top 16)) (scp 16) P__law_is_plain [(1, [])] := by
  intro n ks hm kV doc pm cdv ct an us ws vs l1 l2 e
  simp only [List.mem_cons, List.not_mem_nil, or_false, Prod.mk.injEq] at hm
  obtain ⟨rfl, rfl⟩ := hm
  · match us, l1, ws, l2 with
    | [u0], _, [], _ => cases e; with_unfolding_all rfl
theorem bn__law_is_name : Bnd0 "_law_is_name" "_law_is_name" (L2.defArgs (top 17)) (L2.defBody (top 17)) (scp 17) P__law_is_name [(1, [])] := by
  intro n ks hm kV doc pm cdv ct an us ws vs l1 l2 e
  simp only [List.mem_cons, List.not_mem_nil, or_false, Prod.mk.injEq] at hm
  obtain ⟨rfl, rfl⟩ := hm
  · match us, l1, ws, l2 with
    | [u0], _, [], _ => cases e; with_unfolding_all rfl
theorem bn__law_is_word : Bnd0 "_law_is_word" "_law_is_word" (L2.defArgs (top 18)) (L2.defBody (top 18)) (scp 18) P__law_is_word [(1, [])] := by
  intro n ks hm kV doc pm cdv ct an us ws vs l1 l2 e
  simp only [List.mem_cons, List.not_mem_nil, or_false, Prod.mk.injEq] at hm
  obtain ⟨rfl, rfl⟩ := hm
  · match us, l1, ws, l2 with
    | [u0], _, [], _ => cases e; with_unfolding_all rfl
theorem bn__law_text : Bnd0 "_law_text" "_law_text" (L2.defArgs (top 19)) (L2.defBody (top 19)) (scp 19) P__law_text [(3, [])] := by
  intro n ks hm kV doc pm cdv ct an us ws vs l1 l2 e
  simp only [List.mem_cons, List.not_mem_nil, or_false, Prod.mk.injEq] at hm
  obtain ⟨rfl, rfl⟩ := hm
  · match us, l1, ws, l2 with
    | [u0, u1, u2], _, [], _ => cases e; with_unfolding_all rfl
theorem bn_law : Bnd0 "law" "law" (L2.defArgs (top 20)) (L2.defBody (top 20)) (scp 20) P_law [(1, [])] := by
  intro n ks hm kV doc pm cdv ct an us ws vs l1 l2 e
  simp only [List.mem_cons, List.not_mem_nil, or_false, Prod.mk.injEq] at hm
  obtain ⟨rfl, rfl⟩ := hm
  · match us, l1, ws, l2 with
    | [u0], _, [], _ => cases e; with_unfolding_all rfl
section
variable {K : PySem.W.Frag} {h : Heap} {mg : Str → Option Value}
theorem ground {P : Program} {w : World} {base : Heap} {ca : Nat → Option Addr} (X : K.In h) (G : h.Ns mainGlobals mg) (c : He.SaysD fas fds K) : Ground ⟨K, ca⟩ P w mg base gl := by
  refine ⟨fun x hx => ?_, fun x d hd => ?_⟩
  · simp only [List.mem_cons, List.not_mem_nil, or_false] at hx
    rcases hx with rfl | rfl | rfl | rfl | rfl | rfl | rfl | rfl | rfl | rfl | rfl
    · exact He.free_ok X G (c.fact 13 rfl)
    · exact He.free_ok X G (c.fact 14 rfl)
    · exact He.free_ok X G (c.fact 15 rfl)
    · exact He.free_ok X G (c.fact 16 rfl)
    · exact He.free_ok X G (c.fact 17 rfl)
    · exact He.free_ok X G (c.fact 18 rfl)
    · exact He.free_ok X G (c.fact 19 rfl)
    · exact He.free_ok X G (c.fact 20 rfl)
    · exact He.free_ok X G (c.fact 21 rfl)
    · exact He.free_ok X G (c.fact 22 rfl)
    · exact He.free_ok X G (c.fact 23 rfl)
  · unfold gl at hd
    simp only [List.lookup] at hd
    repeat' split at hd
    all_goals first
      | (cases hd; rename_i hx; have ex := eq_of_beq hx; subst ex; obtain ⟨t, ht⟩ := He.str_ok (z := "abcdefghijklmnopqrstuvwxyz") X G (c.fact 24 rfl); exact ⟨.str "abcdefghijklmnopqrstuvwxyz", _, ht, ⟨t, rfl⟩, fun _ _ _ => ⟨rfl, by decide +kernel, by decide +kernel⟩⟩)
      | (cases hd; rename_i hx; have ex := eq_of_beq hx; subst ex; obtain ⟨t, ht⟩ := He.int_ok (i := 8) X G (c.fact 25 rfl); exact ⟨.int 8, _, ht, ⟨t, rfl⟩, fun _ _ _ => rfl⟩)
      | (cases hd; rename_i hx; have ex := eq_of_beq hx; subst ex; obtain ⟨t, ht⟩ := He.str_ok (z := "0123456789") X G (c.fact 26 rfl); exact ⟨.str "0123456789", _, ht, ⟨t, rfl⟩, fun _ _ _ => ⟨rfl, by decide +kernel, by decide +kernel⟩⟩)
      | (cases hd; rename_i hx; have ex := eq_of_beq hx; subst ex; obtain ⟨t, ht⟩ := He.str_ok (z := "#$:?") X G (c.fact 27 rfl); exact ⟨.str "#$:?", _, ht, ⟨t, rfl⟩, fun _ _ _ => ⟨rfl, by decide +kernel, by decide +kernel⟩⟩)
      | (cases hd; rename_i hx; have ex := eq_of_beq hx; subst ex; obtain ⟨t, ht⟩ := He.int_ok (i := 30) X G (c.fact 28 rfl); exact ⟨.int 30, _, ht, ⟨t, rfl⟩, fun _ _ _ => rfl⟩)
      | (cases hd; rename_i hx; have ex := eq_of_beq hx; subst ex; obtain ⟨t, ht⟩ := He.int_ok (i := 12) X G (c.fact 29 rfl); exact ⟨.int 12, _, ht, ⟨t, rfl⟩, fun _ _ _ => rfl⟩)
      | cases hd
theorem entries {ca : Nat → Option Addr} (X : K.In h) (G : h.Ns mainGlobals mg) (c : He.SaysD fas fds K) : ∀ (f : Nat) y shs, fn[f]? = some (y, shs) → Entry ⟨K, ca⟩ mg Pr gl fn f y shs := by
  intro f y shs hf
  match f, hf with
  | 0, hf =>
    cases hf
    obtain ⟨fd, F⟩ := c.def_ 0 (d := d_is_made_of) rfl
    exact ⟨⟨P_is_made_of, N_is_made_of, [], ir_is_made_of⟩, _, _, _, _, rfl, rfl, ⟨_, fd, He.glo_ok X G (c.fact 0 rfl), F⟩, sc_is_made_of, chk_is_made_of, bn_is_made_of⟩
  | 1, hf =>
    cases hf
    obtain ⟨fd, F⟩ := c.def_ 1 (d := d_is_name) rfl
    exact ⟨⟨P_is_name, N_is_name, [], ir_is_name⟩, _, _, _, _, rfl, rfl, ⟨_, fd, He.glo_ok X G (c.fact 1 rfl), F⟩, sc_is_name, chk_is_name, bn_is_name⟩
  | 2, hf =>
    cases hf
    obtain ⟨fd, F⟩ := c.def_ 2 (d := d_is_word) rfl
    exact ⟨⟨P_is_word, N_is_word, [], ir_is_word⟩, _, _, _, _, rfl, rfl, ⟨_, fd, He.glo_ok X G (c.fact 2 rfl), F⟩, sc_is_word, chk_is_word, bn_is_word⟩
  | 3, hf =>
    cases hf
    obtain ⟨fd, F⟩ := c.def_ 3 (d := d_is_plain) rfl
    exact ⟨⟨P_is_plain, N_is_plain, [], ir_is_plain⟩, _, _, _, _, rfl, rfl, ⟨_, fd, He.glo_ok X G (c.fact 3 rfl), F⟩, sc_is_plain, chk_is_plain, bn_is_plain⟩
  | 4, hf =>
    cases hf
    obtain ⟨fd, F⟩ := c.def_ 4 (d := d__law_bag) rfl
    exact ⟨⟨P__law_bag, N__law_bag, [], ir__law_bag⟩, _, _, _, _, rfl, rfl, ⟨_, fd, He.glo_ok X G (c.fact 4 rfl), F⟩, sc__law_bag, chk__law_bag, bn__law_bag⟩
  | 5, hf =>
    cases hf
    obtain ⟨fd, F⟩ := c.def_ 5 (d := d__law_draw) rfl
    exact ⟨⟨P__law_draw, N__law_draw, [], ir__law_draw⟩, _, _, _, _, rfl, rfl, ⟨_, fd, He.glo_ok X G (c.fact 5 rfl), F⟩, sc__law_draw, chk__law_draw, bn__law_draw⟩
  | 6, hf =>
    cases hf
    obtain ⟨fd, F⟩ := c.def_ 6 (d := d__law_of) rfl
    exact ⟨⟨P__law_of, N__law_of, [], ir__law_of⟩, _, _, _, _, rfl, rfl, ⟨_, fd, He.glo_ok X G (c.fact 6 rfl), F⟩, sc__law_of, chk__law_of, bn__law_of⟩
  | 7, hf =>
    cases hf
    obtain ⟨fd, F⟩ := c.def_ 7 (d := d__law_same) rfl
    exact ⟨⟨P__law_same, N__law_same, [], ir__law_same⟩, _, _, _, _, rfl, rfl, ⟨_, fd, He.glo_ok X G (c.fact 7 rfl), F⟩, sc__law_same, chk__law_same, bn__law_same⟩
  | 8, hf =>
    cases hf
    obtain ⟨fd, F⟩ := c.def_ 8 (d := d__law_is_plain) rfl
    exact ⟨⟨P__law_is_plain, N__law_is_plain, [], ir__law_is_plain⟩, _, _, _, _, rfl, rfl, ⟨_, fd, He.glo_ok X G (c.fact 8 rfl), F⟩, sc__law_is_plain, chk__law_is_plain, bn__law_is_plain⟩
  | 9, hf =>
    cases hf
    obtain ⟨fd, F⟩ := c.def_ 9 (d := d__law_is_name) rfl
    exact ⟨⟨P__law_is_name, N__law_is_name, [], ir__law_is_name⟩, _, _, _, _, rfl, rfl, ⟨_, fd, He.glo_ok X G (c.fact 9 rfl), F⟩, sc__law_is_name, chk__law_is_name, bn__law_is_name⟩
  | 10, hf =>
    cases hf
    obtain ⟨fd, F⟩ := c.def_ 10 (d := d__law_is_word) rfl
    exact ⟨⟨P__law_is_word, N__law_is_word, [], ir__law_is_word⟩, _, _, _, _, rfl, rfl, ⟨_, fd, He.glo_ok X G (c.fact 10 rfl), F⟩, sc__law_is_word, chk__law_is_word, bn__law_is_word⟩
  | 11, hf =>
    cases hf
    obtain ⟨fd, F⟩ := c.def_ 11 (d := d__law_text) rfl
    exact ⟨⟨P__law_text, N__law_text, [], ir__law_text⟩, _, _, _, _, rfl, rfl, ⟨_, fd, He.glo_ok X G (c.fact 11 rfl), F⟩, sc__law_text, chk__law_text, bn__law_text⟩
  | 12, hf =>
    cases hf
    obtain ⟨fd, F⟩ := c.def_ 12 (d := d_law) rfl
    exact ⟨⟨P_law, N_law, [], ir_law⟩, _, _, _, _, rfl, rfl, ⟨_, fd, He.glo_ok X G (c.fact 12 rfl), F⟩, sc_law, chk_law, bn_law⟩
  | f + 13, hf => exact nomatch hf
end
theorem law_fn {K : PySem.W.Frag} {h : Heap} {mg : Str → Option Value} {f : Addr} {w : World} {lv : Nat} (X : K.In h) (G : h.Ns mainGlobals mg) (hfa : mg ("law" : Str) = some (.ref f)) (c : He.SaysD fas fds K)
    (content : ∀ ns : List Int, ns.length ≤ 63 → (∀ z ∈ ns, Builtin.Int.intBits z ≤ 1048576) → ∃ h', endF (evSs (callF Pr lv) ir_law (env0 N_law [scD ns]) []) = .ok (.bl true, h')) :
    ∃ (fd : FuncData) (sp : Sp), (∀ (s : Shared) (u : Value), BindsTo s fd ⟨[u], []⟩ [("_law_script", u)]) ∧
        (∀ (H : Hp) (a : Addr) (vs : List Value) (ns : List Int), ns.length ≤ 63 → (∀ z ∈ ns, Builtin.Int.intBits z ≤ 1048576) → Sc K a vs ns H → SqL K H a (ns.map V.int) → sp [.ref a] H (fun v _ => v = .bl true) fun _ _ _ => False) ∧
        ∀ base : Heap, K.In base → base.Ns mainGlobals mg → FnG rw.prog w K mg base (lv + 1) f fd ["_law_script"] sp := by
  obtain ⟨fd, F⟩ := c.def_ 12 (d := d_law) rfl
  have e := hfa.symm.trans (He.glo_ok X G (c.fact 12 (f := .glo "law") rfl))
  cases e
  refine ⟨fd, spF ⟨K, fun _ => none⟩ 1 fun ds h => endF (evSs (callF Pr lv) ir_law (env0 N_law ds) h), fun s u => ?_, fun H a vs ns hl hb _ hS => law_sp (G := ⟨K, fun _ => none⟩) hl hS (content ns hl hb), fun base _ Gb => ?_⟩
  · obtain ⟨oc, od, dV, kV, doc, pm, an, cdv, ct, osl, rfl, lk, hcd, hD, _⟩ := F.ex
    rcases hD with ⟨_, rfl⟩ | ⟨z, _⟩
    · exact .of_eq (bn_law 1 [] (by simp) kV doc pm cdv ct an [u] [] [u] rfl rfl rfl)
    · exact absurd rfl z
  · exact body_ok (G := ⟨K, fun _ => none⟩) (k := ⟨N_law, scp 20, fn, gl⟩) (ground X G c) F sc_law rfl chk_law (callee_ok (ground X G c) (entries X G c) lv)
end L_k01
open PySem PySem.W PySem.Calls PyProof.Rows
theorem k01_holds (content : ∀ ns : List Int, ns.length ≤ 63 → (∀ z ∈ ns, Builtin.Int.intBits z ≤ 1048576) → ∃ h', An.endF (An.evSs (An.callF L_k01.Pr 200) L_k01.ir_law (An.env0 L_k01.N_law [An.scD ns]) []) = .ok (.bl true, h')) : PySem.Challenge.rw_anyheir_k01_names_and_words.Holds := by
  w_on; o_law
  refine HandSHeadRun.head_any (r := OpenLaw.row PySem.Challenge.rw_anyheir_k01_names_and_words) (q := view (OpenLaw.row PySem.Challenge.rw_anyheir_k01_names_and_words).prog [20]) (H := L_k01.hk) (ob := L_k01.ob) (M := 100000) (loose := L_k01.names) (d := HandSHeadRun.topDef (OpenLaw.row PySem.Challenge.rw_anyheir_k01_names_and_words).prog 20) (kwd := []) L_k01.ob_eq
    (by kernel_rfl) (fun s => by kernel_rfl) L_k01.run (by kernel_rfl) (by kernel_rfl) (by kernel_rfl) (by rfl) (by first | assumption | decide +kernel) (by decide +kernel) ⟨rfl, rfl, rfl, rfl, rfl, by decide +kernel⟩ ?hw ?hc
  case hw => w_witness2
  case hc =>
    refine An.walkG (l := PySem.Challenge.rw_anyheir_k01_names_and_words) (k := 201) (x := "_law_script") rfl (by kernel_rfl) ⟨rfl, by decide, by decide⟩ ?F
    intro w mg fa h Y G hmg0
    obtain ⟨K, KX, c⟩ := Y
    have hmg : mg ("law" : PySem.Str) = some (.ref fa) := by
      have e : (HandSHeadRun.topDef (OpenLaw.row PySem.Challenge.rw_anyheir_k01_names_and_words).prog 20).name = ("law" : PySem.Str) := by kernel_rfl
      rw [← e]
      exact hmg0
    obtain ⟨fd, sp, h1, h2, h3⟩ := L_k01.law_fn (lv := 200) (w := w) KX G hmg c content
    exact ⟨K, fd, sp, KX, h1, h2, h3⟩

namespace An
open PySem L2

/-! ### running the small language -/
section
variable {ρ : Env} {h : Hh} {call : Nat → List D → List (Str × D) → Hh → Res (D × Hh)}
theorem eqR_int (a b : Int) : eqR ρ h (.val (.int a)) (.val (.int b)) = some (decide (a = b)) := by
  show (if PyData.depth (.int a) ≤ 64 ∧ PyData.depth (.int b) ≤ 64 then some (PyData.eqv (.int a) (.int b)) else none) = _
  rw [if_pos ⟨by simp [PyData.depth], by simp [PyData.depth]⟩]
  simp only [PyData.eqv]
  rfl
theorem eqR_str (a b : Str) : eqR ρ h (.val (.str a)) (.val (.str b)) = some (decide (a = b)) := rfl
theorem eqR_rep (a b : Str) : eqR ρ h (.val (.rep a)) (.val (.rep b)) = some (decide (a = b)) := rfl
theorem cmp_lt (a b : Int) : cmpR ρ h .lt (.val (.int a)) (.val (.int b)) = some (decide (a < b)) := rfl
theorem cmp_le (a b : Int) : cmpR ρ h .le (.val (.int a)) (.val (.int b)) = some (decide (a ≤ b)) := rfl
theorem cmp_gt (a b : Int) : cmpR ρ h .gt (.val (.int a)) (.val (.int b)) = some (decide (b < a)) := rfl
theorem cmp_ge (a b : Int) : cmpR ρ h .ge (.val (.int a)) (.val (.int b)) = some (decide (b ≤ a)) := rfl
theorem cmp_eqI (a b : Int) : cmpR ρ h .eq (.val (.int a)) (.val (.int b)) = some (decide (a = b)) := eqR_int a b
theorem bin_add (a b : Int) : binR ρ h .add (.val (.int a)) (.val (.int b)) = some (.val (.int (a + b))) := rfl
theorem bin_sub (a b : Int) : binR ρ h .sub (.val (.int a)) (.val (.int b)) = some (.val (.int (a - b))) := rfl
theorem bin_mul {a b : Int} (k : (-(2 ^ 64) < a ∧ a < 2 ^ 64) ∨ (-(2 ^ 64) < b ∧ b < 2 ^ 64)) : binR ρ h .mul (.val (.int a)) (.val (.int b)) = some (.val (.int (a * b))) := by
  show alt (if _ then _ else _) _ = _
  rw [if_pos k]; rfl
theorem bin_fdiv {a b : Int} (k : 0 < b ∧ b < 1073741824) : binR ρ h .fdiv (.val (.int a)) (.val (.int b)) = some (.val (.int (a / b))) := by
  show (if _ then _ else _) = _
  rw [if_pos k]
theorem bin_mod {a b : Int} (k : 0 < b) : binR ρ h .mod (.val (.int a)) (.val (.int b)) = some (.val (.int (a % b))) := by
  show (if _ then _ else _) = _
  rw [if_pos k]
theorem tru_bl (b : Bool) : truR ρ h (.val (.bl b)) = some b := rfl
theorem bi_int (a : Int) : biR ρ h .int (.val (.int a)) = some (.val (.int a)) := rfl
theorem bind_ok' {α β : Type} (a : α) (f : α → Res β) : (Res.ok a).bind f = f a := rfl
theorem bind_some {α β : Type} (a : α) (f : α → Res β) : (ofO (some a)).bind f = f a := rfl
theorem st_ok {α : Type} (a : α × Hh) (f : α × Hh → RS) : (Res.ok a).st ρ f = f a := rfl
theorem seq_nx (f : Env → Hh → RS) : (RS.nx ρ h).seq f = f ρ h := rfl
theorem seq_rt (d : D) (f : Env → Hh → RS) : (RS.rt d h).seq f = .rt d h := rfl
/-- o[i] of a cell -/
theorem ix_cell {k : Nat} {xs : List D} {i : Int} {d : D} (hk : h[k]? = some (.lst xs)) (e : atI xs i = some d) : ixR ρ h (.val (.ref k)) (.val (.int i)) = some (.val d) := by
  unfold ixR
  show alt none ((seqOf ρ h (.val (.ref k))).bind fun xs => (atI xs i).map R.val) = _
  have s : seqOf ρ h (.val (.ref k)) = some xs := by
    show alt none (match h[k]? with
      | some (.lst xs) => some xs
      | _ => none) = some xs
    rw [hk]; rfl
  rw [s]
  show alt none ((atI xs i).map R.val) = _
  rw [e]; rfl
theorem ix_lst {xs : List D} {i : Int} {d : D} (e : atI xs i = some d) : ixR ρ h (.val (.lst xs)) (.val (.int i)) = some (.val d) := by
  show alt none ((atI xs i).map R.val) = _
  rw [e]; rfl
theorem ix_str {s : Str} {i : Int} {c : Nat} (e : atI s.cps.toList i = some c) : ixR ρ h (.val (.str s)) (.val (.int i)) = some (.val (.str ⟨#[c]⟩)) := by
  show alt ((atI s.cps.toList i).map fun c => R.val (.str ⟨#[c]⟩)) _ = _
  rw [e]; rfl
theorem set_cell {k : Nat} {xs : List D} {i : Int} {n : Nat} {d : D} {r : R} (hk : h[k]? = some (.lst xs)) (e : ixN xs.length i = some n) (er : toD r = some d) : setC h (.val (.ref k)) (.val (.int i)) r = some (h.set k (.lst (xs.set n d))) := by
  show (match h[k]? with
    | some (.lst xs) => (some i).bind fun j => (ixN xs.length j).bind fun n => (toD r).map fun d => h.set k (.lst (xs.set n d))
    | _ => none) = _
  rw [hk]
  show (ixN xs.length i).bind (fun n => (toD r).map fun d => h.set k (.lst (xs.set n d))) = _
  rw [e, er]; rfl
theorem get_set {k : Nat} {c : C} (hk : h[k]? = some c) (c' : C) : (h.set k c')[k]? = some c' := List.getElem?_set_self (List.getElem?_eq_some_iff.mp hk).1
theorem set_set (k : Nat) (a b : C) : (h.set k a).set k b = h.set k b := List.set_set ..
theorem atI_lt {α : Type} {xs : List α} {i : Int} (h0 : 0 ≤ i) (h1 : i < xs.length) : atI xs i = xs[i.toNat]? := by
  unfold atI ixN
  rw [if_pos h0, if_pos h1]; rfl
theorem atI_ex {α : Type} {xs : List α} {i : Int} (h0 : 0 ≤ i) (h1 : i < xs.length) : ∃ x, atI xs i = some x ∧ x ∈ xs := by
  rw [atI_lt h0 h1]
  have l : i.toNat < xs.length := by omega
  exact ⟨xs[i.toNat], List.getElem?_eq_getElem l, List.getElem_mem l⟩
end

/-! ### the law's dice -/
/-- a sack over the script -/
structure Sack (ns : List Int) (c : C) (i d b m : Int) : Prop where
  e : c = .lst [scD ns, .int i, .int d, .int b, .int m]
  i0 : 0 ≤ i
  d0 : 0 ≤ d
  b0 : 0 ≤ b
  b1 : b < 2147483629
  m0 : 0 ≤ m
def IsSack (ns : List Int) (c : C) : Prop := ∃ i d b m, Sack ns c i d b m
end An

namespace An
open PySem L2

/-- the law's dice, as every law of this program writes them -/
def irDraw : Ss := (.cons (.ite (.and (.cmp .eq (.ix (.var 0) (.cst (.int 2))) (.cst (.int 0))) (.cons (.cmp .lt (.ix (.var 0) (.cst (.int 1))) (.bi .len (.ix (.var 0) (.cst (.int 0))))) .nil))
    (.cons (.asg .frz 3 (.ix (.ix (.var 0) (.cst (.int 0))) (.ix (.var 0) (.cst (.int 1)))))
    (.cons (.setix (.var 0) (.cst (.int 1)) (.bin .add (.ix (.var 0) (.cst (.int 1))) (.cst (.int 1))))
    (.cons (.setix (.var 0) (.cst (.int 3)) (.bin .mod (.bi .int (.bin .add (.bin .add (.bin .mul (.ix (.var 0) (.cst (.int 3))) (.cst (.int 40013))) (.bin .mul (.bin .mod (.bi .int (.var 3)) (.cst (.int 2147483549))) (.cst (.int 307)))) (.cst (.int 1013)))) (.cst (.int 2147483629))))
    (.cons (.ite (.cmp .ge (.var 3) (.bin .pow (.cst (.int 10)) (.cst (.int 18))))
    (.cons (.setix (.var 0) (.cst (.int 2)) (.var 3))
    .nil)
    .nil)
    .nil))))
    .nil)
    (.cons (.ite (.cmp .gt (.ix (.var 0) (.cst (.int 2))) (.cst (.int 0)))
    (.cons (.asg .frz 4 (.bin .mod (.bi .int (.ix (.var 0) (.cst (.int 2)))) (.var 1)))
    (.cons (.setix (.var 0) (.cst (.int 2)) (.bin .fdiv (.ix (.var 0) (.cst (.int 2))) (.var 1)))
    (.cons (.ret .frz (.var 4))
    .nil)))
    .nil)
    (.cons (.setix (.var 0) (.cst (.int 4)) (.bin .add (.ix (.var 0) (.cst (.int 4))) (.cst (.int 1))))
    (.cons (.asg .frz 2 (.ix (.var 0) (.cst (.int 3))))
    (.cons (.setix (.var 0) (.cst (.int 3)) (.bin .mod (.bi .int (.bin .add (.bin .add (.bin .add (.bin .mul (.var 2) (.var 2)) (.bin .mul (.cst (.int 70001)) (.var 2))) (.bin .mul (.cst (.int 7907)) (.ix (.var 0) (.cst (.int 4))))) (.cst (.int 30011)))) (.cst (.int 2147483629))))
    (.cons (.ret .frz (.bin .mod (.bi .int (.bin .add (.bin .add (.bin .fdiv (.ix (.var 0) (.cst (.int 3))) (.cst (.int 59))) (.bin .mul (.var 2) (.cst (.int 33301)))) (.ix (.var 0) (.cst (.int 4))))) (.var 1)))
    .nil))))))
section
variable {ρ : Env} {h : Hh} {call : Nat → List D → List (Str × D) → Hh → Res (D × Hh)} {ns : List Int} {k : Nat} {i d b m many : Int}
abbrev sk (ns : List Int) (i d b m : Int) : C := .lst [scD ns, .int i, .int d, .int b, .int m]
theorem ev_var {v : Nat} {d : D} (h0 : ρ[v]? = some (.val d)) : evE call (.var v) ρ h = .ok (.val d, h) := by
  show (match ρ[v]? with
    | some (.val d) => (Res.ok (R.val d, h) : Res (R × Hh))
    | _ => Res.stuck) = _
  rw [h0]
theorem ev_int (i : Int) : evE call (.cst (.int i)) ρ h = .ok (.val (.int i), h) := rfl
theorem ev_bin {o : Bop} {a b : E} {x y z : R} (ea : evE call a ρ h = .ok (x, h)) (eb : evE call b ρ h = .ok (y, h)) (e : binR ρ h o x y = some z) : evE call (.bin o a b) ρ h = .ok (z, h) := by
  show (evE call a ρ h).bind _ = _
  rw [ea]
  show (evE call b ρ h).bind _ = _
  rw [eb]
  show (ofO (binR ρ h o x y)).bind _ = _
  rw [e]; rfl
theorem ev_cmp {o : Cop} {a b : E} {x y : R} {z : Bool} (ea : evE call a ρ h = .ok (x, h)) (eb : evE call b ρ h = .ok (y, h)) (e : cmpR ρ h o x y = some z) : evE call (.cmp o a b) ρ h = .ok (.val (.bl z), h) := by
  show (evE call a ρ h).bind _ = _
  rw [ea]
  show (evE call b ρ h).bind _ = _
  rw [eb]
  show (ofO (cmpR ρ h o x y)).bind _ = _
  rw [e]; rfl
theorem ev_bi {o : Bi} {a : E} {x z : R} (ea : evE call a ρ h = .ok (x, h)) (e : biR ρ h o x = some z) : evE call (.bi o a) ρ h = .ok (z, h) := by
  show (evE call a ρ h).bind _ = _
  rw [ea]
  show (ofO (biR ρ h o x)).bind _ = _
  rw [e]; rfl
theorem ev_ix {a b : E} {x y z : R} (ea : evE call a ρ h = .ok (x, h)) (eb : evE call b ρ h = .ok (y, h)) (e : ixR ρ h x y = some z) : evE call (.ix a b) ρ h = .ok (z, h) := by
  show (evE call a ρ h).bind _ = _
  rw [ea]
  show (evE call b ρ h).bind _ = _
  rw [eb]
  show (ofO (ixR ρ h x y)).bind _ = _
  rw [e]; rfl
/-- the sack's j-th thing -/
theorem ev_sk {xs : List D} {j : Int} {x : D} (h0 : ρ[0]? = some (.val (.ref k))) (hk : h[k]? = some (.lst xs)) (e : atI xs j = some x) : evE call (.ix (.var 0) (.cst (.int j))) ρ h = .ok (.val x, h) := ev_ix (ev_var h0) (ev_int j) (ix_cell hk e)
/-- o[j] = e at the sack -/
theorem ev_setsk {xs : List D} {j : Int} {n : Nat} {e : E} {x : D} {r : Ss} (h0 : ρ[0]? = some (.val (.ref k))) (hk : h[k]? = some (.lst xs)) (ev : evE call e ρ h = .ok (.val x, h)) (en : ixN xs.length j = some n) :
    evSs call (.cons (.setix (.var 0) (.cst (.int j)) e) r) ρ h = evSs call r ρ (h.set k (.lst (xs.set n x))) := by
  show ((evE call e ρ h).st ρ _).seq _ = _
  rw [ev]
  show ((evE call (.var 0) ρ h).st ρ _).seq _ = _
  rw [ev_var h0]
  show ((match setC h (.val (.ref k)) (.val (.int j)) (.val x) with
    | some h' => .nx ρ h'
    | none => .stuck : RS)).seq _ = _
  rw [set_cell hk en rfl]; rfl
theorem ev_asg {v : Nat} {e : E} {x : D} {r : Ss} (ev : evE call e ρ h = .ok (.val x, h)) : evSs call (.cons (.asg .frz v e) r) ρ h = evSs call r (ρ.set v (.val x)) h := by
  show ((evE call e ρ h).st ρ _).seq _ = _
  rw [ev]; rfl
theorem ev_retv {e : E} {x : D} {r : Ss} (ev : evE call e ρ h = .ok (.val x, h)) : evSs call (.cons (.ret .frz e) r) ρ h = .rt x h := by
  show ((evE call e ρ h).st ρ _).seq _ = _
  rw [ev]; rfl
theorem ev_ite {e : E} {a b r : Ss} {x : Bool} (ev : evE call e ρ h = .ok (.val (.bl x), h)) : evSs call (.cons (.ite e a b) r) ρ h = (if x = true then evSs call a ρ h else evSs call b ρ h).seq (evSs call r) := by
  show ((evE call e ρ h).st ρ _).seq _ = _
  rw [ev]
  cases x <;> rfl
theorem ev_iteT {e : E} {a b r : Ss} (ev : evE call e ρ h = .ok (.val (.bl true), h)) : evSs call (.cons (.ite e a b) r) ρ h = (evSs call a ρ h).seq (evSs call r) := ev_ite ev
theorem ev_iteF {e : E} {a b r : Ss} (ev : evE call e ρ h = .ok (.val (.bl false), h)) : evSs call (.cons (.ite e a b) r) ρ h = (evSs call b ρ h).seq (evSs call r) := ev_ite ev
theorem ev_and2 {a b : E} {x y : Bool} (ea : evE call a ρ h = .ok (.val (.bl x), h)) (eb : x = true → evE call b ρ h = .ok (.val (.bl y), h)) : evE call (.and a (.cons b .nil)) ρ h = .ok (.val (.bl (x && y)), h) := by
  show (evE call a ρ h).bind _ = _
  rw [ea]
  cases x with
  | false => rfl
  | true =>
    show (evE call b ρ h).bind _ = _
    rw [eb rfl]; rfl
theorem pow18 : binR ρ h .pow (.val (.int 10)) (.val (.int 18)) = some (.val (.int 1000000000000000000)) := by
  show (if (0 ≤ (18 : Int) ∧ (18 : Int) ≤ 1000 ∧ (10 : Int).natAbs < 2 ^ 64) then some (R.val (.int ((10 : Int) ^ (18 : Int).toNat))) else none) = _
  rw [if_pos (by decide)]
  rfl
/-- behind the script's turn -/
theorem draw_end (h0 : ρ[0]? = some (.val (.ref k))) (h1 : ρ[1]? = some (.val (.int many))) (hl : 4 < ρ.length) (m0 : 0 < many) (m1 : many < 1073741824) (hk : h[k]? = some (sk ns i d b m)) (i0 : 0 ≤ i) (d0 : 0 ≤ d) (b0 : 0 ≤ b) (b1 : b < 2147483629) (mm : 0 ≤ m) {r : Ss}
    (er : r = match irDraw with | .cons _ r => r | _ => .nil) : ∃ z c', endF (evSs call r ρ h) = .ok (.int z, h.set k c') ∧ 0 ≤ z ∧ z < many ∧ IsSack ns c' := by
  subst er
  have x2 : evE call (.ix (.var 0) (.cst (.int 2))) ρ h = .ok (.val (.int d), h) := ev_sk h0 hk rfl
  show ∃ z c', endF (evSs call (.cons (.ite (.cmp .gt (.ix (.var 0) (.cst (.int 2))) (.cst (.int 0))) _ _) _) ρ h) = _ ∧ _
  rw [ev_ite (ev_cmp x2 (ev_int 0) (cmp_gt d 0))]
  by_cases hd : 0 < d
  · rw [if_pos (decide_eq_true hd)]
    rw [ev_asg (ev_bin (ev_bi x2 (bi_int d)) (ev_var h1) (bin_mod m0))]
    have h0' : (ρ.set 4 (.val (.int (d % many))))[0]? = some (.val (.ref k)) := by rw [List.getElem?_set_ne (by decide)]; exact h0
    have h1' : (ρ.set 4 (.val (.int (d % many))))[1]? = some (.val (.int many)) := by rw [List.getElem?_set_ne (by decide)]; exact h1
    rw [ev_setsk (n := 2) h0' hk (ev_bin (ev_sk h0' hk rfl) (ev_var h1') (bin_fdiv ⟨m0, m1⟩)) rfl]
    rw [ev_retv (ev_var (by rw [List.getElem?_set_self hl]))]
    exact ⟨d % many, _, rfl, Int.emod_nonneg _ (by omega), Int.emod_lt_of_pos _ m0, i, d / many, b, m, rfl, i0, Int.ediv_nonneg d0 (by omega), b0, b1, mm⟩
  · rw [if_neg (by simpa using hd)]
    show ∃ z c', endF (evSs call _ ρ h) = _ ∧ _
    rw [ev_setsk (n := 4) h0 hk (ev_bin (ev_sk h0 hk rfl) (ev_int 1) (bin_add m 1)) rfl]
    have hk2 : (h.set k (sk ns i d b (m + 1)))[k]? = some (sk ns i d b (m + 1)) := get_set hk _
    show ∃ z c', endF (evSs call _ ρ (h.set k (sk ns i d b (m + 1)))) = _ ∧ _
    rw [ev_asg (ev_sk h0 hk2 rfl)]
    have g0 : (ρ.set 2 (.val (.int b)))[0]? = some (.val (.ref k)) := by rw [List.getElem?_set_ne (by decide)]; exact h0
    have g1 : (ρ.set 2 (.val (.int b)))[1]? = some (.val (.int many)) := by rw [List.getElem?_set_ne (by decide)]; exact h1
    have g2 : (ρ.set 2 (.val (.int b)))[2]? = some (.val (.int b)) := List.getElem?_set_self (by omega)
    have bs : -(2 ^ 64) < b ∧ b < 2 ^ 64 := by omega
    rw [ev_setsk (n := 3) g0 hk2 (ev_bin (ev_bi (ev_bin (ev_bin (ev_bin (ev_bin (ev_var g2) (ev_var g2) (bin_mul (.inl bs))) (ev_bin (ev_int 70001) (ev_var g2) (bin_mul (.inl (by decide)))) (bin_add _ _)) (ev_bin (ev_int 7907) (ev_sk g0 hk2 rfl) (bin_mul (.inl (by decide)))) (bin_add _ _)) (ev_int 30011) (bin_add _ _)) (bi_int _)) (ev_int 2147483629) (bin_mod (by decide))) rfl]
    rw [set_set]
    have hk3 := get_set (h := h) hk (sk ns i d ((b * b + 70001 * b + 7907 * (m + 1) + 30011) % 2147483629) (m + 1))
    show ∃ z c', endF (evSs call _ (ρ.set 2 (.val (.int b))) (h.set k (sk ns i d ((b * b + 70001 * b + 7907 * (m + 1) + 30011) % 2147483629) (m + 1)))) = _ ∧ _
    rw [ev_retv (ev_bin (ev_bi (ev_bin (ev_bin (ev_bin (ev_sk g0 hk3 rfl) (ev_int 59) (bin_fdiv (by decide))) (ev_bin (ev_var g2) (ev_int 33301) (bin_mul (.inl bs))) (bin_add _ _)) (ev_sk g0 hk3 rfl) (bin_add _ _)) (bi_int _)) (ev_var g1) (bin_mod m0))]
    exact ⟨_, _, rfl, Int.emod_nonneg _ (by omega), Int.emod_lt_of_pos _ m0, i, d, _, m + 1, rfl, i0, d0, Int.emod_nonneg _ (by decide), Int.emod_lt_of_pos _ (by decide), by omega⟩
theorem draw_ok {c : C} (hk : h[k]? = some c) (S : IsSack ns c) (m0 : 0 < many) (m1 : many < 1073741824) : ∃ z c', endF (evSs call irDraw [.val (.ref k), .val (.int many), .none, .none, .none] h) = .ok (.int z, h.set k c') ∧ 0 ≤ z ∧ z < many ∧ IsSack ns c' := by
  obtain ⟨i, d, b, m, rfl, i0, d0, b0, b1, mm⟩ := S
  have x2 : evE call (.ix (.var 0) (.cst (.int 2))) [.val (.ref k), .val (.int many), .none, .none, .none] h = .ok (.val (.int d), h) := ev_sk rfl hk rfl
  have x1 : evE call (.ix (.var 0) (.cst (.int 1))) [.val (.ref k), .val (.int many), .none, .none, .none] h = .ok (.val (.int i), h) := ev_sk rfl hk rfl
  have x0 : evE call (.ix (.var 0) (.cst (.int 0))) [.val (.ref k), .val (.int many), .none, .none, .none] h = .ok (.val (scD ns), h) := ev_sk rfl hk rfl
  have xl : evE call (.bi .len (.ix (.var 0) (.cst (.int 0)))) [.val (.ref k), .val (.int many), .none, .none, .none] h = .ok (.val (.int (ns.map D.int).length), h) := ev_bi x0 rfl
  show ∃ z c', endF (evSs call (.cons (.ite _ _ _) _) _ h) = _ ∧ _
  rw [ev_ite (ev_and2 (ev_cmp x2 (ev_int 0) (cmp_eqI d 0)) fun _ => ev_cmp x1 xl (cmp_lt _ _))]
  by_cases hc : (decide (d = 0) && decide (i < ((ns.map D.int).length : Int))) = true
  · rw [if_pos hc]
    obtain ⟨c1, c2⟩ := (Bool.and_eq_true _ _).mp hc
    have c1 := of_decide_eq_true c1
    have c2 := of_decide_eq_true c2
    obtain ⟨x, ex, mx⟩ := atI_ex (xs := ns.map D.int) i0 c2
    obtain ⟨v, _, rfl⟩ := List.mem_map.mp mx
    rw [ev_asg (ev_ix x0 x1 (ix_lst ex))]
    rw [ev_setsk (n := 1) rfl hk (ev_bin (ev_sk rfl hk rfl) (ev_int 1) (bin_add i 1)) rfl]
    have hk2 := get_set (h := h) hk (sk ns (i + 1) d b m)
    show ∃ z c', endF ((evSs call _ [.val (.ref k), .val (.int many), .none, .val (.int v), .none] (h.set k (sk ns (i + 1) d b m))).seq _) = _ ∧ _
    have bs : -(2 ^ 64) < b ∧ b < 2 ^ 64 := by omega
    have e1 : -(2 ^ 64) < v % 2147483549 ∧ v % 2147483549 < 2 ^ 64 := by
      have := Int.emod_nonneg v (b := 2147483549) (by decide)
      have := Int.emod_lt_of_pos v (b := 2147483549) (by decide)
      omega
    rw [ev_setsk (n := 3) rfl hk2 (ev_bin (ev_bi (ev_bin (ev_bin (ev_bin (ev_sk rfl hk2 rfl) (ev_int 40013) (bin_mul (.inl bs))) (ev_bin (ev_bin (ev_bi (ev_var rfl) (bi_int v)) (ev_int 2147483549) (bin_mod (by decide))) (ev_int 307) (bin_mul (.inl e1))) (bin_add _ _)) (ev_int 1013) (bin_add _ _)) (bi_int _)) (ev_int 2147483629) (bin_mod (by decide))) rfl]
    rw [set_set]
    have hk3 := get_set (h := h) hk (sk ns (i + 1) d ((b * 40013 + v % 2147483549 * 307 + 1013) % 2147483629) m)
    show ∃ z c', endF ((evSs call _ [.val (.ref k), .val (.int many), .none, .val (.int v), .none] (h.set k (sk ns (i + 1) d ((b * 40013 + v % 2147483549 * 307 + 1013) % 2147483629) m))).seq _) = _ ∧ _
    rw [ev_ite (ev_cmp (ev_var rfl) (ev_bin (ev_int 10) (ev_int 18) pow18) (cmp_ge _ _))]
    have q0 := Int.emod_nonneg (b * 40013 + v % 2147483549 * 307 + 1013) (b := 2147483629) (by decide)
    have q1 := Int.emod_lt_of_pos (b * 40013 + v % 2147483549 * 307 + 1013) (b := 2147483629) (by decide)
    by_cases hv : (1000000000000000000 : Int) ≤ v
    · rw [if_pos (decide_eq_true hv)]
      rw [ev_setsk (n := 2) rfl hk3 (ev_var rfl) rfl]
      rw [set_set]
      have hk4 := get_set (h := h) hk (sk ns (i + 1) v ((b * 40013 + v % 2147483549 * 307 + 1013) % 2147483629) m)
      obtain ⟨z, c', e, r⟩ := draw_end (call := call) (ρ := [.val (.ref k), .val (.int many), .none, .val (.int v), .none]) (r := match irDraw with | .cons _ r => r | _ => .nil) rfl rfl (by show 4 < 5; decide) m0 m1 hk4 (by omega) (by omega) q0 q1 mm rfl
      rw [set_set] at e
      exact ⟨z, c', e, r⟩
    · rw [if_neg (by simpa using hv)]
      obtain ⟨z, c', e, r⟩ := draw_end (call := call) (ρ := [.val (.ref k), .val (.int many), .none, .val (.int v), .none]) (r := match irDraw with | .cons _ r => r | _ => .nil) rfl rfl (by show 4 < 5; decide) m0 m1 hk3 (by omega) d0 q0 q1 mm rfl
      rw [set_set] at e
      exact ⟨z, c', e, r⟩
  · rw [if_neg hc]
    exact draw_end (call := call) rfl rfl (by show 4 < 5; decide) m0 m1 hk i0 d0 b0 b1 mm rfl
end
end An

namespace An
open PySem L2

section
variable {ρ : Env} {h h1 h2 h3 : Hh} {call : Nat → List D → List (Str × D) → Hh → Res (D × Hh)} {ns : List Int} {k : Nat}
theorem callF_eq {Pr : Pg} {n f : Nat} {fi : FI} {ds vs : List D} {kd : List (Str × D)} (hf : Pr.fs[f]? = some fi) (hb : bindG fi.ps fi.dfl ds kd = some vs) : callF Pr (n + 1) f ds kd h = endF (evSs (callF Pr n) fi.body (env0 fi.N vs) h) := by
  show ((ofO Pr.fs[f]?).bind fun fi => (ofO (bindG fi.ps fi.dfl ds kd)).bind fun vs => endF (evSs (callF Pr n) fi.body (env0 fi.N vs) h)) = _
  rw [hf]
  show (ofO (bindG fi.ps fi.dfl ds kd)).bind _ = _
  rw [hb]; rfl
theorem ev_nil : evEs call .nil ρ h = .ok ([], h) := rfl
theorem ev_cons {e : E} {es : Es} {x : R} {xs : List R} (ea : evE call e ρ h = .ok (x, h1)) (er : evEs call es ρ h1 = .ok (xs, h2)) : evEs call (.cons e es) ρ h = .ok (x :: xs, h2) := by
  show (evE call e ρ h).bind _ = _
  rw [ea]
  show (evEs call es ρ h1).bind _ = _
  rw [er]; rfl
theorem ev_knil : evKs call .nil ρ h = .ok ([], h) := rfl
theorem ev_kcons {n : Str} {e : E} {es : Ks} {x : R} {xs : List R} (ea : evE call e ρ h = .ok (x, h1)) (er : evKs call es ρ h1 = .ok (xs, h2)) : evKs call (.cons n e es) ρ h = .ok (x :: xs, h2) := by
  show (evE call e ρ h).bind _ = _
  rw [ea]
  show (evKs call es ρ h1).bind _ = _
  rw [er]; rfl
theorem ev_call {f : Nat} {es : Es} {ks : Ks} {rs qs : List R} {ds kd : List D} {d : D} (e1 : evEs call es ρ h = .ok (rs, h1)) (e2 : optAll toD rs = some ds) (e3 : evKs call ks ρ h1 = .ok (qs, h2)) (e4 : optAll toD qs = some kd)
    (e5 : call f ds ((keysOf ks).zip kd) h2 = .ok (d, h3)) : evE call (.call f es ks) ρ h = .ok (.val d, h3) := by
  show (evEs call es ρ h).bind _ = _
  rw [e1]
  show (ofO (optAll toD rs)).bind _ = _
  rw [e2]
  show (evKs call ks ρ h1).bind _ = _
  rw [e3]
  show (ofO (optAll toD qs)).bind _ = _
  rw [e4]
  show (call f ds ((keysOf ks).zip kd) h2).bind _ = _
  rw [e5]; rfl
theorem ev_call0 {f : Nat} {es : Es} {rs : List R} {ds : List D} {d : D} (e1 : evEs call es ρ h = .ok (rs, h1)) (e2 : optAll toD rs = some ds) (e5 : call f ds [] h1 = .ok (d, h3)) : evE call (.call f es .nil) ρ h = .ok (.val d, h3) :=
  ev_call e1 e2 ev_knil rfl e5
theorem ev_lst {es : Es} {rs : List R} {ds : List D} (e1 : evEs call es ρ h = .ok (rs, h1)) (e2 : optAll toD rs = some ds) (l : ds.length ≤ 16777216) : evE call (.lst es) ρ h = .ok (.fr (.lst ds), h1) := by
  show (evEs call es ρ h).bind _ = _
  rw [e1]
  show (ofO (optAll toD rs)).bind _ = _
  rw [e2]
  show (if ds.length ≤ 16777216 then Res.ok (R.fr (.lst ds), h1) else .stuck) = _
  rw [if_pos l]
theorem ev_tup {es : Es} {rs : List R} {ds : List D} (e1 : evEs call es ρ h = .ok (rs, h1)) (e2 : optAll toD rs = some ds) (l : ds.length ≤ 16777216) : evE call (.tup es) ρ h = .ok (.val (.tup ds), h1) := by
  show (evEs call es ρ h).bind _ = _
  rw [e1]
  show (ofO (optAll toD rs)).bind _ = _
  rw [e2]
  show (if ds.length ≤ 16777216 then Res.ok (R.val (.tup ds), h1) else .stuck) = _
  rw [if_pos l]
theorem ev_str (s : Str) : evE call (.cst (.str s)) ρ h = .ok (.val (.str s), h) := rfl
theorem ev_cst (d : D) : evE call (.cst d) ρ h = .ok (.val d, h) := rfl
theorem ev_gv (x : Str) (d : D) : evE call (.gv x d) ρ h = .ok (.val d, h) := rfl
theorem ev_ixH {a b : E} {x y z : R} (ea : evE call a ρ h = .ok (x, h1)) (eb : evE call b ρ h1 = .ok (y, h2)) (e : ixR ρ h2 x y = some z) : evE call (.ix a b) ρ h = .ok (z, h2) := by
  show (evE call a ρ h).bind _ = _
  rw [ea]
  show (evE call b ρ h1).bind _ = _
  rw [eb]
  show (ofO (ixR ρ h2 x y)).bind _ = _
  rw [e]; rfl
theorem ev_not {a : E} {b : Bool} (ea : evE call a ρ h = .ok (.val (.bl b), h)) : evE call (.not a) ρ h = .ok (.val (.bl (!b)), h) := by
  show (evE call a ρ h).bind _ = _
  rw [ea]; rfl
theorem ev_or2 {a b : E} {x y : Bool} (ea : evE call a ρ h = .ok (.val (.bl x), h)) (eb : x = false → evE call b ρ h = .ok (.val (.bl y), h)) : evE call (.or a (.cons b .nil)) ρ h = .ok (.val (.bl (x || y)), h) := by
  show (evE call a ρ h).bind _ = _
  rw [ea]
  cases x with
  | true => rfl
  | false =>
    show (evE call b ρ h).bind _ = _
    rw [eb rfl]; rfl
theorem ev_and3 {a b c : E} {x y z : Bool} (ea : evE call a ρ h = .ok (.val (.bl x), h)) (eb : x = true → evE call b ρ h = .ok (.val (.bl y), h)) (ec : x = true → y = true → evE call c ρ h = .ok (.val (.bl z), h)) :
    evE call (.and a (.cons b (.cons c .nil))) ρ h = .ok (.val (.bl (x && y && z)), h) := by
  show (evE call a ρ h).bind _ = _
  rw [ea]
  cases x with
  | false => rfl
  | true =>
    show (evE call b ρ h).bind _ = _
    rw [eb rfl]
    cases y with
    | false => rfl
    | true =>
      show (evE call c ρ h).bind _ = _
      rw [ec rfl rfl]; rfl
theorem ev_isi {a : E} {r : R} {t : Ty} {b : Bool} (ea : evE call a ρ h = .ok (r, h)) (e : isiR r t = some b) : evE call (.isi a t) ρ h = .ok (.val (.bl b), h) := by
  show (evE call a ρ h).bind _ = _
  rw [ea]
  show (ofO (isiR r t)).bind _ = _
  rw [e]; rfl
theorem ev_chn {o o' : Cop} {a b c : E} {x y z : R} {p q : Bool} (ea : evE call a ρ h = .ok (x, h)) (eb : evE call b ρ h = .ok (y, h)) (ec : evE call c ρ h = .ok (z, h)) (e1 : cmpR ρ h o x y = some p) (e2 : cmpR ρ h o' y z = some q) :
    evE call (.chn o o' a b c) ρ h = .ok (.val (.bl (p && q)), h) := by
  show (evE call a ρ h).bind _ = _
  rw [ea]
  show (evE call b ρ h).bind _ = _
  rw [eb]
  show (ofO (cmpR ρ h o x y)).bind _ = _
  rw [e1]
  cases p with
  | false => rfl
  | true =>
    show (evE call c ρ h).bind _ = _
    rw [ec]
    show (ofO (cmpR ρ h o' y z)).bind _ = _
    rw [e2]; rfl
theorem ev_len {v : Nat} {s : Str} (h0 : ρ[v]? = some (.val (.str s))) : evE call (.bi .len (.var v)) ρ h = .ok (.val (.int s.length), h) := ev_bi (ev_var h0) rfl
theorem lcL_pure {f : D → Hh → Res (Option D × Hh)} {g : D → D} : ∀ {ds : List D}, (∀ d ∈ ds, f d h = .ok (some (g d), h)) → lcL f ds h = .ok (ds.map g, h)
  | [], _ => rfl
  | d :: ds, k => by
    show ((f d h).bind fun r => (lcL f ds r.2).bind fun q => .ok ((match r.1 with
      | some d => d :: q.1
      | none => q.1), q.2)) = _
    rw [k d List.mem_cons_self]
    show (lcL f ds h).bind _ = _
    rw [lcL_pure fun e he => k e (List.mem_cons_of_mem _ he)]; rfl
/-- a comprehension without a test -/
theorem ev_lc {elt : E} {own : List (Str × Nat)} {tg : Tg} {it : It} {ds : List D} {r : List D} (ei : evIt call it ρ h = .ok (ds, h1)) (el : lcL (lcF (evE call elt) (evC call .none) tg (own.map (·.2)) ρ) ds h1 = .ok (r, h2)) : evE call (.lc elt own tg it .none) ρ h = .ok (.fr (.lst r), h2) := by
  show (evIt call it ρ h).bind _ = _
  rw [ei]
  show (lcL (lcF (evE call elt) (evC call .none) tg (own.map (·.2)) ρ) ds h1).bind _ = _
  rw [el]; rfl
theorem lcF_eq {elt : E} {t : Nat} {vs : List Nat} {d x : D} (e : evE call elt ((wipeR ρ vs).set t (.val d)) h = .ok (.val x, h1)) : lcF (evE call elt) (evC call .none) (.nm t) vs ρ d h = .ok (some x, h1) := by
  show noErr ((evE call elt ((wipeR ρ vs).set t (.val d)) h).bind _) = _
  rw [e]; rfl
/-- all signs of a text stand in another one -/
def allIn (g s : Str) : Bool := (s.cps.toList.map fun c => strIn ⟨#[c]⟩ g).all id
theorem cmp_inS (a b : Str) : cmpR ρ h .inn (.val (.str a)) (.val (.str b)) = some (strIn a b) := rfl
theorem bls_map {α : Type} (f : α → Bool) : ∀ l : List α, blsOf (l.map fun x => D.bl (f x)) = some (l.map f)
  | [] => rfl
  | x :: l => by
    show (blsOf (l.map fun x => D.bl (f x))).map (fun bs => f x :: bs) = _
    rw [bls_map f l]; rfl
theorem ev_allIn {v t : Nat} {nm : Str} {eg : E} {g s : Str} (hs : ρ[v]? = some (.val (.str s))) (hl : t < ρ.length) (hg : ∀ x, evE call eg ((wipeR ρ [t]).set t x) h = .ok (.val (.str g), h)) :
    evE call (.bi .all (.lc (.cmp .inn (.var t) eg) [(nm, t)] (.nm t) (.sq (.var v)) .none)) ρ h = .ok (.val (.bl (allIn g s)), h) := by
  have ei : evIt call (.sq (.var v)) ρ h = .ok (s.cps.toList.map (fun c => D.str ⟨#[c]⟩), h) := by
    show (evE call (.var v) ρ h).bind _ = _
    rw [ev_var hs]; rfl
  have hl2 : t < (wipeR ρ [t]).length := by rw [wipeR_len]; exact hl
  have el : lcL (lcF (evE call (.cmp .inn (.var t) eg)) (evC call .none) (.nm t) ([(nm, t)].map (·.2)) ρ) (s.cps.toList.map fun c => D.str ⟨#[c]⟩) h = .ok ((s.cps.toList.map fun c => D.str ⟨#[c]⟩).map (fun d => match d with
    | .str z => .bl (strIn z g)
    | _ => .non), h) := by
    refine lcL_pure fun d hd => ?_
    obtain ⟨c, _, rfl⟩ := List.mem_map.mp hd
    exact lcF_eq (ev_cmp (ev_var (List.getElem?_set_self hl2)) (hg _) (cmp_inS _ _))
  refine ev_bi (ev_lc ei el) ?_
  rw [List.map_map]
  show ((blsOf (s.cps.toList.map fun c => D.bl (strIn ⟨#[c]⟩ g))).map fun bs => R.val (.bl (bs.all id))) = _
  rw [bls_map (fun c => strIn ⟨#[c]⟩ g)]; rfl
/-- what a name, a word is asked -/
def irMo (o : Cop) (lo : Int) (hi : E) (t : Nat) (nm : Str) (eg : E) : Ss := .cons (.ite (.or (.not (.isi (.var 0) .str)) (.cons (.not (.chn o o (.cst (.int lo)) (.bi .len (.var 0)) hi)) .nil))
    (.cons (.ret .frz (.cst (.bl false))) .nil) .nil)
    (.cons (.ret .frz (.bi .all (.lc (.cmp .inn (.var t) eg) [(nm, t)] (.nm t) (.sq (.var 0)) .none))) .nil)
def mo (v : D) (g : Str) (m : Int) : Bool := match v with
  | .str s => decide (1 ≤ (s.length : Int)) && decide ((s.length : Int) ≤ m) && allIn g s
  | _ => false
def OkV (v : D) : Prop := (∃ s, v = .str s) ∨ (isiR (.val v) .str = some false ∧ ∀ g m, mo v g m = false)
theorem mo_run {o : Cop} {lo m hiV : Int} {hi : E} {t : Nat} {nm : Str} {eg : E} {g : Str} {v : D} (ok : OkV v) (h0 : ρ[0]? = some (.val v)) (ht : t < ρ.length) (hhi : evE call hi ρ h = .ok (.val (.int hiV), h))
    (hg : ∀ x, evE call eg ((wipeR ρ [t]).set t x) h = .ok (.val (.str g), h)) (c1 : ∀ z : Int, cmpR ρ h o (.val (.int lo)) (.val (.int z)) = some (decide (1 ≤ z))) (c2 : ∀ z : Int, cmpR ρ h o (.val (.int z)) (.val (.int hiV)) = some (decide (z ≤ m))) :
    endF (evSs call (irMo o lo hi t nm eg) ρ h) = .ok (.bl (mo v g m), h) := by
  unfold irMo
  rcases ok with ⟨s, rfl⟩ | ⟨iv, mv⟩
  · have ec := ev_or2 (call := call) (ev_not (ev_isi (ev_var h0) (t := .str) rfl)) fun _ => ev_not (ev_chn (o := o) (o' := o) (ev_int lo) (ev_len h0) hhi (c1 _) (c2 _))
    have em : mo (.str s) g m = (decide (1 ≤ (s.length : Int)) && decide ((s.length : Int) ≤ m) && allIn g s) := rfl
    cases hc : (decide (1 ≤ (s.length : Int)) && decide ((s.length : Int) ≤ m)) with
    | false =>
      rw [hc] at ec em
      rw [ev_iteT ec, em]; rfl
    | true =>
      rw [hc] at ec em
      rw [ev_iteF ec, em]
      show endF (evSs call (.cons (.ret .frz _) .nil) ρ h) = _
      rw [ev_retv (ev_allIn h0 ht hg)]
      rfl
  · rw [ev_iteT (ev_or2 (x := true) (y := true) (ev_not (ev_isi (ev_var h0) iv)) fun z => nomatch z), mv]; rfl
end
end An

namespace An
open PySem L2

section
variable {ρ : Env} {h h1 h2 h3 : Hh} {call : Nat → List D → List (Str × D) → Hh → Res (D × Hh)} {ns : List Int} {k : Nat}
theorem forL_inv {f : D → Env → Hh → RS} {Pv : List D → Env → Hh → Prop} (step : ∀ d ds ρ h, Pv (d :: ds) ρ h → ∃ ρ' h', f d ρ h = .nx ρ' h' ∧ Pv ds ρ' h') : ∀ (ds : List D) (ρ : Env) (h : Hh), Pv ds ρ h → ∃ ρ' h', forL f ds ρ h = .nx ρ' h' ∧ Pv [] ρ' h'
  | [], ρ, h, p => ⟨ρ, h, rfl, p⟩
  | d :: ds, ρ, h, p => by
    obtain ⟨ρ1, h1, e, p1⟩ := step d ds ρ h p
    obtain ⟨ρ2, h2, e2, p2⟩ := forL_inv step ds ρ1 h1 p1
    refine ⟨ρ2, h2, ?_, p2⟩
    show (match f d ρ h with
      | .nx ρ' h' => forL f ds ρ' h'
      | .ct ρ' h' => forL f ds ρ' h'
      | .bk ρ' h' => .nx ρ' h'
      | r => r) = _
    rw [e]; exact e2
theorem ev_for {tg : Tg} {it : It} {b r : Ss} {ds : List D} {ρ' : Env} {h' : Hh} (ei : evIt call it ρ h = .ok (ds, h1)) (el : forL (forF (evSs call b) tg) ds ρ h1 = .nx ρ' h') : evSs call (.cons (.for tg it b) r) ρ h = evSs call r ρ' h' := by
  show ((evIt call it ρ h).st ρ fun x => forL (forF (evSs call b) tg) x.1 ρ x.2).seq _ = _
  rw [ei]
  show (forL (forF (evSs call b) tg) ds ρ h1).seq _ = _
  rw [el]; rfl
theorem ev_asgo {m : Mode} {v : Nat} {e : E} {r : Ss} {x : R} {ρ' : Env} {h' : Hh} (ev : evE call e ρ h = .ok (x, h1)) (ep : putM ρ v h1 m x = .nx ρ' h') : evSs call (.cons (.asg m v e) r) ρ h = evSs call r ρ' h' := by
  show ((evE call e ρ h).st ρ fun x => putM ρ v x.2 m x.1).seq _ = _
  rw [ev]
  show (putM ρ v h1 m x).seq _ = _
  rw [ep]; rfl
theorem ev_app {v : Nat} {e : E} {r : Ss} {xs : List D} {x : R} {d : D} (h0 : ρ[v]? = some (.own (.lst xs))) (ev : evE call e ρ h = .ok (x, h1)) (ed : toD x = some d) (l : xs.length < 16777216) : evSs call (.cons (.app v e) r) ρ h = evSs call r (ρ.set v (.own (.lst (xs ++ [d])))) h1 := by
  show (RS.seq (match ρ[v]? with
    | some (.own (.lst xs)) => (evE call e ρ h).st ρ fun x => (match toD x.1 with
      | some d => if xs.length < 16777216 then .nx (ρ.set v (.own (.lst (xs ++ [d])))) x.2 else .stuck
      | none => .stuck)
    | _ => .stuck) _) = _
  rw [h0]
  show (RS.seq ((evE call e ρ h).st ρ _) _) = _
  rw [ev]
  show (RS.seq (match toD x with
      | some d => if xs.length < 16777216 then .nx (ρ.set v (.own (.lst (xs ++ [d])))) h1 else .stuck
      | none => .stuck) _) = _
  rw [ed]
  show (RS.seq (if xs.length < 16777216 then .nx (ρ.set v (.own (.lst (xs ++ [d])))) h1 else .stuck) _) = _
  rw [if_pos l]; rfl
theorem ev_frz {v : Nat} {r : Ss} {c : C} (h0 : ρ[v]? = some (.own c)) : evSs call (.cons (.frz v) r) ρ h = evSs call r (ρ.set v (.val c.toD)) h := by
  show (RS.seq (match ρ[v]? with
    | some (.own c) => .nx (ρ.set v (.val c.toD)) h
    | _ => .stuck) _) = _
  rw [h0]; rfl
theorem ev_retH {e : E} {x : R} {d : D} {r : Ss} (ev : evE call e ρ h = .ok (x, h1)) (ed : toD x = some d) : evSs call (.cons (.ret .frz e) r) ρ h = .rt d h1 := by
  show ((evE call e ρ h).st ρ fun x => retM x.2 .frz x.1).seq _ = _
  rw [ev]
  show (retM h1 .frz x).seq _ = _
  cases x with
  | val d' => cases ed; rfl
  | fr c => cases ed; rfl
  | vw i => cases ed
theorem ev_retc {e : E} {c : C} {r : Ss} (ev : evE call e ρ h = .ok (.fr c, h1)) : evSs call (.cons (.ret .cel e) r) ρ h = .rt (.ref h1.length) (h1 ++ [c]) := by
  show ((evE call e ρ h).st ρ fun x => retM x.2 .cel x.1).seq _ = _
  rw [ev]; rfl
theorem strsOf_map : ∀ ys : List Str, strsOf (ys.map D.str) = some ys
  | [] => rfl
  | y :: ys => by
    show (strsOf (ys.map D.str)).map (fun bs => y :: bs) = _
    rw [strsOf_map ys]; rfl
theorem ev_joinF {a : Str} {e : E} {ys : List Str} (ev : evE call e ρ h = .ok (.fr (.lst (ys.map D.str)), h1)) (j : joinOk a ys = true) : evE call (.mt .join (.cst (.str a)) (.cons e .nil)) ρ h = .ok (.val (.str (Txt.join a ys)), h1) := by
  show ((evEs call (.cons e .nil) ρ h).bind fun y => (ofO (mtR ρ y.2 .join (.val (.str a)) y.1)).bind fun z => .ok (z, y.2)) = _
  rw [ev_cons ev ev_nil]
  show (ofO ((strsOf (ys.map D.str)).bind fun ys => if joinOk a ys then some (R.val (.str (Txt.join a ys))) else none)).bind _ = _
  rw [strsOf_map]
  show (ofO (if joinOk a ys then some (R.val (.str (Txt.join a ys))) else none)).bind _ = _
  rw [if_pos j]; rfl
theorem bin_addS {a b : Str} (l : a.length + b.length ≤ 16777216) : binR ρ h .add (.val (.str a)) (.val (.str b)) = some (.val (.str (a ++ b))) := by
  show alt (if a.length + b.length ≤ 16777216 then some (R.val (.str (a ++ b))) else none) _ = _
  rw [if_pos l]; rfl
theorem bin_mulS {a : Str} {n : Int} (l : 0 ≤ n ∧ n ≤ 4096 ∧ a.length ≤ 4096) : binR ρ h .mul (.val (.str a)) (.val (.int n)) = some (.val (.str (Txt.mul a n))) := by
  show (if 0 ≤ n ∧ n ≤ 4096 ∧ a.length ≤ 4096 then some (R.val (.str (Txt.mul a n))) else none) = _
  rw [if_pos l]
/-- one of a list | of a text, by the dice -/
def irOf (dr : Nat) : Ss := .cons (.ret .frz (.ix (.var 1) (.call dr (.cons (.var 0) (.cons (.bi .len (.var 1)) .nil)) .nil))) .nil
/-- the dice at this call -/
def Dice (call : Nat → List D → List (Str × D) → Hh → Res (D × Hh)) (ns : List Int) (dr : Nat) : Prop := ∀ (h : Hh) (k : Nat) (c : C) (many : Int), h[k]? = some c → IsSack ns c → 0 < many → many < 1073741824 →
  ∃ z c', call dr [.ref k, .int many] [] h = .ok (.int z, h.set k c') ∧ 0 ≤ z ∧ z < many ∧ IsSack ns c'
theorem of_lst {dr : Nat} {xs : List D} {c : C} (di : Dice call ns dr) (hk : h[k]? = some c) (S : IsSack ns c) (l0 : 0 < xs.length) (l1 : xs.length < 1073741824) :
    ∃ d c', endF (evSs call (irOf dr) [.val (.ref k), .val (.lst xs)] h) = .ok (d, h.set k c') ∧ d ∈ xs ∧ IsSack ns c' := by
  obtain ⟨z, c', e, z0, z1, S'⟩ := di h k c xs.length hk S (by omega) (by omega)
  obtain ⟨d, ed, md⟩ := atI_ex z0 z1
  refine ⟨d, c', ?_, md, S'⟩
  unfold irOf
  rw [ev_retv (h := h.set k c') (ρ := [.val (.ref k), .val (.lst xs)]) (x := d) (call := call) (r := .nil) (e := .cst d) rfl |> fun _ => ev_retH (ev_ixH (ev_var rfl) (ev_call0 (ev_cons (ev_var rfl) (ev_cons (ev_bi (ev_var rfl) rfl) ev_nil)) rfl e) (ix_lst ed)) rfl]
  rfl
theorem of_str {dr : Nat} {s : Str} {c : C} (di : Dice call ns dr) (hk : h[k]? = some c) (S : IsSack ns c) (l0 : 0 < s.length) (l1 : s.length < 1073741824) :
    ∃ x c', endF (evSs call (irOf dr) [.val (.ref k), .val (.str s)] h) = .ok (.str ⟨#[x]⟩, h.set k c') ∧ x ∈ s.cps.toList ∧ IsSack ns c' := by
  obtain ⟨z, c', e, z0, z1, S'⟩ := di h k c s.length hk S (by omega) (by omega)
  have hl : s.cps.toList.length = s.length := Array.length_toList
  obtain ⟨x, ed, md⟩ := atI_ex (xs := s.cps.toList) z0 (by rw [hl]; exact z1)
  refine ⟨x, c', ?_, md, S'⟩
  unfold irOf
  rw [ev_retH (ev_ixH (ev_var rfl) (ev_call0 (ev_cons (ev_var rfl) (ev_cons (ev_len rfl) ev_nil)) rfl e) (ix_str ed)) rfl]
  rfl
end
end An

namespace L_k01
open PySem L2 An

section
variable {n : Nat} {h : Hh} {ns : List Int} {k : Nat}
theorem c_draw : Dice (callF Pr (n + 1)) ns 5 := by
  intro h k c many hk S m0 m1
  obtain ⟨z, c', e, r⟩ := draw_ok (call := callF Pr n) hk S m0 m1
  refine ⟨z, c', ?_, r⟩
  rw [callF_eq (fi := ⟨P__law_draw, N__law_draw, [], ir__law_draw⟩) (vs := [.ref k, .int many]) rfl rfl]
  exact e
theorem c_ofl {xs : List D} {c : C} (hk : h[k]? = some c) (S : IsSack ns c) (l0 : 0 < xs.length) (l1 : xs.length < 1073741824) : ∃ d c', callF Pr (n + 2) 6 [.ref k, .lst xs] [] h = .ok (d, h.set k c') ∧ d ∈ xs ∧ IsSack ns c' := by
  obtain ⟨d, c', e, r⟩ := of_lst (call := callF Pr (n + 1)) (c_draw (n := n)) hk S l0 l1
  refine ⟨d, c', ?_, r⟩
  rw [callF_eq (fi := ⟨P__law_of, N__law_of, [], ir__law_of⟩) (vs := [.ref k, .lst xs]) rfl rfl]
  exact e
theorem c_ofs {s : Str} {c : C} (hk : h[k]? = some c) (S : IsSack ns c) (l0 : 0 < s.length) (l1 : s.length < 1073741824) : ∃ x c', callF Pr (n + 2) 6 [.ref k, .str s] [] h = .ok (.str ⟨#[x]⟩, h.set k c') ∧ x ∈ s.cps.toList ∧ IsSack ns c' := by
  obtain ⟨d, c', e, r⟩ := of_str (call := callF Pr (n + 1)) (c_draw (n := n)) hk S l0 l1
  refine ⟨d, c', ?_, r⟩
  rw [callF_eq (fi := ⟨P__law_of, N__law_of, [], ir__law_of⟩) (vs := [.ref k, .str s]) rfl rfl]
  exact e
/-- a text of drawn signs -/
theorem lc_text {s : Str} {m : Int} {call : Nat → List D → List (Str × D) → Hh → Res (D × Hh)} (hc : ∀ (h : Hh) (c : C), h[k]? = some c → IsSack ns c → ∃ x c', call 6 [.ref k, .str s] [] h = .ok (.str ⟨#[x]⟩, h.set k c') ∧ IsSack ns c') :
    ∀ (ds : List D) (h : Hh) (c : C), h[k]? = some c → IsSack ns c → ∃ (ys : List Str) (c' : C), lcL (lcF (evE call (.call 6 (.cons (.var 0) (.cons (.var 1) .nil)) .nil)) (evC call .none) (.nm 3) [3] [.val (.ref k), .val (.str s), .val (.int m), .none]) ds h = .ok (ys.map D.str, h.set k c') ∧ IsSack ns c' ∧ (∀ y ∈ ys, y.length = 1) ∧ ys.length = ds.length
  | [], h, c, hk, S => ⟨[], c, by
      have e : h.set k c = h := by
        refine List.ext_getElem? fun j => ?_
        by_cases q : k = j
        · subst q; rw [get_set hk, hk]
        · rw [List.getElem?_set_ne q]
      rw [e]; rfl, S, fun _ z => (List.not_mem_nil z).elim, rfl⟩
  | d :: ds, h, c, hk, S => by
    obtain ⟨x, c1, e1, S1⟩ := hc h c hk S
    obtain ⟨ys, c2, e2, S2, l2, l3⟩ := lc_text hc ds (h.set k c1) c1 (get_set hk _) S1
    refine ⟨⟨#[x]⟩ :: ys, c2, ?_, S2, fun y hy => (List.mem_cons.mp hy).elim (fun z => by rw [z]; rfl) (l2 y), by rw [List.length_cons, List.length_cons, l3]⟩
    have es : lcF (evE call (.call 6 (.cons (.var 0) (.cons (.var 1) .nil)) .nil)) (evC call .none) (.nm 3) [3] [.val (.ref k), .val (.str s), .val (.int m), .none] d h = .ok (some (.str ⟨#[x]⟩), h.set k c1) :=
      lcF_eq (ev_call0 (ev_cons (ev_var rfl) (ev_cons (ev_var rfl) ev_nil)) rfl e1)
    show ((lcF _ _ _ _ _ d h).bind fun r => (lcL _ ds r.2).bind fun q => .ok ((match r.1 with
      | some d => d :: q.1
      | none => q.1), q.2)) = _
    rw [es]
    show (lcL _ ds (h.set k c1)).bind _ = _
    rw [e2, set_set]; rfl
theorem sum_one : ∀ ys : List Str, (∀ y ∈ ys, y.length = 1) → (ys.map (·.length)).sum = ys.length
  | [], _ => rfl
  | y :: ys, k => by
    rw [List.map_cons, List.sum_cons, sum_one ys fun z hz => k z (List.mem_cons_of_mem _ hz), k y List.mem_cons_self, List.length_cons]
    omega
theorem c_text {s : Str} {m : Int} {c : C} (hk : h[k]? = some c) (S : IsSack ns c) (l0 : 0 < s.length) (l1 : s.length < 1073741824) (m0 : 0 ≤ m) (m1 : m ≤ 1000) : ∃ t c', callF Pr (n + 3) 11 [.ref k, .str s, .int m] [] h = .ok (.str t, h.set k c') ∧ IsSack ns c' := by
  obtain ⟨z, c1, e1, z0, z1, S1⟩ := c_draw (n := n + 1) (ns := ns) h k c (m + 2) hk S (by omega) (by omega)
  obtain ⟨ys, c2, e2, S2, l2, l3⟩ := lc_text (k := k) (ns := ns) (s := s) (m := m) (call := callF Pr (n + 2)) (fun h c hk S => by
    obtain ⟨x, c', e, _, r⟩ := c_ofs (n := n) hk S l0 l1
    exact ⟨x, c', e, r⟩) ((List.range z.toNat).map fun (i : Nat) => D.int (i : Int)) (h.set k c1) c1 (get_set hk _) S1
  refine ⟨Txt.join "" ys, c2, ?_, S2⟩
  rw [callF_eq (fi := ⟨P__law_text, N__law_text, [], ir__law_text⟩) (vs := [.ref k, .str s, .int m]) rfl rfl]
  have ei : evIt (callF Pr (n + 2)) (.rg (.call 5 (.cons (.var 0) (.cons (.bin .add (.var 2) (.cst (.int 2))) .nil)) .nil)) [.val (.ref k), .val (.str s), .val (.int m), .none] h = .ok ((List.range z.toNat).map fun (i : Nat) => D.int (i : Int), h.set k c1) := by
    show (evE _ _ _ _).bind _ = _
    rw [ev_call0 (ev_cons (ev_var rfl) (ev_cons (ev_bin (ev_var rfl) (ev_int 2) (bin_add m 2)) ev_nil)) rfl e1]
    show (if -16777216 ≤ z ∧ z ≤ 16777216 then Res.ok ((List.range z.toNat).map fun (i : Nat) => D.int (i : Int), h.set k c1) else .stuck) = _
    rw [if_pos (by omega)]
  have el := ev_lc (own := [("_law_k", 3)]) ei e2
  rw [set_set] at el
  have j : joinOk "" ys = true := by
    unfold joinOk
    refine decide_eq_true ?_
    rw [sum_one ys l2, show (("" : Str).length) = 0 from rfl, Nat.mul_zero, l3, List.length_map, List.length_range]
    omega
  show endF (evSs (callF Pr (n + 2)) ir__law_text [.val (.ref k), .val (.str s), .val (.int m), .none] h) = _
  unfold ir__law_text
  rw [ev_retH (ev_joinF el j) rfl]
  rfl

/-! ### names, words -/
abbrev gLet : Str := "abcdefghijklmnopqrstuvwxyz"
abbrev gPl : Str := "abcdefghijklmnopqrstuvwxyz0123456789"
abbrev gWd : Str := "abcdefghijklmnopqrstuvwxyz0123456789#$:?"
variable {v : D}
theorem c_made (ok : OkV v) (g : Str) (m : Int) : callF Pr (n + 1) 0 [v, .str g, .int m] [] h = .ok (.bl (mo v g m), h) := by
  rw [callF_eq (fi := ⟨P_is_made_of, N_is_made_of, [], ir_is_made_of⟩) (vs := [v, .str g, .int m]) rfl rfl]
  exact mo_run (o := .le) (lo := 1) (hiV := m) (hi := .var 2) (t := 3) (nm := "sign") (eg := .var 1) (ρ := [.val v, .val (.str g), .val (.int m), .none]) ok rfl (by show 3 < 4; decide) (ev_var rfl) (fun x => ev_var rfl) (fun z => cmp_le _ _) (fun z => cmp_le _ _)
theorem b_name (ok : OkV v) : endF (evSs (callF Pr (n + 1)) ir_is_name [.val v] h) = .ok (.bl (mo v gLet 8), h) := by
  unfold ir_is_name
  rw [ev_retv (ev_call0 (ev_cons (ev_var rfl) (ev_cons (ev_gv _ _) (ev_cons (ev_gv _ _) ev_nil))) rfl (c_made ok gLet 8))]
  rfl
theorem b_word (ok : OkV v) : endF (evSs (callF Pr (n + 1)) ir_is_word [.val v] h) = .ok (.bl (mo v gWd 30), h) := by
  unfold ir_is_word
  have e : (("abcdefghijklmnopqrstuvwxyz" : Str) ++ ("0123456789" : Str)) ++ ("#$:?" : Str) = gWd := by decide +kernel
  rw [ev_retv (ev_call0 (ev_cons (ev_var rfl) (ev_cons (ev_bin (ev_bin (ev_gv _ _) (ev_gv _ _) (bin_addS (by decide +kernel))) (ev_gv _ _) (bin_addS (by decide +kernel))) (ev_cons (ev_gv _ _) ev_nil))) rfl (c_made ok _ 30)), e]
  rfl
theorem b_plain (ok : OkV v) : endF (evSs (callF Pr (n + 1)) ir_is_plain [.val v] h) = .ok (.bl (mo v gPl 12), h) := by
  unfold ir_is_plain
  have e : (("abcdefghijklmnopqrstuvwxyz" : Str) ++ ("0123456789" : Str)) = gPl := by decide +kernel
  rw [ev_retv (ev_call0 (ev_cons (ev_var rfl) (ev_cons (ev_bin (ev_gv _ _) (ev_gv _ _) (bin_addS (by decide +kernel))) (ev_cons (ev_gv _ _) ev_nil))) rfl (c_made ok _ 12)), e]
  rfl
theorem c_name (ok : OkV v) : callF Pr (n + 2) 1 [v] [] h = .ok (.bl (mo v gLet 8), h) := by
  rw [callF_eq (fi := ⟨P_is_name, N_is_name, [], ir_is_name⟩) (vs := [v]) rfl rfl]; exact b_name ok
theorem c_nameK (ok : OkV v) : callF Pr (n + 2) 1 [] [("value", v)] h = .ok (.bl (mo v gLet 8), h) := by
  rw [callF_eq (fi := ⟨P_is_name, N_is_name, [], ir_is_name⟩) (vs := [v]) rfl rfl]; exact b_name ok
theorem c_word (ok : OkV v) : callF Pr (n + 2) 2 [v] [] h = .ok (.bl (mo v gWd 30), h) := by
  rw [callF_eq (fi := ⟨P_is_word, N_is_word, [], ir_is_word⟩) (vs := [v]) rfl rfl]; exact b_word ok
theorem c_wordK (ok : OkV v) : callF Pr (n + 2) 2 [] [("value", v)] h = .ok (.bl (mo v gWd 30), h) := by
  rw [callF_eq (fi := ⟨P_is_word, N_is_word, [], ir_is_word⟩) (vs := [v]) rfl rfl]; exact b_word ok
theorem c_plain (ok : OkV v) : callF Pr (n + 2) 3 [v] [] h = .ok (.bl (mo v gPl 12), h) := by
  rw [callF_eq (fi := ⟨P_is_plain, N_is_plain, [], ir_is_plain⟩) (vs := [v]) rfl rfl]; exact b_plain ok
theorem c_plainK (ok : OkV v) : callF Pr (n + 2) 3 [] [("value", v)] h = .ok (.bl (mo v gPl 12), h) := by
  rw [callF_eq (fi := ⟨P_is_plain, N_is_plain, [], ir_is_plain⟩) (vs := [v]) rfl rfl]; exact b_plain ok
theorem lt_one (z : Int) : decide ((0 : Int) < z) = decide (1 ≤ z) := by congr 1
theorem c_lname (ok : OkV v) : callF Pr (n + 1) 9 [v] [] h = .ok (.bl (mo v gLet 8), h) := by
  rw [callF_eq (fi := ⟨P__law_is_name, N__law_is_name, [], ir__law_is_name⟩) (vs := [v]) rfl rfl]
  exact mo_run (o := .lt) (lo := 0) (hiV := 9) (hi := .cst (.int 9)) (t := 1) (nm := "_law_sign") (eg := .cst (.str gLet)) (ρ := [.val v, .none]) ok rfl (by show 1 < 2; decide) (ev_int 9) (fun x => ev_str _) (fun z => cmp_lt _ _) (fun z => by rw [cmp_lt]; congr 2; exact propext ⟨fun h => by omega, fun h => by omega⟩)
theorem c_lword (ok : OkV v) : callF Pr (n + 1) 10 [v] [] h = .ok (.bl (mo v gWd 30), h) := by
  rw [callF_eq (fi := ⟨P__law_is_word, N__law_is_word, [], ir__law_is_word⟩) (vs := [v]) rfl rfl]
  exact mo_run (o := .lt) (lo := 0) (hiV := 31) (hi := .cst (.int 31)) (t := 1) (nm := "_law_sign") (eg := .cst (.str gWd)) (ρ := [.val v, .none]) ok rfl (by show 1 < 2; decide) (ev_int 31) (fun x => ev_str _) (fun z => cmp_lt _ _) (fun z => by rw [cmp_lt]; congr 2; exact propext ⟨fun h => by omega, fun h => by omega⟩)
theorem c_lplain (ok : OkV v) : callF Pr (n + 1) 8 [v] [] h = .ok (.bl (mo v gPl 12), h) := by
  rw [callF_eq (fi := ⟨P__law_is_plain, N__law_is_plain, [], ir__law_is_plain⟩) (vs := [v]) rfl rfl]
  show endF (evSs (callF Pr n) ir__law_is_plain [.val v, .none, .none] h) = _
  unfold ir__law_is_plain
  rw [ev_asg (ev_str _)]
  rcases ok with ⟨s, rfl⟩ | ⟨iv, mv⟩
  · rw [ev_retv (ev_and3 (ev_isi (ev_var rfl) (t := .str) rfl) (fun _ => ev_chn (ev_int 0) (ev_len rfl) (ev_int 13) (cmp_lt _ _) (cmp_lt _ _)) fun _ _ => ev_allIn (g := gPl) (s := s) rfl (by show 2 < 3; decide) fun x => ev_var rfl)]
    show Res.ok (D.bl (true && (decide ((0 : Int) < s.length) && decide ((s.length : Int) < 13)) && allIn gPl s), h) = Res.ok (D.bl (decide (1 ≤ (s.length : Int)) && decide ((s.length : Int) ≤ 12) && allIn gPl s), h)
    have e2 : decide ((s.length : Int) < 13) = decide ((s.length : Int) ≤ 12) := by congr 1; exact propext ⟨fun h => by omega, fun h => by omega⟩
    rw [Bool.true_and, lt_one, e2]
  · rw [ev_retv (ev_and3 (y := true) (z := true) (ev_isi (ev_var rfl) iv) (fun z => nomatch z) fun z => nomatch z), mv]; rfl

/-! ### the same -/
theorem cmp_rep {ρ : An.Env} (a b : Str) : cmpR ρ h .eq (.val (.rep a)) (.val (.rep b)) = some (decide (a = b)) := eqR_rep a b
theorem same_bl {bs : List Bool} (l : (PyData.list (bs.map PyData.bool)).showable = true ∧ (PyData.list (bs.map PyData.bool)).shown.length ≤ 16777216 ∧ (PyData.list (bs.map PyData.bool)).depth ≤ 64) : callF Pr (n + 1) 7 [.lst (bs.map D.bl), .lst (bs.map D.bl)] [] h = .ok (.bl true, h) := by
  have pd : ∀ bs : List Bool, pdDs h (cell0 h) (bs.map D.bl) = some (bs.map PyData.bool) := fun bs => by
    induction bs with
    | nil => rfl
    | cons b bs ih =>
      show (some (PyData.bool b)).bind (fun x => (pdDs h (cell0 h) (bs.map D.bl)).map fun xs => x :: xs) = _
      rw [ih]; rfl
  have er : biR [.val (.lst (bs.map D.bl)), .val (.lst (bs.map D.bl))] h .repr (.val (.lst (bs.map D.bl))) = some (.val (.rep (PyData.list (bs.map PyData.bool)).shown)) := by
    show ((pdDs h (cell0 h) (bs.map D.bl)).map PyData.list).bind (fun x => if x.showable = true ∧ x.shown.length ≤ 16777216 ∧ x.depth ≤ 64 then some (R.val (.rep x.shown)) else none) = _
    rw [pd]
    show (if _ then _ else _) = _
    rw [if_pos l]
  rw [callF_eq (fi := ⟨P__law_same, N__law_same, [], ir__law_same⟩) (vs := [.lst (bs.map D.bl), .lst (bs.map D.bl)]) rfl rfl]
  show endF (evSs (callF Pr n) ir__law_same [.val (.lst (bs.map D.bl)), .val (.lst (bs.map D.bl))] h) = _
  unfold ir__law_same
  rw [ev_retv (ev_cmp (ev_bi (ev_var rfl) er) (ev_bi (ev_var rfl) er) (cmp_rep _ _))]
  show Res.ok (D.bl (decide _), h) = _
  rw [decide_eq_true rfl]
theorem same4 (a b c d : Bool) : callF Pr (n + 1) 7 [.lst [.bl a, .bl b, .bl c, .bl d], .lst [.bl a, .bl b, .bl c, .bl d]] [] h = .ok (.bl true, h) :=
  same_bl (bs := [a, b, c, d]) (by cases a <;> cases b <;> cases c <;> cases d <;> decide +kernel)
theorem same2 (a b : Bool) : callF Pr (n + 1) 7 [.lst [.bl a, .bl b], .lst [.bl a, .bl b]] [] h = .ok (.bl true, h) :=
  same_bl (bs := [a, b]) (by cases a <;> cases b <;> decide +kernel)

/-! ### the law -/
theorem okS (s : Str) : OkV (.str s) := .inl ⟨s, rfl⟩
theorem okN {v : D} (h : isiR (.val v) .str = some false) (n : ∀ s, v ≠ .str s) : OkV v := .inr ⟨h, fun g m => by
  cases v <;> first | rfl | exact absurd rfl (n _)⟩
theorem cut63 (l : ns.length ≤ 63) : cutD (ns.map D.int) none (some 63) = ns.map D.int := by
  refine cut_whole ⟨rfl, ?_⟩
  have hl : (ns.map D.int).length = ns.length := List.length_map _
  rw [hl]
  unfold HT.sIx
  simp
  omega
theorem ev_sl63 {ρ : An.Env} {call : Nat → List D → List (Str × D) → Hh → Res (D × Hh)} (h0 : ρ[0]? = some (.val (scD ns))) (l : ns.length ≤ 63) : evE call (.sl (.var 0) .none (.some (.cst (.int 63)))) ρ h = .ok (.fr (.lst (ns.map D.int)), h) := by
  show (evE call (.var 0) ρ h).bind _ = _
  rw [ev_var h0]
  show Res.ok (R.fr (.lst (cutD (ns.map D.int) none (some 63))), h) = _
  rw [cut63 l]
theorem c_bag (l : ns.length ≤ 63) : callF Pr (n + 1) 4 [scD ns] [] [] = .ok (.ref 0, [sk ns 0 0 58831 0]) := by
  rw [callF_eq (fi := ⟨P__law_bag, N__law_bag, [], ir__law_bag⟩) (vs := [scD ns]) rfl rfl]
  show endF (evSs (callF Pr n) ir__law_bag [.val (scD ns)] []) = _
  unfold ir__law_bag
  have e := ev_lst (call := callF Pr n) (ρ := [.val (scD ns)]) (h := []) (ev_cons (ev_bi (o := .list) (ev_sl63 rfl l) rfl) (ev_cons (ev_int 0) (ev_cons (ev_int 0) (ev_cons (ev_int 58831) (ev_cons (ev_int 0) ev_nil))))) rfl (by show 5 ≤ 16777216; decide)
  rw [ev_retc e]; rfl
theorem sack0 : IsSack ns (sk ns 0 0 58831 0) := ⟨0, 0, 58831, 0, rfl, by decide, by decide, by decide, by decide, by decide⟩
/-- the slots in the first loop -/
def Inv1 (ns : List Int) (js : List D) (ρ : An.Env) (h : Hh) : Prop := ∃ ds x3 x5 c, ρ = [.val (scD ns), .val (.ref 0), .own (.lst ds), x3, .none, x5, .none, .none] ∧ h = [c] ∧ IsSack ns c ∧ (∀ d ∈ ds, OkV d) ∧ ds.length + js.length ≤ 26
def body1 : Ss := (.cons (.asg .frz 5 (.call 6 (.cons (.var 1) (.cons (.lst (.cons (.cst (.str "abcxyz")) (.cons (.cst (.str "az09")) (.cons (.cst (.str "az09#$:?")) (.cons (.cst (.str "az09#$:?A -")) (.cons (.cst (.str "q")) .nil)))))) .nil)) .nil))
    (.cons (.app 2 (.call 11 (.cons (.var 1) (.cons (.var 5) (.cons (.call 6 (.cons (.var 1) (.cons (.lst (.cons (.cst (.int 8)) (.cons (.cst (.int 12)) (.cons (.cst (.int 30)) .nil)))) .nil)) .nil) .nil))) .nil))
    .nil))
abbrev sgs : List D := [.str "abcxyz", .str "az09", .str "az09#$:?", .str "az09#$:?A -", .str "q"]
theorem step1 (d : D) (ds : List D) (ρ : An.Env) (h : Hh) (iv : Inv1 ns (d :: ds) ρ h) : ∃ ρ' h', forF (evSs (callF Pr (n + 3)) body1) (.nm 3) d ρ h = .nx ρ' h' ∧ Inv1 ns ds ρ' h' := by
  obtain ⟨xs, x3, x5, c, rfl, rfl, S, ok, l⟩ := iv
  rw [List.length_cons] at l
  obtain ⟨sd, c1, e1, m1, S1⟩ := c_ofl (n := n + 1) (ns := ns) (h := [c]) (k := 0) (xs := sgs) rfl S (by decide) (by decide)
  obtain ⟨s, es, l0, l1⟩ : ∃ s, sd = .str s ∧ 0 < s.length ∧ s.length < 1073741824 := by
    simp only [sgs, List.mem_cons, List.not_mem_nil, or_false] at m1
    rcases m1 with rfl | rfl | rfl | rfl | rfl <;> exact ⟨_, rfl, by decide +kernel, by decide +kernel⟩
  subst es
  have e1 : callF Pr (n + 3) 6 [.ref 0, .lst sgs] [] [c] = .ok (.str s, [c1]) := e1
  obtain ⟨md, c2, e2, m2, S2⟩ := c_ofl (n := n + 1) (ns := ns) (h := [c1]) (k := 0) (xs := [.int 8, .int 12, .int 30]) rfl S1 (by decide) (by decide)
  obtain ⟨m, em, m0, m3⟩ : ∃ m, md = .int m ∧ 0 ≤ m ∧ m ≤ 1000 := by
    simp only [List.mem_cons, List.not_mem_nil, or_false] at m2
    rcases m2 with rfl | rfl | rfl <;> exact ⟨_, rfl, by decide, by decide⟩
  subst em
  have e2 : callF Pr (n + 3) 6 [.ref 0, .lst [.int 8, .int 12, .int 30]] [] [c1] = .ok (.int m, [c2]) := e2
  obtain ⟨t, c3, e3, S3⟩ := c_text (n := n) (ns := ns) (h := [c2]) (k := 0) (s := s) (m := m) rfl S2 l0 l1 m0 m3
  have e3 : callF Pr (n + 3) 11 [.ref 0, .str s, .int m] [] [c2] = .ok (.str t, [c3]) := e3
  refine ⟨[.val (scD ns), .val (.ref 0), .own (.lst (xs ++ [.str t])), .val d, .none, .val (.str s), .none, .none], [c3], ?_, xs ++ [.str t], .val d, .val (.str s), c3, rfl, rfl, S3, fun d hd => ?_, by rw [List.length_append, List.length_singleton]; omega⟩
  · show evSs (callF Pr (n + 3)) body1 [.val (scD ns), .val (.ref 0), .own (.lst xs), .val d, .none, x5, .none, .none] [c] = _
    unfold body1
    rw [ev_asgo (ev_call0 (ev_cons (ev_var rfl) (ev_cons (ev_lst (ev_cons (ev_str _) (ev_cons (ev_str _) (ev_cons (ev_str _) (ev_cons (ev_str _) (ev_cons (ev_str _) ev_nil))))) rfl (by show 5 ≤ 16777216; decide)) ev_nil)) rfl e1) (m := .frz) rfl]
    show evSs (callF Pr (n + 3)) _ [.val (scD ns), .val (.ref 0), .own (.lst xs), .val d, .none, .val (.str s), .none, .none] [c1] = _
    rw [ev_app (xs := xs) rfl (ev_call0 (ev_cons (ev_var rfl) (ev_cons (ev_var rfl) (ev_cons (ev_call0 (ev_cons (ev_var rfl) (ev_cons (ev_lst (ev_cons (ev_int _) (ev_cons (ev_int _) (ev_cons (ev_int _) ev_nil))) rfl (by show 3 ≤ 16777216; decide)) ev_nil)) rfl e2) ev_nil))) rfl e3) rfl (by omega)]
    rfl
  · rcases List.mem_append.mp hd with hd | hd
    · exact ok d hd
    · rw [List.mem_singleton.mp hd]; exact okS t
def Inv2 (ns : List Int) (js : List D) (ρ : An.Env) (h : Hh) : Prop := ∃ x2 x4 x5 x6 x7 x3, ρ = [.val (scD ns), .val (.ref 0), x2, x3, x4, x5, x6, x7] ∧ (∀ d ∈ js, OkV d)
def body2 : Ss := (.cons (.asg .frz 6 (.lst (.cons (.call 1 (.cons (.var 4) .nil) .nil) (.cons (.call 2 (.cons (.var 4) .nil) .nil) (.cons (.call 3 (.cons (.var 4) .nil) .nil) (.cons (.call 1 .nil (.cons "value" (.var 4) .nil)) .nil))))))
    (.cons (.asg .frz 7 (.lst (.cons (.call 9 (.cons (.var 4) .nil) .nil) (.cons (.call 10 (.cons (.var 4) .nil) .nil) (.cons (.call 8 (.cons (.var 4) .nil) .nil) (.cons (.call 9 (.cons (.var 4) .nil) .nil) .nil))))))
    (.cons (.ite (.not (.call 7 (.cons (.var 6) (.cons (.var 7) .nil)) .nil))
    (.cons (.ret .frz (.cst (.bl false)))
    .nil)
    .nil)
    .nil)))
theorem step2 (d : D) (ds : List D) (ρ : An.Env) (h : Hh) (iv : Inv2 ns (d :: ds) ρ h) : ∃ ρ' h', forF (evSs (callF Pr (n + 2)) body2) (.nm 4) d ρ h = .nx ρ' h' ∧ Inv2 ns ds ρ' h' := by
  obtain ⟨x2, x4, x5, x6, x7, x3, rfl, ok⟩ := iv
  have okd := ok d List.mem_cons_self
  let B : List D := [.bl (mo d gLet 8), .bl (mo d gWd 30), .bl (mo d gPl 12), .bl (mo d gLet 8)]
  refine ⟨[.val (scD ns), .val (.ref 0), x2, x3, .val d, x5, .val (.lst B), .val (.lst B)], h, ?_, x2, .val d, x5, .val (.lst B), .val (.lst B), x3, rfl, fun e he => ok e (List.mem_cons_of_mem _ he)⟩
  show evSs (callF Pr (n + 2)) body2 [.val (scD ns), .val (.ref 0), x2, x3, .val d, x5, x6, x7] h = _
  unfold body2
  rw [ev_asgo (ev_lst (ds := B) (ev_cons (ev_call0 (ev_cons (ev_var rfl) ev_nil) rfl (c_name okd)) (ev_cons (ev_call0 (ev_cons (ev_var rfl) ev_nil) rfl (c_word okd)) (ev_cons (ev_call0 (ev_cons (ev_var rfl) ev_nil) rfl (c_plain okd)) (ev_cons (ev_call ev_nil rfl (ev_kcons (ev_var rfl) ev_knil) rfl (c_nameK okd)) ev_nil)))) rfl (by show 4 ≤ 16777216; decide)) (m := .frz) rfl]
  show evSs (callF Pr (n + 2)) _ [.val (scD ns), .val (.ref 0), x2, x3, .val d, x5, .val (.lst B), x7] h = _
  rw [ev_asgo (ev_lst (ds := B) (ev_cons (ev_call0 (ev_cons (ev_var rfl) ev_nil) rfl (c_lname (n := n + 1) okd)) (ev_cons (ev_call0 (ev_cons (ev_var rfl) ev_nil) rfl (c_lword (n := n + 1) okd)) (ev_cons (ev_call0 (ev_cons (ev_var rfl) ev_nil) rfl (c_lplain (n := n + 1) okd)) (ev_cons (ev_call0 (ev_cons (ev_var rfl) ev_nil) rfl (c_lname (n := n + 1) okd)) ev_nil)))) rfl (by show 4 ≤ 16777216; decide)) (m := .frz) rfl]
  show evSs (callF Pr (n + 2)) _ [.val (scD ns), .val (.ref 0), x2, x3, .val d, x5, .val (.lst B), .val (.lst B)] h = _
  rw [ev_iteF (ev_not (ev_call0 (ev_cons (ev_var rfl) (ev_cons (ev_var rfl) ev_nil)) rfl (same4 (n := n + 1) _ _ _ _)))]
  rfl
theorem content (l : ns.length ≤ 63) : ∃ h', endF (evSs (callF Pr (n + 3)) ir_law (env0 N_law [scD ns]) []) = .ok (.bl true, h') := by
  show ∃ h', endF (evSs (callF Pr (n + 3)) ir_law [.val (scD ns), .none, .none, .none, .none, .none, .none, .none] []) = _
  unfold ir_law
  rw [ev_asgo (ev_call0 (ev_cons (ev_var rfl) ev_nil) rfl (c_bag (n := n + 2) l)) (m := .frz) rfl]
  let A1 : List D := [.non, .int 3, .bl true, .tup [], .tup [.str "a"], .str "", .str "a", .str (Txt.mul "a" 8), .str (Txt.mul "a" 9), .str (Txt.mul "a" 12), .str (Txt.mul "a" 13)]
  let A2 : List D := [.str (Txt.mul "z9" 15), .str (Txt.mul "a" 31), .str "A", .str "-", .str "_"]
  show ∃ h', endF (evSs (callF Pr (n + 3)) _ [.val (scD ns), .val (.ref 0), .none, .none, .none, .none, .none, .none] [sk ns 0 0 58831 0]) = _
  rw [ev_asgo (x := .fr (.lst A1)) (ev_lst (ev_cons (ev_cst _) (ev_cons (ev_cst _) (ev_cons (ev_cst _) (ev_cons (ev_tup ev_nil rfl (by decide)) (ev_cons (ev_tup (ev_cons (ev_cst _) ev_nil) rfl (by decide)) (ev_cons (ev_cst _) (ev_cons (ev_cst _)
    (ev_cons (ev_bin (ev_str _) (ev_int _) (bin_mulS (by decide +kernel))) (ev_cons (ev_bin (ev_str _) (ev_int _) (bin_mulS (by decide +kernel))) (ev_cons (ev_bin (ev_str _) (ev_int _) (bin_mulS (by decide +kernel))) (ev_cons (ev_bin (ev_str _) (ev_int _) (bin_mulS (by decide +kernel))) ev_nil))))))))))) rfl (by show 11 ≤ 16777216; decide)) (m := .own) rfl]
  show ∃ h', endF (evSs (callF Pr (n + 3)) _ [.val (scD ns), .val (.ref 0), .own (.lst A1), .none, .none, .none, .none, .none] [sk ns 0 0 58831 0]) = _
  rw [ev_asgo (x := .fr (.lst (A1 ++ A2))) (ev_bin (x := .vw 2) (y := .fr (.lst A2)) rfl (ev_lst (ev_cons (ev_bin (ev_str _) (ev_int _) (bin_mulS (by decide +kernel))) (ev_cons (ev_bin (ev_str _) (ev_int _) (bin_mulS (by decide +kernel))) (ev_cons (ev_cst _) (ev_cons (ev_cst _) (ev_cons (ev_cst _) ev_nil))))) rfl (by show 5 ≤ 16777216; decide)) rfl) (m := .own) rfl]
  show ∃ h', endF (evSs (callF Pr (n + 3)) _ [.val (scD ns), .val (.ref 0), .own (.lst (A1 ++ A2)), .none, .none, .none, .none, .none] [sk ns 0 0 58831 0]) = _
  have ok0 : ∀ d ∈ A1 ++ A2, OkV d := by
    intro d hd
    simp only [A1, A2, List.cons_append, List.nil_append, List.mem_cons, List.not_mem_nil, or_false] at hd
    rcases hd with rfl | rfl | rfl | rfl | rfl | rfl | rfl | rfl | rfl | rfl | rfl | rfl | rfl | rfl | rfl | rfl <;> first
      | exact okS _
      | exact okN rfl (fun s z => nomatch z)
  obtain ⟨ρ1, h1, e1, xs, y3, y5, c1, rfl, rfl, S1, ok1, l1⟩ := forL_inv (step1 (n := n) (ns := ns)) ((List.range 10).map fun (i : Nat) => D.int (i : Int)) [.val (scD ns), .val (.ref 0), .own (.lst (A1 ++ A2)), .none, .none, .none, .none, .none] [sk ns 0 0 58831 0]
    ⟨A1 ++ A2, .none, .none, _, rfl, rfl, sack0, ok0, by decide⟩
  have f1 := fun r => ev_for (r := r) (tg := .nm 3) (it := .rg (.cst (.int 10))) (b := body1) rfl e1
  unfold body1 at f1
  rw [f1]
  rw [ev_frz (c := .lst xs) rfl]
  show ∃ h', endF (evSs (callF Pr (n + 3)) _ [.val (scD ns), .val (.ref 0), .val (.lst xs), y3, .none, y5, .none, .none] [c1]) = _
  obtain ⟨ρ2, h2, e2, z2, z4, z5, z6, z7, z3, rfl, _⟩ := forL_inv (step2 (n := n + 1) (ns := ns)) xs [.val (scD ns), .val (.ref 0), .val (.lst xs), y3, .none, y5, .none, .none] [c1] ⟨_, _, _, _, _, _, rfl, ok1⟩
  have f2 := fun r => ev_for (r := r) (tg := .nm 4) (it := .sq (.var 2)) (b := body2) rfl e2
  unfold body2 at f2
  rw [f2]
  have w1 : mo (.str "?") gWd 30 = true := by decide +kernel
  have w2 : mo (.str "?") gPl 12 = false := by decide +kernel
  have q1 := c_wordK (n := n + 1) (h := h2) (okS "?")
  have q2 := c_plainK (n := n + 1) (h := h2) (okS "?")
  rw [w1] at q1
  rw [w2] at q2
  refine ⟨h2, ?_⟩
  rw [ev_retH (ev_call0 (ev_cons (ev_lst (ds := [.bl true, .bl false]) (ev_cons (ev_call ev_nil rfl (ev_kcons (ev_str _) ev_knil) rfl q1) (ev_cons (ev_call ev_nil rfl (ev_kcons (ev_str _) ev_knil) rfl q2) ev_nil)) rfl (by show 2 ≤ 16777216; decide)) (ev_cons (ev_lst (ds := [.bl true, .bl false]) (ev_cons (ev_cst _) (ev_cons (ev_cst _) ev_nil)) rfl (by show 2 ≤ 16777216; decide)) ev_nil)) rfl (same2 (n := n + 2) true false)) rfl]
  rfl
end
end L_k01
theorem PySem.Challenge.cw_anyheir_k01_names_and_words_holds : PySem.Challenge.rw_anyheir_k01_names_and_words.Holds := by
  exact k01_holds fun ns hl _ => L_k01.content (n := 197) hl
