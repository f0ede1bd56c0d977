import PyProof.Rows.All
import Wide.All
import OpenK.AllK
import Wide.FinOn
import HandS.ForMost
import HandS.ForExc
import HandS.SortInts
import HandS.SortRule
import HandS.Deep
import HandS.IsInst
import HandS.Evl
import KE.GoesMore
import HandS.Iter
import HandS.Walk
import HandS.Zip
import HandS.Style
import HandS.SetKeys
import HandS.DictComp
import HandS.Flow
import HandS.RevRange
import HandS.More
import HandS.Exc
import HandS.ExcInit
import HandS.ExcField
import KE.KExcIs
import HandS.ExcIs
import HandS.Conv
import HandS.TryOnly
import HandS.ExcCtx
import HandS.Remove
import OpenK.KMore
import HandS.HotCalls
import HandS.TupLe
import HandS.WordsExc
import HandS.Defaults
import HandS.MakeKwOnly
import KE.KExcSuper
import HandS.ExcSuper
import HandS.Nested
import HandS.HeadWalk
import HandS.Head0
import HandS.Head1
import HandS.Head2
import HandS.HeadEnd
import HandS.HeadHook1
import HandS.HeadHook2
import HandS.HeadHook4
import PySem.Challenge.RW_panescratches_k02_bad_depths
set_option Elab.async false
set_option linter.all false
set_option maxRecDepth 100000
namespace MP
open PySem L2
inductive D where
  | dead | non
  | bl (b : Bool) | int (i : Int) | str (x : Str)
  | lst (o : Bool) (xs : List D)
  | tup (o : Bool) (xs : List D)
  | dct (o t : Bool) (ks vs : List D)
  | obj (o : Bool) (c : Nat) (ns : List Str) (vs : List D)
  | scr (ns : List Int)
  | exn (c : Nat) (ns : List Str) (vs : List D)
  deriving Inhabited
mutual
def D.isSh : D → Bool
  | .lst o xs => !o && D.isShL xs
  | .tup o xs => !o && D.isShL xs
  | .dct o _ _ vs => !o && D.isShL vs
  | .obj o _ _ vs => !o && D.isShL vs
  | .exn .. => false
  | _ => true
def D.isShL : List D → Bool
  | [] => true
  | d :: r => D.isSh d && D.isShL r
end
mutual
def D.flat : D → D
  | .lst _ xs => .lst false (D.flatL xs)
  | .tup _ xs => .tup false (D.flatL xs)
  | .dct _ t ks vs => .dct false t ks (D.flatL vs)
  | .obj _ c ns vs => .obj false c ns (D.flatL vs)
  | .exn .. => .dead
  | d => d
def D.flatL : List D → List D
  | [] => []
  | d :: r => D.flat d :: D.flatL r
end
mutual
/-- no caught exception within -/
def D.nox : D → Bool
  | .exn .. => false
  | .lst _ xs => D.noxL xs
  | .tup _ xs => D.noxL xs
  | .dct _ _ _ vs => D.noxL vs
  | .obj _ _ _ vs => D.noxL vs
  | _ => true
def D.noxL : List D → Bool
  | [] => true
  | d :: r => D.nox d && D.noxL r
end
structure GX where
  K : PySem.W.Frag
  cls : Nat → Addr
  cs : List Nat
  ex : Option (Addr × Nat × Option Addr) := none
def keyD : Key → D
  | .inl i => .int i
  | .inr x => .str x
/-- a shared tuple: a tracked one, or one without ints (the written part's) -/
def noInt : V → Bool
  | .int _ => false
  | _ => true
def TupR (K : PySem.W.Frag) (F : Hp) (p : Addr) (vs : List V) : Prop := F p = some (.tup vs) ∨ (SqT K F p vs ∧ vs.all noInt = true)
theorem TupR.sq {K : PySem.W.Frag} {F : Hp} {p : Addr} {vs : List V} (h : TupR K F p vs) : SqT K F p vs := h.elim SqT.of (·.1)
/-- a node at p, owned or shared; T: the owned parts of its children -/
def At (F : Hp) (o : Bool) (p : Addr) (T S : List Addr) (sh ow : Prop) : Prop :=
  match o with
  | true => ow ∧ F p = none ∧ S = p :: T
  | false => sh ∧ T = [] ∧ S = []
mutual
def Rep (G : GX) (F H : Hp) : D → V → List Addr → Prop
  | .dead, _, S => S = []
  | .non, v, S => v = .non ∧ S = []
  | .bl b, v, S => v = .bl b ∧ S = []
  | .int i, v, S => v = .int i ∧ S = []
  | .str x, v, S => v = .str x ∧ S = []
  | .lst o xs, v, S => ∃ p vs T, v = .ref p ∧ Reps G F H xs vs T ∧ At F o p T S (F p = some (.lst vs)) (H p = some (.lst vs))
  | .tup o xs, v, S => ∃ p vs T, v = .ref p ∧ Reps G F H xs vs T ∧ At F o p T S (TupR G.K F p vs) (H p = some (.tup vs))
  | .dct o false ks vs, v, S => ∃ p kvs T, v = .ref p ∧ Reps G F H vs (kvs.map (·.2)) T ∧ ks = kvs.map (fun kv => keyD kv.1) ∧ At F o p T S (F p = some (.dK kvs)) (H p = some (.dK kvs))
  | .dct o true ks vs, v, S => ∃ p kvs T, v = .ref p ∧ Reps G F H vs (kvs.map (·.2)) T ∧ ks = kvs.map (fun kv => D.tup false (kv.1.map keyD)) ∧ At F o p T S (F p = some (.dT kvs)) (H p = some (.dT kvs))
  | .obj o c ns vs, v, S => ∃ p dx fs T, v = .ref p ∧ Reps G F H vs (fs.map (·.2)) T ∧ (ns = fs.map (·.1) ∧ c ∈ G.cs) ∧ At F o p T S (F p = some (.ins (G.cls c) dx fs)) (H p = some (.ins (G.cls c) dx fs))
  | .scr ns, v, S => ∃ p, v = .ref p ∧ SqL G.K F p (ns.map V.int) ∧ S = []
  | .exn c ns vs, v, S => ∃ a o, G.ex = some (a, c, o) ∧ v = .ref a ∧ S = [] ∧ ((o = none ∧ ns = [] ∧ vs = []) ∨ ∃ dd fs, o = some dd ∧ F dd = some (.xd fs) ∧ fs.map (·.1) = ns ∧ Reps G F H vs (fs.map (·.2)) [])
def Reps (G : GX) (F H : Hp) : List D → List V → List Addr → Prop
  | [], vs, S => vs = [] ∧ S = []
  | d :: r, vs, S => ∃ v vr S1 S2, vs = v :: vr ∧ S = S1 ++ S2 ∧ Rep G F H d v S1 ∧ Reps G F H r vr S2
end
theorem same_t {K : PySem.W.Frag} {H H' : Hp} {a : Addr} {xs : List V} (e : Same H H') (h : SqT K H a xs) : SqT K H' a xs := by
  rcases h with (h | ⟨o, h⟩) | h
  · exact .inl (.inl (e _ _ h))
  · exact .inl (.inr ⟨o, e _ _ h⟩)
  · exact .inr h
theorem TupR.mono {K : PySem.W.Frag} {H H' : Hp} {a : Addr} {xs : List V} (e : Same H H') (h : TupR K H a xs) : TupR K H' a xs := by
  rcases h with h | h
  · exact .inl (e _ _ h)
  · exact .inr ⟨same_t e h.1, h.2⟩
theorem At.mono {F F' : Hp} {o : Bool} {p : Addr} {T S : List Addr} {sh sh' ow ow' : Prop} (h : At F o p T S sh ow) (h1 : sh → sh') (h2 : p ∈ S → ow → ow') (h3 : p ∈ S → F' p = none) : At F' o p T S sh' ow' := by
  cases o with
  | true =>
    obtain ⟨a, b, c⟩ := h
    exact ⟨h2 (by rw [c]; exact List.mem_cons_self) a, h3 (by rw [c]; exact List.mem_cons_self), c⟩
  | false => exact ⟨h1 h.1, h.2.1, h.2.2⟩
theorem At.sub {F : Hp} {o : Bool} {p : Addr} {T S : List Addr} {sh ow : Prop} (h : At F o p T S sh ow) : ∀ q ∈ T, q ∈ S := by
  cases o with
  | true =>
    obtain ⟨a, b, c⟩ := h
    intro q hq
    rw [c]
    exact List.mem_cons_of_mem _ hq
  | false => intro q hq; rw [h.2.1] at hq; cases hq
theorem At.frz {F F' : Hp} {o : Bool} {p : Addr} {T S : List Addr} {sh ow sh' : Prop} {ow' : Prop} (h : At F o p T S sh ow) (h1 : sh → sh') (h2 : p ∈ S → ow → sh') : At F' false p [] [] sh' ow' := by
  cases o with
  | true =>
    obtain ⟨a, b, c⟩ := h
    exact ⟨h2 (by rw [c]; exact List.mem_cons_self) a, rfl, rfl⟩
  | false => exact ⟨h1 h.1, rfl, rfl⟩
section
variable {G : GX}
mutual
theorem Rep.mono {F F' H H' : Hp} (e : Same F F') : ∀ (d : D) {v : V} {S : List Addr}, Rep G F H d v S → (∀ p ∈ S, F' p = none ∧ H' p = H p) → Rep G F' H' d v S
  | .dead, v, S, h, k => h
  | .non, v, S, h, k => h
  | .bl b, v, S, h, k => h
  | .int i, v, S, h, k => h
  | .str x, v, S, h, k => h
  | .lst o xs, v, S, h, k => by
    obtain ⟨p, vs, T, hv, hr, ha⟩ := h
    exact ⟨p, vs, T, hv, Reps.mono e xs hr (fun q hq => k q (ha.sub q hq)), ha.mono (fun z => e _ _ z) (fun m z => by rw [(k p m).2]; exact z) (fun m => (k p m).1)⟩
  | .tup o xs, v, S, h, k => by
    obtain ⟨p, vs, T, hv, hr, ha⟩ := h
    exact ⟨p, vs, T, hv, Reps.mono e xs hr (fun q hq => k q (ha.sub q hq)), ha.mono (fun z => z.mono e) (fun m z => by rw [(k p m).2]; exact z) (fun m => (k p m).1)⟩
  | .dct o false ks vs, v, S, h, k => by
    obtain ⟨p, kvs, T, hv, hr, hk, ha⟩ := h
    exact ⟨p, kvs, T, hv, Reps.mono e vs hr (fun q hq => k q (ha.sub q hq)), hk, ha.mono (fun z => e _ _ z) (fun m z => by rw [(k p m).2]; exact z) (fun m => (k p m).1)⟩
  | .dct o true ks vs, v, S, h, k => by
    obtain ⟨p, kvs, T, hv, hr, hk, ha⟩ := h
    exact ⟨p, kvs, T, hv, Reps.mono e vs hr (fun q hq => k q (ha.sub q hq)), hk, ha.mono (fun z => e _ _ z) (fun m z => by rw [(k p m).2]; exact z) (fun m => (k p m).1)⟩
  | .obj o c ns vs, v, S, h, k => by
    obtain ⟨p, dx, fs, T, hv, hr, hk, ha⟩ := h
    exact ⟨p, dx, fs, T, hv, Reps.mono e vs hr (fun q hq => k q (ha.sub q hq)), hk, ha.mono (fun z => e _ _ z) (fun m z => by rw [(k p m).2]; exact z) (fun m => (k p m).1)⟩
  | .scr ns, v, S, h, k => by
    obtain ⟨p, hv, hl, hs⟩ := h
    exact ⟨p, hv, e.seq hl, hs⟩
  | .exn c ns vs, v, S, h, k => by
    obtain ⟨a, o, h1, h2, h3, h4⟩ := h
    refine ⟨a, o, h1, h2, h3, ?_⟩
    rcases h4 with h4 | ⟨dd, fs, h4, h5, h6, h7⟩
    · exact .inl h4
    · exact .inr ⟨dd, fs, h4, e _ _ h5, h6, Reps.mono e vs h7 fun p hp => nomatch hp⟩
theorem Reps.mono {F F' H H' : Hp} (e : Same F F') : ∀ (ds : List D) {vs : List V} {S : List Addr}, Reps G F H ds vs S → (∀ p ∈ S, F' p = none ∧ H' p = H p) → Reps G F' H' ds vs S
  | [], vs, S, h, k => h
  | d :: r, vs, S, h, k => by
    obtain ⟨v, vr, S1, S2, e1, e2, h1, h2⟩ := h
    refine ⟨v, vr, S1, S2, e1, e2, Rep.mono e d h1 (fun p hp => k p ?_), Reps.mono e r h2 (fun p hp => k p ?_)⟩
    · rw [e2]; exact List.mem_append_left _ hp
    · rw [e2]; exact List.mem_append_right _ hp
end
mutual
theorem Rep.frz {F F' H H' : Hp} (e : Same F F') : ∀ (d : D) {v : V} {S : List Addr}, Rep G F H d v S → (∀ p ∈ S, F' p = H p) → Rep G F' H' d.flat v []
  | .dead, v, S, h, k => rfl
  | .non, v, S, h, k => ⟨h.1, rfl⟩
  | .bl b, v, S, h, k => ⟨h.1, rfl⟩
  | .int i, v, S, h, k => ⟨h.1, rfl⟩
  | .str x, v, S, h, k => ⟨h.1, rfl⟩
  | .lst o xs, v, S, h, k => by
    obtain ⟨p, vs, T, hv, hr, ha⟩ := h
    exact ⟨p, vs, [], hv, Reps.frz e xs hr (fun q hq => k q (ha.sub q hq)), ha.frz (fun z => e _ _ z) (fun m z => by rw [k p m]; exact z)⟩
  | .tup o xs, v, S, h, k => by
    obtain ⟨p, vs, T, hv, hr, ha⟩ := h
    exact ⟨p, vs, [], hv, Reps.frz e xs hr (fun q hq => k q (ha.sub q hq)), ha.frz (fun z => z.mono e) (fun m z => .inl (by rw [k p m]; exact z))⟩
  | .dct o false ks vs, v, S, h, k => by
    obtain ⟨p, kvs, T, hv, hr, hk, ha⟩ := h
    exact ⟨p, kvs, [], hv, Reps.frz e vs hr (fun q hq => k q (ha.sub q hq)), hk, ha.frz (fun z => e _ _ z) (fun m z => by rw [k p m]; exact z)⟩
  | .dct o true ks vs, v, S, h, k => by
    obtain ⟨p, kvs, T, hv, hr, hk, ha⟩ := h
    exact ⟨p, kvs, [], hv, Reps.frz e vs hr (fun q hq => k q (ha.sub q hq)), hk, ha.frz (fun z => e _ _ z) (fun m z => by rw [k p m]; exact z)⟩
  | .obj o c ns vs, v, S, h, k => by
    obtain ⟨p, dx, fs, T, hv, hr, hk, ha⟩ := h
    exact ⟨p, dx, fs, [], hv, Reps.frz e vs hr (fun q hq => k q (ha.sub q hq)), hk, ha.frz (fun z => e _ _ z) (fun m z => by rw [k p m]; exact z)⟩
  | .scr ns, v, S, h, k => by
    obtain ⟨p, hv, hl, hs⟩ := h
    exact ⟨p, hv, e.seq hl, rfl⟩
  | .exn c ns vs, v, S, h, k => rfl
theorem Reps.frz {F F' H H' : Hp} (e : Same F F') : ∀ (ds : List D) {vs : List V} {S : List Addr}, Reps G F H ds vs S → (∀ p ∈ S, F' p = H p) → Reps G F' H' (D.flatL ds) vs []
  | [], vs, S, h, k => ⟨h.1, rfl⟩
  | d :: r, vs, S, h, k => by
    obtain ⟨v, vr, S1, S2, e1, e2, h1, h2⟩ := h
    refine ⟨v, vr, [], [], e1, rfl, Rep.frz e d h1 (fun p hp => k p ?_), Reps.frz e r h2 (fun p hp => k p ?_)⟩
    · rw [e2]; exact List.mem_append_left _ hp
    · rw [e2]; exact List.mem_append_right _ hp
end
theorem At.own {F H : Hp} {o : Bool} {p : Addr} {T S : List Addr} {sh : Prop} {x : HO} (h : At F o p T S sh (H p = some x)) (k : ∀ q ∈ T, F q = none ∧ H q ≠ none) : ∀ q ∈ S, F q = none ∧ H q ≠ none := by
  cases o with
  | true =>
    obtain ⟨a, b, c⟩ := h
    intro q hq
    rw [c] at hq
    rcases List.mem_cons.mp hq with rfl | hq
    · exact ⟨b, by rw [a]; exact fun z => nomatch z⟩
    · exact k q hq
  | false => intro q hq; rw [h.2.2] at hq; cases hq
mutual
theorem Rep.own {F H : Hp} : ∀ (d : D) {v : V} {S : List Addr}, Rep G F H d v S → ∀ p ∈ S, F p = none ∧ H p ≠ none
  | .dead, v, S, h => fun p hp => by rw [show S = [] from h] at hp; cases hp
  | .non, v, S, h => fun p hp => by rw [h.2] at hp; cases hp
  | .bl b, v, S, h => fun p hp => by rw [h.2] at hp; cases hp
  | .int i, v, S, h => fun p hp => by rw [h.2] at hp; cases hp
  | .str x, v, S, h => fun p hp => by rw [h.2] at hp; cases hp
  | .lst o xs, v, S, h => by
    obtain ⟨p, vs, T, hv, hr, ha⟩ := h
    exact ha.own (Reps.own xs hr)
  | .tup o xs, v, S, h => by
    obtain ⟨p, vs, T, hv, hr, ha⟩ := h
    exact ha.own (Reps.own xs hr)
  | .dct o false ks vs, v, S, h => by
    obtain ⟨p, kvs, T, hv, hr, hk, ha⟩ := h
    exact ha.own (Reps.own vs hr)
  | .dct o true ks vs, v, S, h => by
    obtain ⟨p, kvs, T, hv, hr, hk, ha⟩ := h
    exact ha.own (Reps.own vs hr)
  | .obj o c ns vs, v, S, h => by
    obtain ⟨p, dx, fs, T, hv, hr, hk, ha⟩ := h
    exact ha.own (Reps.own vs hr)
  | .scr ns, v, S, h => by
    obtain ⟨p, hv, hl, hs⟩ := h
    exact fun p hp => by rw [hs] at hp; cases hp
  | .exn c ns vs, v, S, h => by
    obtain ⟨a, o, h1, h2, h3, h4⟩ := h
    exact fun p hp => by rw [h3] at hp; cases hp
theorem Reps.own {F H : Hp} : ∀ (ds : List D) {vs : List V} {S : List Addr}, Reps G F H ds vs S → ∀ p ∈ S, F p = none ∧ H p ≠ none
  | [], vs, S, h => fun p hp => by rw [h.2] at hp; cases hp
  | d :: r, vs, S, h => by
    obtain ⟨v, vr, S1, S2, e1, e2, h1, h2⟩ := h
    intro p hp
    rw [e2] at hp
    rcases List.mem_append.mp hp with hp | hp
    · exact Rep.own d h1 p hp
    · exact Reps.own r h2 p hp
end
theorem At.shn {F : Hp} {o : Bool} {p : Addr} {T S : List Addr} {sh ow : Prop} (h : At F o p T S sh ow) (ho : (!o) = true) : S = [] := by
  cases o with
  | true => cases ho
  | false => exact h.2.2
theorem Rep.shn {F H : Hp} : ∀ (d : D) {v : V} {S : List Addr}, Rep G F H d v S → d.isSh = true → S = []
  | .dead, v, S, h, k => h
  | .non, v, S, h, k => h.2
  | .bl b, v, S, h, k => h.2
  | .int i, v, S, h, k => h.2
  | .str x, v, S, h, k => h.2
  | .lst o xs, v, S, h, k => by
    obtain ⟨p, vs, T, hv, hr, ha⟩ := h
    simp only [D.isSh, Bool.and_eq_true] at k
    exact ha.shn k.1
  | .tup o xs, v, S, h, k => by
    obtain ⟨p, vs, T, hv, hr, ha⟩ := h
    simp only [D.isSh, Bool.and_eq_true] at k
    exact ha.shn k.1
  | .dct o false ks vs, v, S, h, k => by
    obtain ⟨p, kvs, T, hv, hr, hk, ha⟩ := h
    simp only [D.isSh, Bool.and_eq_true] at k
    exact ha.shn k.1
  | .dct o true ks vs, v, S, h, k => by
    obtain ⟨p, kvs, T, hv, hr, hk, ha⟩ := h
    simp only [D.isSh, Bool.and_eq_true] at k
    exact ha.shn k.1
  | .obj o c ns vs, v, S, h, k => by
    obtain ⟨p, dx, fs, T, hv, hr, hk, ha⟩ := h
    simp only [D.isSh, Bool.and_eq_true] at k
    exact ha.shn k.1
  | .scr ns, v, S, h, k => by
    obtain ⟨p, hv, hl, hs⟩ := h
    exact hs
  | .exn c ns vs, v, S, h, k => nomatch k
theorem Reps.shn {F H : Hp} : ∀ (ds : List D) {vs : List V} {S : List Addr}, Reps G F H ds vs S → D.isShL ds = true → S = []
  | [], vs, S, h, k => h.2
  | d :: r, vs, S, h, k => by
    obtain ⟨v, vr, S1, S2, e1, e2, h1, h2⟩ := h
    simp only [D.isShL, Bool.and_eq_true] at k
    rw [e2, Rep.shn d h1 k.1, Reps.shn r h2 k.2]
    rfl
theorem Reps.len {F H : Hp} : ∀ {ds : List D} {vs : List V} {S : List Addr}, Reps G F H ds vs S → vs.length = ds.length
  | [], vs, S, h => by rw [h.1]; rfl
  | d :: r, vs, S, h => by
    obtain ⟨v, vr, S1, S2, e1, e2, h1, h2⟩ := h
    rw [e1, List.length_cons, List.length_cons, Reps.len h2]
theorem Reps.get {F H : Hp} : ∀ {ds : List D} {vs : List V} {S : List Addr} {i : Nat} {d : D}, Reps G F H ds vs S → ds[i]? = some d → ∃ v T, vs[i]? = some v ∧ Rep G F H d v T ∧ T.Sublist S
  | [], vs, S, i, d, h, k => by simp at k
  | d :: r, vs, S, 0, d', h, k => by
    obtain ⟨v, vr, S1, S2, e1, e2, h1, h2⟩ := h
    have e : d = d' := by simpa using k
    subst e
    exact ⟨v, S1, by rw [e1]; rfl, h1, by rw [e2]; exact List.sublist_append_left _ _⟩
  | d :: r, vs, S, i + 1, d', h, k => by
    obtain ⟨v, vr, S1, S2, e1, e2, h1, h2⟩ := h
    obtain ⟨v', T, h3, h4, h5⟩ := Reps.get (i := i) (d := d') h2 (by simpa using k)
    exact ⟨v', T, by rw [e1]; simpa using h3, h4, by rw [e2]; exact h5.trans (List.sublist_append_right _ _)⟩
theorem Reps.app {F H : Hp} : ∀ {ds es : List D} {vs ws : List V} {S T : List Addr}, Reps G F H ds vs S → Reps G F H es ws T → Reps G F H (ds ++ es) (vs ++ ws) (S ++ T)
  | [], es, vs, ws, S, T, h, k => by rw [h.1, h.2]; exact k
  | d :: r, es, vs, ws, S, T, h, k => by
    obtain ⟨v, vr, S1, S2, e1, e2, h1, h2⟩ := h
    exact ⟨v, vr ++ ws, S1, S2 ++ T, by rw [e1]; rfl, by rw [e2, List.append_assoc], h1, Reps.app h2 k⟩
theorem Reps.cons {F H : Hp} {d : D} {ds : List D} {v : V} {vs : List V} {S T : List Addr} (h : Rep G F H d v S) (k : Reps G F H ds vs T) : Reps G F H (d :: ds) (v :: vs) (S ++ T) := ⟨v, vs, S, T, rfl, rfl, h, k⟩
theorem Reps.nil {F H : Hp} : Reps G F H [] [] [] := ⟨rfl, rfl⟩
/-- all shared: by places -/
theorem Reps.sh_get {F H : Hp} {ds : List D} {vs : List V} (h : Reps G F H ds vs []) {i : Nat} {d : D} (k : ds[i]? = some d) : ∃ v, vs[i]? = some v ∧ Rep G F H d v [] := by
  obtain ⟨v, T, h1, h2, h3⟩ := h.get k
  have : T = [] := List.sublist_nil.mp h3
  exact ⟨v, h1, by rw [this] at h2; exact h2⟩
theorem Reps.uncons {F H : Hp} {d : D} {ds : List D} {v : V} {vs : List V} (h : Reps G F H (d :: ds) (v :: vs) []) : Rep G F H d v [] ∧ Reps G F H ds vs [] := by
  obtain ⟨v', vr, S1, S2, e1, e2, h1, h2⟩ := h
  injection e1 with a b
  subst a b
  have e := List.append_eq_nil_iff.mp e2.symm
  rw [e.1] at h1
  rw [e.2] at h2
  exact ⟨h1, h2⟩
theorem Reps.drop {F H : Hp} : ∀ {ds : List D} {vs : List V} (n : Nat), Reps G F H ds vs [] → Reps G F H (ds.drop n) (vs.drop n) []
  | ds, vs, 0, h => h
  | [], vs, n + 1, h => by rw [h.1]; exact Reps.nil
  | d :: r, vs, n + 1, h => by
    obtain ⟨v, vr, S1, S2, e1, e2, h1, h2⟩ := id h
    subst e1
    exact Reps.drop n h.uncons.2
theorem Reps.take {F H : Hp} : ∀ {ds : List D} {vs : List V} (n : Nat), Reps G F H ds vs [] → Reps G F H (ds.take n) (vs.take n) []
  | ds, vs, 0, h => Reps.nil
  | [], vs, n + 1, h => by rw [h.1]; exact Reps.nil
  | d :: r, vs, n + 1, h => by
    obtain ⟨v, vr, S1, S2, e1, e2, h1, h2⟩ := id h
    subst e1
    exact Reps.cons (S := []) h.uncons.1 (Reps.take n h.uncons.2)
theorem Reps.app0 {F H : Hp} {ds es : List D} {vs ws : List V} (h : Reps G F H ds vs []) (k : Reps G F H es ws []) : Reps G F H (ds ++ es) (vs ++ ws) [] := Reps.app h k
theorem Reps.reverse {F H : Hp} : ∀ {ds : List D} {vs : List V}, Reps G F H ds vs [] → Reps G F H ds.reverse vs.reverse []
  | [], vs, h => by rw [h.1]; exact Reps.nil
  | d :: r, vs, h => by
    obtain ⟨v, vr, S1, S2, e1, e2, h1, h2⟩ := id h
    subst e1
    rw [List.reverse_cons, List.reverse_cons]
    exact Reps.app0 (Reps.reverse h.uncons.2) (Reps.cons (S := []) h.uncons.1 Reps.nil)
theorem Reps.eraseIdx {F H : Hp} : ∀ {ds : List D} {vs : List V} (n : Nat), Reps G F H ds vs [] → Reps G F H (ds.eraseIdx n) (vs.eraseIdx n) []
  | [], vs, n, h => by rw [h.1]; exact Reps.nil
  | d :: r, vs, 0, h => by
    obtain ⟨v, vr, S1, S2, e1, e2, h1, h2⟩ := id h
    subst e1
    exact h.uncons.2
  | d :: r, vs, n + 1, h => by
    obtain ⟨v, vr, S1, S2, e1, e2, h1, h2⟩ := id h
    subst e1
    exact Reps.cons (S := []) h.uncons.1 (Reps.eraseIdx n h.uncons.2)
theorem Reps.set {F H : Hp} {d' : D} {v' : V} (k : Rep G F H d' v' []) : ∀ {ds : List D} {vs : List V} (n : Nat), Reps G F H ds vs [] → Reps G F H (ds.set n d') (vs.set n v') []
  | [], vs, n, h => by rw [h.1]; exact Reps.nil
  | d :: r, vs, 0, h => by
    obtain ⟨v, vr, S1, S2, e1, e2, h1, h2⟩ := id h
    subst e1
    exact Reps.cons (S := []) k h.uncons.2
  | d :: r, vs, n + 1, h => by
    obtain ⟨v, vr, S1, S2, e1, e2, h1, h2⟩ := id h
    subst e1
    exact Reps.cons (S := []) h.uncons.1 (Reps.set k n h.uncons.2)
end
end MP
set_option Elab.async false
set_option linter.all false
set_option maxRecDepth 100000
namespace MP
open PySem L2
structure Exn where
  c : Nat
  ns : List Str
  vs : List D
inductive Res (α : Type) where
  | ok (a : α) | exc (x : Exn) | stuck
def Res.bind {α β : Type} (r : Res α) (f : α → Res β) : Res β := match r with
  | .ok a => f a
  | .exc x => .exc x
  | .stuck => .stuck
def guardR {α : Type} (b : Bool) (r : Res α) : Res α := match b with
  | true => r
  | false => .stuck
/-! ### data as the library's data; == -/
mutual
def D.py : D → PyData
  | .bl b => .bool b
  | .int i => .int i
  | .str x => .str x
  | .lst _ xs => .list (D.pyL xs)
  | .tup _ xs => .tuple (D.pyL xs)
  | _ => .none
def D.pyL : List D → List PyData
  | [] => []
  | d :: r => D.py d :: D.pyL r
end
mutual
def D.dat : D → Bool
  | .lst _ xs => D.datL xs
  | .tup _ xs => D.datL xs
  | .non | .bl _ | .int _ | .str _ => true
  | _ => false
def D.datL : List D → Bool
  | [] => true
  | d :: r => D.dat d && D.datL r
end
def D.eqOk (d : D) : Bool := d.dat && SeqAt.shaped d.py
def D.eqv (a b : D) : Bool := PyData.eqv a.py b.py
def flatD : D → Bool
  | .int _ | .str _ | .bl _ | .non => true
  | _ => false
/-- only flat values below owned nodes: nothing leans on a frame -/
def D.leaf : D → Bool
  | .lst o xs => o && xs.all flatD
  | .int _ | .str _ | .bl _ | .non => true
  | _ => false
/-! ### keys of dicts -/
def D.key : D → Option Key
  | .int i => some (.inl i)
  | .str x => some (.inr x)
  | _ => none
def keysOf : List D → Option (List Key)
  | [] => some []
  | d :: r => match d.key, keysOf r with
    | some k, some ks => some (k :: ks)
    | _, _ => none
def D.keyT : D → Option (List Key)
  | .tup false xs => match xs with
    | .int i :: _ => keysOf xs
    | _ => none
  | _ => none
/-- the place of a key among the keys of a dict -/
def D.sameKey (t : Bool) (k : D) (x : D) : Bool := match t with
  | false => decide (k.key = x.key) && x.key.isSome
  | true => decide (k.keyT = x.keyT) && x.keyT.isSome
def D.okKey (t : Bool) (x : D) : Bool := match t with
  | false => x.key.isSome
  | true => x.keyT.isSome
def dlook (t : Bool) (x : D) : List D → List D → Option D
  | k :: ks, v :: vs => if D.sameKey t k x then some v else dlook t x ks vs
  | _, _ => none
/-- the keys and values behind a store -/
def dputV (t : Bool) (x y : D) : List D → List D → List D
  | k :: ks, v :: vs => (if D.sameKey t k x then y else v) :: dputV t x y ks vs
  | _, _ => []
def dput (t : Bool) (x y : D) (ks vs : List D) : List D × List D :=
  match dlook t x ks vs with
  | some _ => (ks, dputV t x y ks vs)
  | none => (ks ++ [x], vs ++ [y])
/-! ### sorting -/
def insI (x : Int) : List Int → List Int
  | [] => [x]
  | y :: r => if x ≤ y then x :: y :: r else y :: insI x r
def isortI : List Int → List Int
  | [] => []
  | x :: r => insI x (isortI r)
def leP (a b : Int × Int) : Bool := decide (a.1 < b.1) || (a.1 == b.1 && decide (a.2 ≤ b.2))
def insP (x : Int × Int) : List (Int × Int) → List (Int × Int)
  | [] => [x]
  | y :: r => if leP x y then x :: y :: r else y :: insP x r
def isortP : List (Int × Int) → List (Int × Int)
  | [] => []
  | x :: r => insP x (isortP r)
def intsOf : List D → Option (List Int)
  | [] => some []
  | .int i :: r => (intsOf r).map (i :: ·)
  | _ :: _ => none
def pairsOf : List D → Option (List (Int × Int))
  | [] => some []
  | .tup false [.int i, .int j] :: r => (pairsOf r).map ((i, j) :: ·)
  | _ :: _ => none
def boolsOf : List D → Option (List Bool)
  | [] => some []
  | .bl i :: r => (boolsOf r).map (i :: ·)
  | _ :: _ => none
def strsOf : List D → Option (List Str)
  | [] => some []
  | .str i :: r => (strsOf r).map (i :: ·)
  | _ :: _ => none
def dInt (i : Int) : D := .int i
def dPair (p : Int × Int) : D := .tup false [.int p.1, .int p.2]
inductive Kind where
  | int | bool | str | list | tup | cls (c : Nat)
  deriving DecidableEq
inductive Op1 where
  | neg | not | len | abs | int | list | tuple | sorted | all | any | isN | notN | isI (k : Kind) | rev | lrg | isB (b : Bool) | notB (b : Bool)
  deriving DecidableEq
inductive Op2 where
  | add | sub | mul | fdiv | mod | pow | lt | le | gt | ge | eq | ne | isin | nin | max | min | ix | join | index | lrg2
  deriving DecidableEq
inductive Op3 where
  | get2
  deriving DecidableEq
def D.isI (k : Kind) (d : D) : Res D := match d, k with
  | .dead, _ => .stuck
  | .dct .., _ => .stuck
  | .scr .., _ => .stuck
  | .exn .., _ => .stuck
  | .obj _ c _ _, .cls e => .ok (.bl (c == e))
  | .obj .., _ => .ok (.bl false)
  | .int _, .int => .ok (.bl true)
  | .bl _, .int => .ok (.bl true)
  | .bl _, .bool => .ok (.bl true)
  | .str _, .str => .ok (.bl true)
  | .lst .., .list => .ok (.bl true)
  | .tup .., .tup => .ok (.bl true)
  | _, _ => .ok (.bl false)
def dnew (xs : List D) : Res D := guardR (decide (xs.length ≤ 100000) && D.isShL xs) (.ok (.lst true xs))
def rngD (lo : Int) (n : Nat) : List D := (List.range n).map fun i => .int (lo + (i : Nat))
def sem1 : Op1 → D → Res D
  | .neg, .int i => .ok (.int (-i))
  | .not, .bl b => .ok (.bl (!b))
  | .len, .lst _ xs => .ok (.int xs.length)
  | .len, .tup _ xs => .ok (.int xs.length)
  | .len, .str x => guardR (decide (x.length ≤ 100000)) (.ok (.int x.length))
  | .len, .scr xs => .ok (.int xs.length)
  | .abs, .int i => .ok (.int (if i < 0 then -i else i))
  | .int, .int i => .ok (.int i)
  | .int, .bl b => .ok (.int (if b then 1 else 0))
  | .list, .lst _ xs => dnew xs
  | .list, .tup _ xs => dnew xs
  | .list, .dct _ false ks _ => dnew ks
  | .tuple, .lst _ xs => guardR (D.isShL xs && decide (xs.length ≤ 100000)) (.ok (.tup false xs))
  | .tuple, .tup false xs => .ok (.tup false xs)
  | .sorted, .lst _ xs => match intsOf xs with
    | some ns => guardR (decide (ns.length ≤ 100000)) (.ok (.lst true ((isortI ns).map dInt)))
    | none => match pairsOf xs with
      | some ps => guardR (decide (ps.length ≤ 100000)) (.ok (.lst true ((isortP ps).map dPair)))
      | none => .stuck
  | .all, .lst _ xs => match boolsOf xs with
    | some bs => .ok (.bl (bs.all id))
    | none => .stuck
  | .any, .lst _ xs => match boolsOf xs with
    | some bs => .ok (.bl (bs.any id))
    | none => .stuck
  | .isN, .non => .ok (.bl true)
  | .isN, .dead => .stuck
  | .isN, _ => .ok (.bl false)
  | .notN, .non => .ok (.bl false)
  | .notN, .dead => .stuck
  | .notN, _ => .ok (.bl true)
  | .isI k, d => d.isI k
  | .isB b, .bl a => .ok (.bl (decide (a = b)))
  | .notB b, .bl a => .ok (.bl (!decide (a = b)))
  | .rev, .lst _ xs => dnew xs.reverse
  | .lrg, .int j => guardR (decide (-100000 ≤ j) && decide (j ≤ 100000)) (.ok (.lst true (rngD 0 j.toNat)))
  | _, _ => .stuck
/-- the first place of an equal item -/
def firstAt (x : D) : List D → Nat → Option Nat
  | [], _ => none
  | y :: r, i => if D.eqv y x then some i else firstAt x r (i + 1)
def sem2 : Op2 → D → D → Res D
  | .add, .int i, .int j => .ok (.int (i + j))
  | .add, .str x, .str y => guardR (decide (x.length + y.length ≤ 100000)) (.ok (.str (x ++ y)))
  | .add, .lst _ xs, .lst _ ys => dnew (xs ++ ys)
  | .sub, .int i, .int j => .ok (.int (i - j))
  | .mul, .int i, .int j => guardR (decide (i.natAbs < 2 ^ 64) || decide (j.natAbs < 2 ^ 64)) (.ok (.int (i * j)))
  | .mul, .lst _ xs, .int k => guardR (decide (k.natAbs ≤ 100000)) (dnew (List.replicate k.toNat xs).flatten)
  | .mul, .str x, .int k => guardR (decide (k.natAbs ≤ 1000) && decide (x.length ≤ 100)) (.ok (.str (Txt.mul x k)))
  | .lrg2, .int i, .int j => guardR (decide (-50000 ≤ i) && decide (i ≤ 50000) && decide (-50000 ≤ j) && decide (j ≤ 50000)) (.ok (.lst true (rngD i (j - i).toNat)))
  | .fdiv, .int i, .int j => guardR (decide (0 < j) && decide (j < 1073741824)) (.ok (.int (i / j)))
  | .mod, .int i, .int j => guardR (decide (0 < j)) (.ok (.int (i % j)))
  | .pow, .int i, .int j => guardR (decide (0 ≤ j) && decide (j ≤ 1000000) && decide (i.natAbs < 2 ^ 64)) (.ok (.int (i ^ j.toNat)))
  | .lt, .int i, .int j => .ok (.bl (decide (i < j)))
  | .le, .int i, .int j => .ok (.bl (decide (i ≤ j)))
  | .gt, .int i, .int j => .ok (.bl (decide (j < i)))
  | .ge, .int i, .int j => .ok (.bl (decide (j ≤ i)))
  | .eq, a, b => guardR (a.eqOk && b.eqOk) (.ok (.bl (D.eqv a b)))
  | .ne, a, b => guardR (a.eqOk && b.eqOk) (.ok (.bl (!D.eqv a b)))
  | .isin, x, .lst o ys => guardR (x.eqOk && D.eqOk (.lst o ys)) (.ok (.bl (ys.any fun y => D.eqv y x)))
  | .isin, x, .tup o ys => guardR ((flatD x && ys.all flatD) || (x.eqOk && D.eqOk (.tup o ys))) (.ok (.bl (ys.any fun y => D.eqv y x)))
  | .isin, x, .dct _ t ks vs => guardR (x.okKey t) (.ok (.bl (dlook t x ks vs).isSome))
  | .nin, x, .lst o ys => guardR (x.eqOk && D.eqOk (.lst o ys)) (.ok (.bl (!ys.any fun y => D.eqv y x)))
  | .nin, x, .tup o ys => guardR ((flatD x && ys.all flatD) || (x.eqOk && D.eqOk (.tup o ys))) (.ok (.bl (!ys.any fun y => D.eqv y x)))
  | .nin, x, .dct _ t ks vs => guardR (x.okKey t) (.ok (.bl (!(dlook t x ks vs).isSome)))
  | .max, .int i, .int j => .ok (.int (if j > i then j else i))
  | .min, .int i, .int j => .ok (.int (if j < i then j else i))
  | .ix, .lst _ xs, .int i => match atI xs i with
    | some d => guardR d.isSh (.ok d)
    | none => .stuck
  | .ix, .tup _ xs, .int i => match atI xs i with
    | some d => guardR d.isSh (.ok d)
    | none => .stuck
  | .ix, .str x, .int i => match atI x.cps.toList i with
    | some c => guardR (decide (x.length ≤ 100000)) (.ok (.str ⟨#[c]⟩))
    | none => .stuck
  | .ix, .scr xs, .int i => match atI xs i with
    | some c => .ok (.int c)
    | none => .stuck
  | .ix, .dct _ t ks vs, x => match dlook t x ks vs with
    | some d => guardR (d.isSh && x.okKey t) (.ok d)
    | none => .stuck
  | .join, .str a, .lst _ xs => match strsOf xs with
    | some ys => guardR (decide ((ys.map (·.length)).sum + ys.length * a.length ≤ 100000)) (.ok (.str (Txt.join a ys)))
    | none => .stuck
  | .index, .lst o xs, y => guardR (flatD y && xs.all flatD) (match firstAt y xs 0 with
    | some i => .ok (.int (i : Int))
    | none => .stuck)
  | _, _, _ => .stuck
def sem3 : Op3 → D → D → D → Res D
  | .get2, .dct _ t ks vs, x, z => guardR (x.okKey t) (match dlook t x ks vs with
    | some d => guardR d.isSh (.ok d)
    | none => .ok z)
  | _, _, _, _ => .stuck
end MP
set_option Elab.async false
set_option linter.all false
set_option maxRecDepth 100000
namespace MP
open PySem L2
/-- a target: a name's slot, a pair, a triple -/
inductive Tg where
  | n (i : Nat)
  | p (a b : Tg)
  | t (a b c : Tg)
  deriving DecidableEq
/-- what is walked -/
inductive IK where
  | seq | str | rng1 | rng2 | enum | zip | revr
  deriving DecidableEq
inductive DE where
  | lit (d : D)
  | gl (n : Nat)
  | pk (i : Nat) | mv (i : Nat)
  | o1 (o : Op1) (a : DE)
  | o2 (o : Op2) (a b : DE)
  | mt (o : Op2) (a b : DE)
  | o3 (o : Op3) (a b c : DE)
  | ch2 (o p : Op2) (a b c : DE)
  | ch3 (o p q : Op2) (a b c d : DE)
  | sl (a lo hi : DE)
  | and (a b : DE) | or (a b : DE) | ite (c a b : DE)
  | edict (t : Bool)
  | nil | cons (a r : DE)
  | lst (as : DE) | tup (as : DE)
  | call (f : Nat) (as : DE)
  | fld (a : DE) (f : Str)
  | comp (k : IK) (src : DE) (tg : Tg) (own : List Nat) (c b : DE)
  | dict1 (a b : DE)
  | fz (a : DE)
  | dcomp (k : IK) (src : DE) (tg : Tg) (own : List Nat) (c a b : DE)
  | xfld (i : Nat) (f : Str) | xis (i k : Nat) | xisV (i : Nat)
/-- the slots that are moved out -/
def DE.movs : DE → List Nat
  | .mv i => [i]
  | .lst as => as.movs
  | .tup as => as.movs
  | .cons a r => a.movs ++ r.movs
  | .ite _ a b => []
  | _ => []
/-- the value is new (or moved), or holds no owned node -/
def DE.fr : DE → Bool
  | .pk _ => false
  | .fld _ _ => false
  | .ite c a b => false
  | .o3 _ a b c => c.fr
  | .xfld .. => false
  | _ => true
structure Tab where
  fn : Nat → List D → Res D
  gl : Nat → D
  isx : Nat → Nat → Option Bool := fun _ _ => none
def gd (δ : List D) (i : Nat) : D := δ.getD i .dead
def D.getF (d : D) (f : Str) : Option D := match d with
  | .obj _ _ ns vs => (ns.zip vs).lookup f
  | _ => none
def tgSet : Tg → D → List D → Option (List D)
  | .n i, d, δ => if i < δ.length then some (δ.set i d) else none
  | .p a b, .tup _ [x, y], δ => (tgSet a x δ).bind (tgSet b y)
  | .t a b c, .tup _ [x, y, z], δ => ((tgSet a x δ).bind (tgSet b y)).bind (tgSet c z)
  | _, _, _ => none
def wipeD (δ : List D) : List Nat → List D
  | [] => δ
  | v :: vs => (wipeD δ vs).set v .dead
def enumD : List D → Nat → List D
  | [], _ => []
  | x :: r, i => .tup false [.int (i : Nat), x] :: enumD r (i + 1)
def strD (x : Str) : List D := x.cps.toList.map fun c => .str ⟨#[c]⟩
def zipD : List D → List D → List D
  | x :: xs, y :: ys => .tup false [x, y] :: zipD xs ys
  | _, _ => []
/-- the items that are walked; as: the values of the source's parts; own: it may be owned by a name -/
def itemsOf (k : IK) (as : List D) : Option (List D) := match k, as with
  | .seq, [.lst _ xs] => some (D.flatL xs)
  | .seq, [.tup _ xs] => some (D.flatL xs)
  | .str, [.str x] => some (strD x)
  | .rng1, [.int j] => if -100000 ≤ j ∧ j ≤ 100000 then some (rngD 0 j.toNat) else none
  | .rng2, [.int i, .int j] => if -100000 ≤ i ∧ i ≤ 100000 ∧ -100000 ≤ j ∧ j ≤ 100000 then some (rngD i (j - i).toNat) else none
  | .enum, [.lst _ xs] => some (enumD (D.flatL xs) 0)
  | .enum, [.tup _ xs] => some (enumD (D.flatL xs) 0)
  | .enum, [.str x] => some (enumD (strD x) 0)
  | .zip, [.lst _ xs, .lst _ ys] => some (zipD (D.flatL xs) (D.flatL ys))
  | .revr, [.int j] => if -100000 ≤ j ∧ j ≤ 100000 then some (rngD 0 j.toNat).reverse else none
  | _, _ => none
/-- what a comprehension may walk: shared values, or one own list of shared items -/
def srcSh (k : IK) (xs : List D) : Bool := match k, xs with
  | .seq, [.lst true ys] => D.isShL ys
  | _, xs => D.isShL xs
/-- a comprehension's turns -/
def compL (tg : Tg) (δ : List D) (t : List D → Res D) (b : List D → Res D) : List D → Res (List D)
  | [] => .ok []
  | x :: r => match tgSet tg x δ with
    | none => .stuck
    | some δ1 => match t δ1 with
      | .ok (.bl true) => match b δ1 with
        | .ok y => match compL tg δ t b r with
          | .ok ys => .ok (y :: ys)
          | _ => .stuck
        | _ => .stuck
      | .ok (.bl false) => compL tg δ t b r
      | _ => .stuck
/-- a dict comprehension's turns -/
def compD (tg : Tg) (δ : List D) (t a b : List D → Res D) : List D → List D → List D → Res (List D × List D)
  | [], ks, vs => .ok (ks, vs)
  | x :: r, ks, vs => match tgSet tg x δ with
    | none => .stuck
    | some δ1 => match t δ1 with
      | .ok (.bl true) => match a δ1 with
        | .ok y => match b δ1 with
          | .ok z => if y.okKey false && z.isSh then compD tg δ t a b r (dput false y z ks vs).1 (dput false y z ks vs).2 else .stuck
          | _ => .stuck
        | _ => .stuck
      | .ok (.bl false) => compD tg δ t a b r ks vs
      | _ => .stuck
def tkOk (fr : Bool) (r : Res D) : Res D := match r with
  | .ok d => guardR (fr || d.isSh) (.ok d)
  | r => r
/-- what a call hands back; where a name's own list was lent, only what does not lean on it -/
def callOut (sh : Bool) (r : Res D) : Res D := match r with
  | .ok d => guardR (sh || d.leaf) (.ok d)
  | .exc x => guardR sh (.exc x)
  | .stuck => .stuck
def recv (o : Op2) (x : D) : Bool := match o, x with
  | .index, .lst .. => true
  | .join, .str _ => true
  | _, _ => false
def D.isD : D → Bool
  | .dct .. => true
  | _ => false
def cmpR (o : Op2) : Bool := match o with
  | .lt | .le | .gt | .ge => true
  | _ => false
def cutD (xs : List D) (lo hi : Option Int) : List D := (xs.drop (HT.sIx xs.length 0 lo)).take (HT.sIx xs.length xs.length hi - HT.sIx xs.length 0 lo)
/-- a part of a slice: left out, or an int -/
def partD (no : Bool) (d : D) : Option (Option Int) := match no, d with
  | true, _ => some none
  | false, .int i => some (some i)
  | _, _ => none
def DE.noPart : DE → Bool
  | .lit .non => true
  | _ => false
def semSl (b c : Bool) (a lo hi : D) : Res D := match a, partD b lo, partD c hi with
  | .lst _ xs, some l, some h => guardR (D.isShL xs) (dnew (cutD xs l h))
  | _, _, _ => .stuck
/-- a display's items are frozen where nothing is moved -/
def dispL (b : Bool) (xs : List D) : D := match b with
  | true => .lst true (D.flatL xs)
  | false => .lst true xs
def dispT (b : Bool) (xs : List D) : D := match b with
  | true => .tup false (D.flatL xs)
  | false => .tup (!D.isShL xs) xs
mutual
def evalE (Φ : Tab) : DE → List D → Res D
  | .lit d, _ => .ok d
  | .gl n, _ => .ok (Φ.gl n)
  | .pk i, δ => match gd δ i with
    | .dead => .stuck
    | d => .ok d
  | .mv i, δ => match gd δ i with
    | .dead => .stuck
    | d => .ok d
  | .o1 o a, δ => (evalE Φ a δ).bind (sem1 o)
  | .o2 o a b, δ => (evalE Φ a δ).bind fun x => (evalE Φ b δ).bind fun y => sem2 o x y
  | .mt o a b, δ => (evalE Φ a δ).bind fun x => guardR (recv o x) ((evalE Φ b δ).bind fun y => sem2 o x y)
  | .o3 o a b c, δ => (evalE Φ a δ).bind fun x => guardR x.isD ((evalE Φ b δ).bind fun y => (tkOk c.fr (evalE Φ c δ)).bind fun z => sem3 o x y z)
  | .ch2 o p a b c, δ => (evalE Φ a δ).bind fun x => (evalE Φ b δ).bind fun y => (sem2 o x y).bind fun z => match z with
    | .bl true => (evalE Φ c δ).bind fun w => sem2 p y w
    | .bl false => .ok (.bl false)
    | _ => .stuck
  | .ch3 o p q a b c d, δ => (evalE Φ a δ).bind fun x => (evalE Φ b δ).bind fun y => (sem2 o x y).bind fun z => match z with
    | .bl true => (evalE Φ c δ).bind fun w => (sem2 p y w).bind fun z => match z with
      | .bl true => (evalE Φ d δ).bind fun u => sem2 q w u
      | .bl false => .ok (.bl false)
      | _ => .stuck
    | .bl false => .ok (.bl false)
    | _ => .stuck
  | .sl a lo hi, δ => (evalE Φ a δ).bind fun x => (evalE Φ lo δ).bind fun y => guardR (partD lo.noPart y).isSome ((evalE Φ hi δ).bind fun z => guardR (partD hi.noPart z).isSome (semSl lo.noPart hi.noPart x y z))
  | .and a b, δ => (evalE Φ a δ).bind fun x => match x with
    | .bl true => (evalE Φ b δ).bind fun y => match y with
      | .bl k => .ok (.bl k)
      | _ => .stuck
    | .bl false => .ok (.bl false)
    | _ => .stuck
  | .or a b, δ => (evalE Φ a δ).bind fun x => match x with
    | .bl true => .ok (.bl true)
    | .bl false => (evalE Φ b δ).bind fun y => match y with
      | .bl k => .ok (.bl k)
      | _ => .stuck
    | _ => .stuck
  | .ite c a b, δ => (evalE Φ c δ).bind fun x => match x with
    | .bl true => evalE Φ a δ
    | .bl false => evalE Φ b δ
    | _ => .stuck
  | .edict t, _ => .ok (.dct true t [] [])
  | .nil, _ => .stuck
  | .cons _ _, _ => .stuck
  | .lst as, δ => (evalT Φ as δ).bind fun xs => guardR (decide (xs.length ≤ 100000)) (.ok (dispL as.movs.isEmpty xs))
  | .tup as, δ => (evalT Φ as δ).bind fun xs => guardR (decide (xs.length ≤ 100000)) (.ok (dispT as.movs.isEmpty xs))
  | .call f as, δ => (evalL Φ as δ).bind fun xs => callOut (D.isShL xs) (Φ.fn f (D.flatL xs))
  | .fld a f, δ => (evalE Φ a δ).bind fun x => match x.getF f with
    | some d => guardR d.isSh (.ok d)
    | none => .stuck
  | .comp k src tg own c b, δ => (evalL Φ src δ).bind fun xs => guardR (srcSh k xs) (match itemsOf k (D.flatL xs) with
    | some ys => match compL tg (wipeD δ own) (fun δ' => evalE Φ c δ') (fun δ' => guardR b.movs.isEmpty (tkOk b.fr (evalE Φ b δ'))) ys with
      | .ok zs => guardR (decide (ys.length ≤ 100000)) (.ok (.lst true (D.flatL zs)))
      | _ => .stuck
    | none => .stuck)
  | .fz a, δ => (evalE Φ a δ).bind fun x => .ok x.flat
  | .dict1 a b, δ => (evalE Φ a δ).bind fun x => (evalE Φ b δ).bind fun y => guardR (x.okKey false && y.isSh) (.ok (.dct true false [x] [y]))
  | .dcomp k src tg own c a b, δ => (evalL Φ src δ).bind fun xs => guardR (srcSh k xs) (match itemsOf k (D.flatL xs) with
    | some ys => match compD tg (wipeD δ own) (fun δ' => evalE Φ c δ') (fun δ' => evalE Φ a δ') (fun δ' => evalE Φ b δ') ys [] [] with
      | .ok zs => guardR (decide (ys.length ≤ 100000)) (.ok (.dct true false zs.1 zs.2))
      | _ => .stuck
    | none => .stuck)
  | .xfld i f, δ => match gd δ i with
    | .exn _ ns vs => match (ns.zip vs).lookup f with
      | some d => guardR d.isSh (.ok d)
      | none => .stuck
    | _ => .stuck
  | .xis i k, δ => match gd δ i with
    | .exn c _ _ => match Φ.isx c k with
      | some b => .ok (.bl b)
      | none => .stuck
    | _ => .stuck
  | .xisV i, δ => match gd δ i with
    | .exn .. => .ok (.bl true)
    | _ => .stuck
/-- a list of values, read only -/
def evalL (Φ : Tab) : DE → List D → Res (List D)
  | .nil, _ => .ok []
  | .cons a r, δ => (evalE Φ a δ).bind fun x => (evalL Φ r δ).bind fun xs => .ok ((bif a.fr then x.flat else x) :: xs)
  | _, _ => .stuck
/-- a list of values, taken -/
def evalT (Φ : Tab) : DE → List D → Res (List D)
  | .nil, _ => .ok []
  | .cons a r, δ => (tkOk a.fr (evalE Φ a δ)).bind fun x => (evalT Φ r δ).bind fun xs => .ok (x :: xs)
  | _, _ => .stuck
end
inductive SR where
  | nx (δ : List D) | rt (d : D) | bk (δ : List D) | ct (δ : List D) | exc (x : Exn) (δ : List D) | stuck
/-- the suite of an except clause: a tuple of constants and of the error's fields; returned, or stored -/
inductive HA where
  | lit (d : D) | xf (f : Str)
inductive HS where
  | ret (as : List HA) | retL (d : D) | asg (j : Nat) (as : List HA)
def HA.isLit : HA → Bool
  | .lit _ => true
  | .xf _ => false
def haFlds : List HA → List Str
  | [] => []
  | .xf f :: r => f :: haFlds r
  | .lit _ :: r => haFlds r
def HS.flds : HS → List Str
  | .ret as => haFlds as
  | .retL _ => []
  | .asg _ as => haFlds as
def HS.noX : HS → Bool
  | .ret as => as.all HA.isLit
  | .retL _ => true
  | .asg _ as => as.all HA.isLit
inductive DS where
  | nev
  | skip
  | seq (a b : DS)
  | asg (i : Nat) (e : DE)
  | asgT (t : Tg) (e : DE)
  | par (i j : Nat) (as : DE)
  | aug (i : Nat) (o : Op2) (e : DE)
  | ifs (c : DE) (a b : DS)
  | forS (k : IK) (src : DE) (tg : Tg) (b : DS)
  | whl (c : DE) (b : DS)
  | ret (e : DE) | retN | brk | cnt
  | expr (e : DE)
  | app (i : Nat) (e : DE)
  | appPop (j i : Nat) (k : DE)
  | setI (i : Nat) (k e : DE)
  | augI (i : Nat) (k : DE) (o : Op2) (e : DE)
  | rev (i : Nat) | clr (i : Nat) | ins (i : Nat) (a b : DE) | pop (i : Nat) (k : DE)
  | sdApp (i : Nat) (k e : DE)
  | rem (i : Nat) (a : DE)
  | setA (i : Nat) (f : Str) (e : DE)
  | dem (i : Nat)
  | whlN (i : Nat) (e : DE) (b : DS)
  | popL (i : Nat)
  | rse (c n : Nat) (as : DE)
  | tryA (c cC : Nat) (oi : Option Nat) (b : DS) (h : HS)
  | tryS (c cC : Nat) (oi : Option Nat) (b s : DS)
def kill (ms : List Nat) (δ : List D) : List D := match ms with
  | [] => δ
  | m :: r => (kill r δ).set m .dead
def nodupB : List Nat → Bool
  | [] => true
  | m :: r => !r.contains m && nodupB r
def SR.of {α : Type} (r : Res α) (δ : List D) (f : α → SR) : SR := match r with
  | .ok a => f a
  | .exc x => .exc x δ
  | .stuck => .stuck
def guardS (b : Bool) (r : SR) : SR := match b with
  | true => r
  | false => .stuck
def forL (tg : Tg) (b : List D → SR) : List D → List D → SR
  | [], δ => .nx δ
  | x :: r, δ => match tgSet tg x δ with
    | none => .stuck
    | some δ1 => match b δ1 with
      | .nx δ2 => forL tg b r δ2
      | .ct δ2 => forL tg b r δ2
      | .bk δ2 => .nx δ2
      | o => o
def whileL (t : List D → Res D) (b : List D → SR) : Nat → List D → SR
  | 0, _ => .stuck
  | n + 1, δ => match t δ with
    | .ok (.bl true) => match b δ with
      | .nx δ2 => whileL t b n δ2
      | .ct δ2 => whileL t b n δ2
      | .bk δ2 => .nx δ2
      | o => o
    | .ok (.bl false) => .nx δ
    | .ok _ => .stuck
    | .exc x => .exc x δ
    | .stuck => .stuck
def whileN (i : Nat) (fr : Bool) (ms : List Nat) (e : List D → Res D) (b : List D → SR) : Nat → List D → SR
  | 0, _ => .stuck
  | n + 1, δ => SR.of (tkOk fr (e δ)) δ fun d => guardS (decide (i < δ.length) && nodupB ms) (match d with
    | .dead => .stuck
    | .non => .nx ((kill ms δ).set i .non)
    | d => match b ((kill ms δ).set i d) with
      | .nx δ2 => whileN i fr ms e b n δ2
      | .ct δ2 => whileN i fr ms e b n δ2
      | .bk δ2 => .nx δ2
      | o => o)
def sdOne (y : D) : D → Option D
  | .lst true xs => if xs.length < 100000 ∧ D.isShL xs then some (.lst true (xs ++ [y])) else none
  | _ => none
def sdAdd (t : Bool) (x y : D) : List D → List D → Option (List D)
  | k :: ks, v :: vs => if D.sameKey t k x then (sdOne y v).map (· :: vs) else (sdAdd t x y ks vs).map (v :: ·)
  | _, _ => none
def rseR (c : Nat) : Res D → Res D
  | .exc x => if x.c = c then .exc x else .stuck
  | _ => .stuck
def hAtom (x : Exn) : HA → Option D
  | .lit d => some d
  | .xf f => (x.ns.zip x.vs).lookup f
def hAtoms (x : Exn) : List HA → Option (List D)
  | [] => some []
  | a :: r => match hAtom x a, hAtoms x r with
    | some d, some ds => some (d :: ds)
    | _, _ => none
def wipeI (oi : Option Nat) (δ : List D) : List D := match oi with
  | some i => δ.set i .dead
  | none => δ
def hsGo (x : Exn) (oi : Option Nat) (δ : List D) : HS → SR
  | .ret as => match hAtoms x as with
    | some ds => .rt (.tup false ds)
    | none => .stuck
  | .retL d => .rt d
  | .asg j as => match hAtoms x as with
    | some ds => guardS (decide (j < δ.length) && decide (oi ≠ some j)) (.nx ((wipeI oi δ).set j (.tup false ds)))
    | none => .stuck
def oiLt (oi : Option Nat) (δ : List D) : Bool := match oi with
  | some i => decide (i < δ.length)
  | none => true
def tryR (c : Nat) (oi : Option Nat) (h : HS) : SR → SR
  | .exc x δ => if x.c = c then guardS (oiLt oi δ) (hsGo x oi δ h) else .stuck
  | r => r
def setX (oi : Option Nat) (x : Exn) (δ : List D) : List D := match oi with
  | some i => δ.set i (.exn x.c x.ns x.vs)
  | none => δ
/-- a suite's end: the name is gone -/
def sxOut (oi : Option Nat) : SR → SR
  | .nx δ => guardS (D.noxL (wipeI oi δ)) (.nx (wipeI oi δ))
  | .bk δ => guardS (D.noxL (wipeI oi δ)) (.bk (wipeI oi δ))
  | .ct δ => guardS (D.noxL (wipeI oi δ)) (.ct (wipeI oi δ))
  | .rt d => guardS d.nox (.rt d)
  | _ => .stuck
def trySR (c : Nat) (oi : Option Nat) (g : List D → SR) : SR → SR
  | .exc x δ => if x.c = c then guardS (oiLt oi δ) (sxOut oi (g (setX oi x δ))) else .stuck
  | r => r
def evalS (Φ : Tab) (fuel : Nat) : DS → List D → SR
  | .nev, _ => .stuck
  | .skip, δ => .nx δ
  | .seq a b, δ => match evalS Φ fuel a δ with
    | .nx δ2 => evalS Φ fuel b δ2
    | o => o
  | .asg i e, δ => SR.of (tkOk e.fr (evalE Φ e δ)) δ fun d => guardS (decide (i < δ.length) && nodupB e.movs) (.nx ((kill e.movs δ).set i d))
  | .asgT t e, δ => SR.of (tkOk e.fr (evalE Φ e δ)) δ fun d => guardS (nodupB e.movs) (match tgSet t d (kill e.movs δ) with
    | some δ2 => .nx δ2
    | none => .stuck)
  | .par i j as, δ => SR.of (evalT Φ as δ) δ fun xs => match xs with
    | [x, y] => guardS (nodupB as.movs && decide (i < δ.length) && decide (j < δ.length) && decide (i ≠ j)) (.nx (((kill as.movs δ).set i x).set j y))
    | _ => .stuck
  | .aug i o e, δ => match gd δ i with
    | .int a => SR.of (evalE Φ e δ) δ fun y => match o, y with
      | .add, .int b => .nx (δ.set i (.int (a + b)))
      | .sub, .int b => .nx (δ.set i (.int (a - b)))
      | _, _ => .stuck
    | .lst true xs => SR.of (evalE Φ e δ) δ fun y => match o, y with
      | .add, .lst _ ys => guardS (decide (xs.length + ys.length ≤ 100000) && D.isShL xs && D.isShL ys) (.nx (δ.set i (.lst true (xs ++ ys))))
      | _, _ => .stuck
    | _ => .stuck
  | .ifs c a b, δ => SR.of (evalE Φ c δ) δ fun x => match x with
    | .bl true => evalS Φ fuel a δ
    | .bl false => evalS Φ fuel b δ
    | _ => .stuck
  | .forS k src tg b, δ => SR.of (evalL Φ src δ) δ fun xs => guardS (D.isShL xs) (match itemsOf k (D.flatL xs) with
    | some ys => forL tg (fun δ' => evalS Φ fuel b δ') ys δ
    | none => .stuck)
  | .whl c b, δ => whileL (fun δ' => evalE Φ c δ') (fun δ' => evalS Φ fuel b δ') fuel δ
  | .ret e, δ => SR.of (tkOk e.fr (evalE Φ e δ)) δ fun d => guardS (nodupB e.movs) (.rt d)
  | .retN, _ => .rt .non
  | .brk, δ => .bk δ
  | .cnt, δ => .ct δ
  | .expr e, δ => SR.of (evalE Φ e δ) δ fun _ => .nx δ
  | .app i e, δ => match gd δ i with
    | .lst true xs => SR.of (tkOk e.fr (evalE Φ e δ)) δ fun d => guardS (nodupB (i :: e.movs) && decide (xs.length < 100000)) (.nx ((kill e.movs δ).set i (.lst true (xs ++ [d.flat]))))
    | _ => .stuck
  | .appPop j i k, δ => match gd δ j, gd δ i with
    | .lst true ys, .lst true xs => SR.of (evalE Φ k δ) δ fun y => match y with
      | .int n => match xs[n.toNat]? with
        | some d => guardS (decide (i ≠ j) && D.isShL xs && decide (0 ≤ n) && decide (n ≤ 100000) && decide (ys.length < 100000)) (.nx ((δ.set i (.lst true (xs.eraseIdx n.toNat))).set j (.lst true (ys ++ [d]))))
        | none => .stuck
      | _ => .stuck
    | _, _ => .stuck
  | .setI i k e, δ => SR.of (evalE Φ e δ) δ fun d => match gd δ i with
    | .lst true xs => SR.of (evalE Φ k δ) δ fun x => match x with
      | .int n => match ixN xs.length n with
        | some j => guardS ((bif e.fr then e.movs.isEmpty else d.isSh) && D.isShL xs) (.nx (δ.set i (.lst true (xs.set j (bif e.fr then d.flat else d)))))
        | none => .stuck
      | _ => .stuck
    | .dct true t ks vs => SR.of (evalE Φ k δ) δ fun x => guardS (d.isSh && D.isShL vs && x.okKey t && x.isSh && decide (ks.length < 100000)) (.nx (δ.set i (.dct true t (dput t x d ks vs).1 (dput t x d ks vs).2)))
    | _ => .stuck
  | .augI i k o e, δ => match gd δ i with
    | .dct true t ks vs => SR.of (evalE Φ k δ) δ fun x => match dlook t x ks vs with
      | some (.int a) => guardS (D.isShL vs && x.okKey t && x.isSh && decide (ks.length < 100000)) (SR.of (evalE Φ e δ) δ fun y => match o, y with
        | .add, .int b => .nx (δ.set i (.dct true t (dput t x (.int (a + b)) ks vs).1 (dput t x (.int (a + b)) ks vs).2))
        | .sub, .int b => .nx (δ.set i (.dct true t (dput t x (.int (a - b)) ks vs).1 (dput t x (.int (a - b)) ks vs).2))
        | _, _ => .stuck)
      | _ => .stuck
    | _ => .stuck
  | .rev i, δ => match gd δ i with
    | .lst true ys => guardS (D.isShL ys) (.nx (δ.set i (.lst true ys.reverse)))
    | _ => .stuck
  | .clr i, δ => match gd δ i with
    | .lst true ys => .nx (δ.set i (.lst true []))
    | _ => .stuck
  | .ins i a b, δ => match gd δ i with
    | .lst true ys => SR.of (evalE Φ a δ) δ fun x => SR.of (tkOk b.fr (evalE Φ b δ)) δ fun y => match x with
      | .int n => guardS (D.isShL ys && decide (0 ≤ n) && decide (n ≤ 100000) && decide (ys.length < 100000)) (.nx (δ.set i (.lst true (ys.take n.toNat ++ (y.flat :: ys.drop n.toNat)))))
      | _ => .stuck
    | _ => .stuck
  | .pop i k, δ => match gd δ i with
    | .lst true xs => SR.of (evalE Φ k δ) δ fun y => match y with
      | .int n => guardS (D.isShL xs && decide (0 ≤ n) && decide (n ≤ 100000) && decide (n.toNat < xs.length)) (.nx (δ.set i (.lst true (xs.eraseIdx n.toNat))))
      | _ => .stuck
    | _ => .stuck
  | .sdApp i k e, δ => match gd δ i with
    | .dct true t ks vs => SR.of (evalE Φ k δ) δ fun x => match evalE Φ e (δ.set i .dead) with
      | .ok y => guardS (!t && x.okKey t && flatD y && decide (ks.length < 100000)) (match dlook t x ks vs with
        | some _ => match sdAdd t x y ks vs with
          | some vs' => .nx (δ.set i (.dct true t ks vs'))
          | none => .stuck
        | none => .nx (δ.set i (.dct true t (ks ++ [x]) (vs ++ [.lst true [y]]))))
      | _ => .stuck
    | _ => .stuck
  | .rem i a, δ => match gd δ i with
    | .lst true xs => SR.of (evalE Φ a δ) δ fun y => match y, intsOf xs with
      | .int k, some ns => guardS (ns.contains k) (.nx (δ.set i (.lst true ((ns.erase k).map .int))))
      | _, _ => .stuck
    | _ => .stuck
  | .setA i f e, δ => SR.of (tkOk e.fr (evalE Φ e δ)) δ fun d => match gd δ i with
    | .obj true c ns vs => guardS (nodupB (i :: e.movs) && !ns.contains f && decide (ns.length < 900)) (.nx ((kill e.movs δ).set i (.obj true c (ns ++ [f]) (vs ++ [d]))))
    | _ => .stuck
  | .dem i, δ => .nx (δ.set i (gd δ i).flat)
  | .whlN i e b, δ => whileN i e.fr e.movs (fun δ' => evalE Φ e δ') (fun δ' => evalS Φ fuel b δ') fuel δ
  | .popL i, δ => match gd δ i with
    | .lst true ys => guardS (D.isShL ys && !ys.isEmpty) (.nx (δ.set i (.lst true ys.dropLast)))
    | _ => .stuck
  | .rse c n as, δ => SR.of ((evalL Φ as δ).bind fun xs => guardR (D.isShL xs && decide (xs.length ≤ 900)) (rseR c (Φ.fn n xs))) δ fun _ => .stuck
  | .tryA c cC oi b h, δ => tryR c oi h (evalS Φ fuel b δ)
  | .tryS c cC oi b s, δ => trySR c oi (fun δ' => evalS Φ fuel s δ') (evalS Φ fuel b δ)
/-- a def's body on its arguments: n slots -/
def runF (Φ : Tab) (fuel n : Nat) (b : DS) (as : List D) : Res D := match evalS Φ fuel b (as ++ List.replicate (n - as.length) .dead) with
  | .nx _ => .ok .non
  | .rt d => .ok d
  | .exc x _ => .exc x
  | _ => .stuck
def initF (Φ : Tab) (fuel n : Nat) (b : DS) (c : Nat) (as : List D) : Res D := match evalS Φ fuel b (.obj true c [] [] :: (as ++ List.replicate (n - (as.length + 1)) .dead)) with
  | .nx δ => .ok (gd δ 0)
  | .exc x _ => .exc x
  | _ => .stuck
def xgoE (Φ : Tab) (δ : List D) : List (Str × DE) → List Str → List D → Option (List Str × List D)
  | [], ns, vs => some (ns, vs)
  | p :: r, ns, vs => match tkOk p.2.fr (evalE Φ p.2 δ) with
    | .ok d => xgoE Φ δ r (p.1 :: ns) (d.flat :: vs)
    | _ => none
def xiD (n : Nat) (as : List D) : List D := .dead :: (as ++ List.replicate (n - (as.length + 1)) .dead)
def xiF (Φ : Tab) (n c : Nat) (e0 : DE) (fs : List (Str × DE)) (as : List D) : Res D := match evalE Φ e0 (xiD n as) with
  | .ok _ => match xgoE Φ (xiD n as) fs [] [] with
    | some q => .exc ⟨c, q.1, q.2⟩
    | none => .stuck
  | _ => .stuck
end MP
set_option Elab.async false
set_option linter.all false
set_option maxRecDepth 100000
set_option maxHeartbeats 1000000
namespace MP
open PySem L2
theorem same_new {H : Hp} {p : Addr} {o : HO} (h : H p = none) : Same H (upd H p o) := fun b x e => by
  rw [upd_ne (ne_of_none e h)]
  exact e
/-- the frame grows, the heap grows; what is new in the frame is new in the heap -/
structure Gr (F H F' H' : Hp) : Prop where
  f : Same F F'
  h : Same H H'
  fh : Same F' H'
  new : ∀ p, F p = none → F' p ≠ none → H p = none
theorem Gr.refl {F H : Hp} (e : Same F H) : Gr F H F H := ⟨Same.refl _, Same.refl _, e, fun p a b => absurd a b⟩
theorem Gr.trans {F H F1 H1 F2 H2 : Hp} (a : Gr F H F1 H1) (b : Gr F1 H1 F2 H2) : Gr F H F2 H2 :=
  ⟨a.f.trans b.f, a.h.trans b.h, b.fh, fun p h1 h2 => by
    cases q : F1 p with
    | none => exact a.h.free (b.new p q h2)
    | some o => exact a.new p h1 (by rw [q]; exact fun z => nomatch z)⟩
/-- the heap alone grows -/
theorem Gr.heap {F H H' : Hp} (e : Same F H) (h : Same H H') : Gr F H F H' := ⟨Same.refl _, h, e.trans h, fun p a b => absurd a b⟩
/-- a new object, in the heap alone -/
theorem Gr.new1 {F H : Hp} {p : Addr} {o : HO} (e : Same F H) (n : H p = none) : Gr F H F (upd H p o) := .heap e (same_new n)
/-- .. in the frame too -/
theorem Gr.new2 {F H : Hp} {p : Addr} {o : HO} (e : Same F H) (n : H p = none) : Gr F H (upd F p o) (upd H p o) := by
  have nf : F p = none := e.free n
  refine ⟨same_new nf, same_new n, fun b x q => ?_, fun b a q => ?_⟩
  · by_cases hb : b = p
    · subst hb; rw [upd_same] at q ⊢; exact q
    · rw [upd_ne hb] at q ⊢; exact e b x q
  · by_cases hb : b = p
    · subst hb; exact n
    · rw [upd_ne hb] at q; exact absurd a q
section
variable {G : GX} {F H F' H' : Hp}
theorem Rep.gr {d : D} {v : V} {T : List Addr} (r : Rep G F H d v T) (g : Gr F H F' H') : Rep G F' H' d v T :=
  Rep.mono g.f d r fun p hp => by
    obtain ⟨a, b⟩ := Rep.own d r p hp
    have hn : F' p = none := by
      cases q : F' p with
      | none => rfl
      | some o => exact absurd (g.new p a (by rw [q]; exact fun z => nomatch z)) b
    refine ⟨hn, ?_⟩
    cases q : H p with
    | none => exact absurd q b
    | some o => exact g.h p o q
theorem Reps.gr {ds : List D} {vs : List V} {T : List Addr} (r : Reps G F H ds vs T) (g : Gr F H F' H') : Reps G F' H' ds vs T :=
  Reps.mono g.f ds r fun p hp => by
    obtain ⟨a, b⟩ := Reps.own ds r p hp
    have hn : F' p = none := by
      cases q : F' p with
      | none => rfl
      | some o => exact absurd (g.new p a (by rw [q]; exact fun z => nomatch z)) b
    refine ⟨hn, ?_⟩
    cases q : H p with
    | none => exact absurd q b
    | some o => exact g.h p o q
end
/-! ### the slots -/
def gv (σ : St) (i : Nat) : Option V := (σ[i]?).join
def SlotOk (G : GX) (F H : Hp) (d : D) (o : Option V) (S : List Addr) : Prop := (d = .dead ∧ S = []) ∨ ∃ v, o = some v ∧ Rep G F H d v S
structure Ok (G : GX) (F H : Hp) (σ : St) (δ : List D) (S : Nat → List Addr) : Prop where
  fh : Same F H
  len : σ.length = δ.length
  slot : ∀ i, SlotOk G F H (gd δ i) (gv σ i) (S i)
  nd : ∀ i, (S i).Nodup
  sep : ∀ i j p, p ∈ S i → p ∈ S j → i = j
section
variable {G : GX} {F H F' H' : Hp} {σ : St} {δ : List D} {S : Nat → List Addr}
theorem SlotOk.gr {d : D} {o : Option V} {T : List Addr} (k : SlotOk G F H d o T) (g : Gr F H F' H') : SlotOk G F' H' d o T := by
  rcases k with k | ⟨v, e, r⟩
  · exact .inl k
  · exact .inr ⟨v, e, r.gr g⟩
theorem Ok.gr (k : Ok G F H σ δ S) (g : Gr F H F' H') : Ok G F' H' σ δ S := ⟨g.fh, k.len, fun i => (k.slot i).gr g, k.nd, k.sep⟩
theorem Ok.get (k : Ok G F H σ δ S) {i : Nat} {d : D} (e : gd δ i = d) (hd : d ≠ .dead) : ∃ v, σ[i]? = some (some v) ∧ Rep G F H d v (S i) := by
  rcases k.slot i with ⟨a, _⟩ | ⟨v, a, r⟩
  · exact absurd (e.symm.trans a) hd
  · rw [e] at r
    refine ⟨v, ?_, r⟩
    unfold gv at a
    cases q : σ[i]? with
    | none => rw [q] at a; cases a
    | some o => rw [q] at a; exact congrArg some a
theorem Ok.own (k : Ok G F H σ δ S) {i : Nat} {p : Addr} (hp : p ∈ S i) : F p = none ∧ H p ≠ none := by
  rcases k.slot i with ⟨_, a⟩ | ⟨v, _, r⟩
  · rw [a] at hp; cases hp
  · exact Rep.own _ r p hp
end
/-! ### an exception's own dict -/
def XRep (G : GX) (F H : Hp) (x : Exn) (c : Value) (dx : Option Addr) (T : List Addr) : Prop :=
  c = .ref (G.cls x.c) ∧ ((x.ns = [] ∧ x.vs = [] ∧ T = [] ∧ dx = none) ∨ ∃ d fs, dx = some d ∧ H d = some (.xd fs) ∧ (∀ f, fs.lookup f = (x.ns.zip (fs.map (·.2))).lookup f) ∧ fs.map (·.1) = x.ns ∧ Reps G F H x.vs (fs.map (·.2)) [] ∧ T = [])
/-! ### what an expression's reading has to do -/
/-- the fresh parts: new in the heap, or of a moved slot -/
def Fre (H : Hp) (S : Nat → List Addr) (ms : List Nat) (T : List Addr) : Prop := T.Nodup ∧ ∀ p ∈ T, H p = none ∨ ∃ i ∈ ms, p ∈ S i
def PostE (G : GX) (W : WX) (F H : Hp) (σ : St) (S : Nat → List Addr) (fr : Bool) (ms : List Nat) (r : Res D) (Q : VK) : Prop := match r with
  | .ok d => ∀ v F' H' T, Gr F H F' H' → Rep G F' H' d v T → (fr = true → ms.Nodup → Fre H S ms T) → Q v H'
  | .exc x => ∀ c dx F' H' T, Gr F H F' H' → XRep G F' H' x c dx T → W c dx σ H'
  | .stuck => False
def PostL (G : GX) (W : WX) (F H : Hp) (σ : St) (S : Nat → List Addr) (fr : Bool) (ms : List Nat) (r : Res (List D)) (Q : List V → Hp → Prop) : Prop := match r with
  | .ok ds => ∀ vs F' H' T, Gr F H F' H' → Reps G F' H' ds vs T → (fr = true → ms.Nodup → Fre H S ms T) → Q vs H'
  | .exc x => ∀ c dx F' H' T, Gr F H F' H' → XRep G F' H' x c dx T → W c dx σ H'
  | .stuck => False
def DenE (G : GX) (W : WX) (t : TE) (φ : List D → Res D) (fr : Bool) (ms : List Nat) : Prop :=
  ∀ σ F H δ S Q, Ok G F H σ δ S → PostE G W F H σ S fr ms (φ δ) Q → t σ H Q
def DenL (G : GX) (W : WX) (t : TA) (φ : List D → Res (List D)) (fr : Bool) (ms : List Nat) : Prop :=
  ∀ σ F H δ S Q, Ok G F H σ δ S → PostL G W F H σ S fr ms (φ δ) Q → t σ H Q
section
variable {G : GX} {W : WX} {F H : Hp} {σ : St} {S : Nat → List Addr}
end
/-! ### composing -/
section
variable {G : GX} {W : WX} {ta tb tc : TE} {φ ψ χ : List D → Res D} {fr fr2 fr3 : Bool} {ms ms2 ms3 : List Nat}
/-- run a part, then the rest -/
theorem DenE.go (h : DenE G W ta φ fr ms) {σ : St} {F H : Hp} {δ : List D} {S : Nat → List Addr} {Q : VK} (k : Ok G F H σ δ S) {f : D → Res D} {fr' : Bool} {ms' : List Nat} {Q' : VK}
    (p : PostE G W F H σ S fr' ms' ((φ δ).bind f) Q') (n : ∀ d v F' H' T, φ δ = .ok d → Gr F H F' H' → Ok G F' H' σ δ S → Rep G F' H' d v T → (fr = true → ms.Nodup → Fre H S ms T) → PostE G W F H σ S fr' ms' (f d) Q' → Q v H') : ta σ H Q := by
  refine h σ F H δ S Q k ?_
  cases e : φ δ with
  | ok d =>
    rw [e] at p
    exact fun v F' H' T g r q => n d v F' H' T e g (k.gr g) r q p
  | exc x => rw [e] at p; exact p
  | stuck => rw [e] at p; exact p.elim
theorem DenL.go {t : TA} {φ : List D → Res (List D)} (h : DenL G W t φ fr ms) {σ : St} {F H : Hp} {δ : List D} {S : Nat → List Addr} {Q : List V → Hp → Prop} (k : Ok G F H σ δ S) {f : List D → Res D} {fr' : Bool} {ms' : List Nat} {Q' : VK}
    (p : PostE G W F H σ S fr' ms' ((φ δ).bind f) Q') (n : ∀ d v F' H' T, φ δ = .ok d → Gr F H F' H' → Ok G F' H' σ δ S → Reps G F' H' d v T → (fr = true → ms.Nodup → Fre H S ms T) → PostE G W F H σ S fr' ms' (f d) Q' → Q v H') : t σ H Q := by
  refine h σ F H δ S Q k ?_
  cases e : φ δ with
  | ok d =>
    rw [e] at p
    exact fun v F' H' T g r q => n d v F' H' T e g (k.gr g) r q p
  | exc x => rw [e] at p; exact p
  | stuck => rw [e] at p; exact p.elim
/-- behind a grown heap -/
theorem PostE.step {F H F' H' : Hp} {σ : St} {S : Nat → List Addr} {r : Res D} {Q : VK} (p : PostE G W F H σ S fr ms r Q) (g : Gr F H F' H') : PostE G W F' H' σ S fr ms r Q := by
  cases r with
  | ok d =>
    intro v F2 H2 T g2 rp q
    refine p v F2 H2 T (g.trans g2) rp fun a b => ?_
    obtain ⟨n1, n2⟩ := q a b
    exact ⟨n1, fun x hx => (n2 x hx).elim (fun z => .inl (g.h.free z)) .inr⟩
  | exc x => exact fun c dx F2 H2 T g2 xr => p c dx F2 H2 T (g.trans g2) xr
  | stuck => exact p
/-- the value of a shared datum, at once -/
theorem PostE.val {F H : Hp} {σ : St} {S : Nat → List Addr} {d : D} {Q : VK} (p : PostE G W F H σ S fr ms (.ok d) Q) {v : V} (e : Same F H) (r : Rep G F H d v []) : Q v H :=
  p v F H [] (.refl e) r fun _ _ => ⟨List.nodup_nil, fun p hp => nomatch hp⟩
theorem PostE.guard {F H : Hp} {σ : St} {S : Nat → List Addr} {b : Bool} {r : Res D} {Q : VK} (p : PostE G W F H σ S fr ms (guardR b r) Q) : b = true ∧ PostE G W F H σ S fr ms r Q := by
  cases b with
  | true => exact ⟨rfl, p⟩
  | false => exact p.elim
end
/-- what an operation on values has to end in -/
def PostV (G : GX) (F H : Hp) (r : Res D) (Q : VK) : Prop := match r with
  | .ok d => ∀ v F' H' T, Gr F H F' H' → Rep G F' H' d v T → T.Nodup → (∀ p ∈ T, H p = none) → Q v H'
  | _ => False
theorem PostV.guard {G : GX} {F H : Hp} {b : Bool} {r : Res D} {Q : VK} (p : PostV G F H (guardR b r) Q) : b = true ∧ PostV G F H r Q := by
  cases b with
  | true => exact ⟨rfl, p⟩
  | false => exact p.elim
/-- a shared datum, at once -/
theorem PostV.val {G : GX} {F H : Hp} {d : D} {Q : VK} (p : PostV G F H (.ok d) Q) {v : V} (e : Same F H) (r : Rep G F H d v []) : Q v H :=
  p v F H [] (.refl e) r List.nodup_nil fun p hp => nomatch hp
/-- an operation on two values, on one -/
def Den2 (G : GX) (r : R2) (f : D → D → Res D) : Prop := ∀ F H a b x y S T (Q : VK), Same F H → Rep G F H a x S → Rep G F H b y T →
  PostV G F H (f a b) Q → r x y H Q
def Den1 (G : GX) (r : V → Hp → VK → Prop) (f : D → Res D) : Prop := ∀ F H a x S (Q : VK), Same F H → Rep G F H a x S →
  PostV G F H (f a) Q → r x H Q
section
variable {G : GX} {W : WX} {ta tb : TE} {φ ψ : List D → Res D} {fr fr2 : Bool} {ms ms2 : List Nat}
/-- no operation raises -/
def Quiet1 (f : D → Res D) : Prop := ∀ a x, f a ≠ .exc x
def Quiet2 (f : D → D → Res D) : Prop := ∀ a b x, f a b ≠ .exc x
theorem post_to {F H : Hp} {σ : St} {S : Nat → List Addr} {r : Res D} {Q : VK} (p : PostE G W F H σ S fr ms r Q) (q : ∀ x, r ≠ .exc x) : PostV G F H r Q := by
  cases r with
  | ok d => exact fun v F' H' T g r a b => p v F' H' T g r fun _ _ => ⟨a, fun p hp => .inl (b p hp)⟩
  | exc x => exact q x rfl
  | stuck => exact p
theorem den_op2 {r : R2} {f : D → D → Res D} (ha : DenE G W ta φ fr ms) (hb : DenE G W tb ψ fr2 ms2) (hr : Den2 G r f) (q : Quiet2 f) :
    DenE G W (tOp r ta tb) (fun δ => (φ δ).bind fun x => (ψ δ).bind fun y => f x y) true [] := by
  intro σ F H δ S Q k p
  refine ha.go k p fun x v F1 H1 T1 e1 g1 k1 r1 _ p1 => ?_
  refine hb.go k1 (p1.step g1) fun y u F2 H2 T2 e2 g2 k2 r2 _ p2 => ?_
  exact hr F2 H2 x y v u T1 T2 Q g2.fh (r1.gr g2) r2 (post_to (p2.step g2) (q x y))
theorem den_op1 {r : V → Hp → VK → Prop} {f : D → Res D} (ha : DenE G W ta φ fr ms) (hr : Den1 G r f) (q : Quiet1 f) :
    DenE G W (tUn r ta) (fun δ => (φ δ).bind f) true [] := by
  intro σ F H δ S Q k p
  refine ha.go k p fun x v F1 H1 T1 e1 g1 k1 r1 _ p1 => ?_
  exact hr F1 H1 x v T1 Q g1.fh r1 (post_to (p1.step g1) (q x))
end
end MP
set_option Elab.async false
set_option linter.all false
set_option maxRecDepth 100000
set_option maxHeartbeats 1000000
namespace MP
open PySem L2
theorem lim_le {n : Nat} (h : n ≤ 100000) : n ≤ sizeLine := Evl.sz_of h
theorem lim_lt {n : Nat} (h : n < 100000) : n < sizeLine := Evl.sz_lt h
section
variable {G : GX} {F H : Hp}
theorem rep_lst {o : Bool} {xs : List D} {v : V} {T : List Addr} (e : Same F H) (r : Rep G F H (.lst o xs) v T) : ∃ p vs S, v = .ref p ∧ H p = some (.lst vs) ∧ Reps G F H xs vs S := by
  obtain ⟨p, vs, S, hv, hr, ha⟩ := r
  refine ⟨p, vs, S, hv, ?_, hr⟩
  cases o with
  | true => exact ha.1
  | false => exact e _ _ ha.1
theorem rep_lst0 {o : Bool} {xs : List D} {v : V} {T : List Addr} (e : Same F H) (r : Rep G F H (.lst o xs) v T) (k : D.isShL xs = true) : ∃ p vs, v = .ref p ∧ H p = some (.lst vs) ∧ Reps G F H xs vs [] := by
  obtain ⟨p, vs, S, a, b, c⟩ := rep_lst e r
  have z := Reps.shn _ c k
  subst z
  exact ⟨p, vs, a, b, c⟩
theorem rep_tup {o : Bool} {xs : List D} {v : V} {T : List Addr} (e : Same F H) (r : Rep G F H (.tup o xs) v T) : ∃ p vs S, v = .ref p ∧ SqT G.K H p vs ∧ Reps G F H xs vs S := by
  obtain ⟨p, vs, S, hv, hr, ha⟩ := r
  refine ⟨p, vs, S, hv, ?_, hr⟩
  cases o with
  | true => exact SqT.of ha.1
  | false => exact same_t e ha.1.sq
/-! ### as the library's data -/
mutual
theorem rep_dp (e : Same F H) : ∀ (d : D) {v : V} {T : List Addr}, Rep G F H d v T → d.dat = true → Dp G.K H v d.py
  | .dead, v, T, r, k => by simp [D.dat] at k
  | .non, v, T, r, k => by rw [r.1]; exact .non
  | .bl b, v, T, r, k => by rw [r.1]; exact .bl b
  | .int i, v, T, r, k => by rw [r.1]; exact .int i
  | .str x, v, T, r, k => by rw [r.1]; exact .str x
  | .lst o xs, v, T, r, k => by
    obtain ⟨p, vs, S, hv, hp, hr⟩ := rep_lst e r
    rw [hv]
    exact .lst (SqL.of hp) (reps_dp e xs hr (by simpa [D.dat] using k))
  | .tup o xs, v, T, r, k => by
    obtain ⟨p, vs, S, hv, hp, hr⟩ := rep_tup e r
    rw [hv]
    exact .tup hp (reps_dp e xs hr (by simpa [D.dat] using k))
  | .dct o t ks vs, v, T, r, k => by simp [D.dat] at k
  | .obj o c ns vs, v, T, r, k => by simp [D.dat] at k
  | .scr ns, v, T, r, k => by simp [D.dat] at k
theorem reps_dp (e : Same F H) : ∀ (ds : List D) {vs : List V} {T : List Addr}, Reps G F H ds vs T → D.datL ds = true → DpAll G.K H vs (D.pyL ds)
  | [], vs, T, r, k => by rw [r.1]; exact .nil
  | d :: r', vs, T, r, k => by
    obtain ⟨v, vr, S1, S2, e1, e2, h1, h2⟩ := r
    simp only [D.datL, Bool.and_eq_true] at k
    rw [e1]
    exact .cons (rep_dp e d h1 k.1) (reps_dp e r' h2 k.2)
end
/-! ### new things -/
theorem PostV.lst {xs : List D} {vs : List V} {Q : VK} (q : PostV G F H (dnew xs) Q) (e : Same F H) (r : D.isShL xs = true → Reps G F H xs vs []) : vs.length = xs.length → vs.length ≤ sizeLine ∧ ∀ p, H p = none → Q (.ref p) (upd H p (.lst vs)) := fun hl => by
  obtain ⟨b, q⟩ := PostV.guard q
  rw [Bool.and_eq_true] at b
  have hz : xs.length ≤ 100000 := of_decide_eq_true b.1
  refine ⟨lim_le (by omega), fun p hp => ?_⟩
  have g : Gr F H F (upd H p (.lst vs)) := .new1 e hp
  exact q (.ref p) F _ [p] g ⟨p, vs, [], rfl, (r b.2).gr g, upd_same, e.free hp, rfl⟩ (by simp) fun x hx => by rw [List.mem_singleton.mp hx]; exact hp
/-! ### + -/
abbrev rAddA : R2 := fun x y H Q => (rI0 fun i j => .int (i + j)) x y H Q ∨ (∃ i j, x = .str i ∧ y = .str j ∧ i.length + j.length ≤ sizeLine ∧ Q (.str (i ++ j)) H) ∨ rCat x y H Q
theorem op_addA {X : Cx} : OpR X (binaryOp .Add) rAddA := op_add.or (op_add_str.or op_cat)
theorem dn_add : Den2 G rAddA (sem2 .add) := by
  intro F H a b x y S T Q e ra rb q
  cases a with
  | int i =>
    cases b with
    | int j => exact .inl ⟨i, j, ra.1, rb.1, q.val e ⟨rfl, rfl⟩⟩
    | _ => exact q.elim
  | str i =>
    cases b with
    | str j =>
      obtain ⟨h, q⟩ := PostV.guard q
      exact .inr (.inl ⟨i, j, ra.1, rb.1, lim_le (of_decide_eq_true h), q.val e ⟨rfl, rfl⟩⟩)
    | _ => exact q.elim
  | lst o xs =>
    cases b with
    | lst o2 ys =>
      have q : PostV G F H (dnew (xs ++ ys)) Q := q
      have k : D.isShL xs = true ∧ D.isShL ys = true := by
        have h := (PostV.guard q).1
        rw [Bool.and_eq_true] at h
        have : ∀ l : List D, D.isShL (l ++ ys) = (D.isShL l && D.isShL ys) := fun l => by
          induction l with
          | nil => simp [D.isShL]
          | cons d r ih => simp [D.isShL, ih, Bool.and_assoc]
        rw [this, Bool.and_eq_true] at h
        exact h.2
      obtain ⟨p, vs, rfl, hp, r1⟩ := rep_lst0 e ra k.1
      obtain ⟨p2, ws, rfl, hp2, r2⟩ := rep_lst0 e rb k.2
      have hl : (vs ++ ws).length = (xs ++ ys).length := by simp [r1.len, r2.len]
      obtain ⟨z, q⟩ := PostV.lst q e (fun _ => r1.app0 r2) hl
      exact .inr (.inr ⟨p, p2, vs, ws, rfl, rfl, hp, hp2, by simpa using z, q⟩)
    | _ => exact q.elim
  | _ => exact q.elim
theorem dn_sub : Den2 G (rI0 fun i j => .int (i - j)) (sem2 .sub) := by
  intro F H a b x y S T Q e ra rb q
  cases a with
  | int i =>
    cases b with
    | int j => exact ⟨i, j, ra.1, rb.1, q.val e ⟨rfl, rfl⟩⟩
    | _ => exact q.elim
  | _ => exact q.elim
theorem isShL_app (l m : List D) : D.isShL (l ++ m) = (D.isShL l && D.isShL m) := by
  induction l with
  | nil => simp [D.isShL]
  | cons d r ih => simp [D.isShL, ih, Bool.and_assoc]
theorem isShL_rep {xs : List D} : ∀ {n : Nat}, D.isShL (List.replicate (n + 1) xs).flatten = true → D.isShL xs = true := fun {n} h => by
  rw [List.replicate_succ, List.flatten_cons, isShL_app, Bool.and_eq_true] at h
  exact h.1
theorem reps_rep {xs : List D} {vs : List V} (r : Reps G F H xs vs []) : ∀ n : Nat, Reps G F H (List.replicate n xs).flatten (List.replicate n vs).flatten []
  | 0 => Reps.nil
  | n + 1 => by
    rw [List.replicate_succ, List.replicate_succ, List.flatten_cons, List.flatten_cons]
    exact r.app0 (reps_rep r n)
theorem len_rep {α β : Type} {xs : List α} {vs : List β} (h : vs.length = xs.length) : ∀ n : Nat, (List.replicate n vs).flatten.length = (List.replicate n xs).flatten.length
  | 0 => rfl
  | n + 1 => by
    rw [List.replicate_succ, List.replicate_succ, List.flatten_cons, List.flatten_cons, List.length_append, List.length_append, h, len_rep h n]
theorem len_rep' {α : Type} (xs : List α) : ∀ n : Nat, (List.replicate n xs).flatten.length = xs.length * n
  | 0 => by simp
  | n + 1 => by
    rw [List.replicate_succ, List.flatten_cons, List.length_append, len_rep' xs n, Nat.mul_succ, Nat.add_comm]
abbrev rMulS : R2 := fun x y H Q => ∃ (a : Str) (k : Int), x = .str a ∧ y = .int k ∧ MulOk a k ∧ Q (.str (Txt.mul a k)) H
theorem op_mulS {X : Cx} : OpR X (binaryOp .Mult) rMulS := by
  intro pins s σ H x y v u Q I rx ry h
  obtain ⟨a, k, rfl, rfl, hk, q⟩ := h
  obtain ⟨t, rfl⟩ := rx
  obtain ⟨t', rfl⟩ := ry
  exact SB.mul hk fun t2 k2 => ⟨.str (Txt.mul a k), H, I.tok _, ⟨_, rfl⟩, q⟩
theorem mulS_ok {x : Str} {k : Int} (h1 : k.natAbs ≤ 1000) (h2 : x.length ≤ 100) : MulOk x k := by
  refine ⟨?_, fun hk _ => ?_, fun hk _ => ?_⟩
  · rw [Bool.or_eq_false_iff]
    exact ⟨decide_eq_false (by omega), decide_eq_false (by omega)⟩
  · have hk : 0 < k := by omega
    intro h
    have : (x.length : Int) ≤ (2 ^ 63 - 1) / k := by
      rw [Int.le_ediv_iff_mul_le hk]
      have e : (x.length : Int) * k ≤ 100 * 1000 := Int.mul_le_mul (by omega) (by omega) (by omega) (by omega)
      omega
    omega
  · unfold Builtin.Str.tooLong
    apply decide_eq_false
    have e : x.length * k.toNat ≤ 100 * 1000 := Nat.mul_le_mul h2 (by omega)
    show ¬ (x.length * k.toNat > sizeLine)
    have := lim_le (n := x.length * k.toNat) (by omega)
    omega
abbrev rMulA : R2 := fun x y H Q => (rI CMul fun i j => .int (i * j)) x y H Q ∨ rRep x y H Q ∨ rMulS x y H Q
theorem op_mulA {X : Cx} : OpR X (binaryOp .Mult) rMulA := op_mul.or (op_rep.or op_mulS)
theorem dn_mul : Den2 G rMulA (sem2 .mul) := by
  intro F H a b x y S T Q e ra rb q
  cases a with
  | int i =>
    cases b with
    | int j =>
      obtain ⟨h, q⟩ := PostV.guard q
      refine .inl ⟨i, j, ra.1, rb.1, ?_, q.val e ⟨rfl, rfl⟩⟩
      rw [Bool.or_eq_true] at h
      rcases h with h | h
      · have h := of_decide_eq_true h
        exact .inl (by omega)
      · have h := of_decide_eq_true h
        exact .inr (by omega)
    | _ => exact q.elim
  | lst o xs =>
    cases b with
    | int k =>
      obtain ⟨h, q⟩ := PostV.guard q
      have h := of_decide_eq_true h
      obtain ⟨p, vs, S', rfl, hp, r1⟩ := rep_lst e ra
      have hl : (List.replicate k.toNat vs).flatten.length = (List.replicate k.toNat xs).flatten.length := len_rep r1.len _
      obtain ⟨z, q⟩ := PostV.lst q e (fun z => by
        cases hk : k.toNat with
        | zero => exact Reps.nil
        | succ n =>
          rw [hk] at z
          have z2 := Reps.shn _ r1 (isShL_rep z)
          subst z2
          exact reps_rep r1 _) hl
      refine .inr (.inl ⟨p, k, vs, rfl, rb.1, hp, by omega, by omega, ?_, q⟩)
      rw [← len_rep']
      exact z
    | _ => exact q.elim
  | str x =>
    cases b with
    | int k =>
      obtain ⟨h, q⟩ := PostV.guard q
      rw [Bool.and_eq_true] at h
      exact .inr (.inr ⟨x, k, ra.1, rb.1, mulS_ok (of_decide_eq_true h.1) (of_decide_eq_true h.2), q.val e ⟨rfl, rfl⟩⟩)
    | _ => exact q.elim
  | _ => exact q.elim
theorem dn_fdiv : Den2 G (rI CDiv fun i j => .int (i / j)) (sem2 .fdiv) := by
  intro F H a b x y S T Q e ra rb q
  cases a with
  | int i =>
    cases b with
    | int j =>
      obtain ⟨h, q⟩ := PostV.guard q
      rw [Bool.and_eq_true] at h
      exact ⟨i, j, ra.1, rb.1, ⟨of_decide_eq_true h.1, of_decide_eq_true h.2⟩, q.val e ⟨rfl, rfl⟩⟩
    | _ => exact q.elim
  | _ => exact q.elim
theorem dn_mod : Den2 G (rI (fun _ j => 0 < j) fun i j => .int (i % j)) (sem2 .mod) := by
  intro F H a b x y S T Q e ra rb q
  cases a with
  | int i =>
    cases b with
    | int j =>
      obtain ⟨h, q⟩ := PostV.guard q
      exact ⟨i, j, ra.1, rb.1, of_decide_eq_true h, q.val e ⟨rfl, rfl⟩⟩
    | _ => exact q.elim
  | _ => exact q.elim
theorem dn_pow : Den2 G (rI CPow fun i j => .int (i ^ j.toNat)) (sem2 .pow) := by
  intro F H a b x y S T Q e ra rb q
  cases a with
  | int i =>
    cases b with
    | int j =>
      obtain ⟨h, q⟩ := PostV.guard q
      rw [Bool.and_eq_true, Bool.and_eq_true] at h
      exact ⟨i, j, ra.1, rb.1, ⟨of_decide_eq_true h.1.1, of_decide_eq_true h.1.2, of_decide_eq_true h.2⟩, q.val e ⟨rfl, rfl⟩⟩
    | _ => exact q.elim
  | _ => exact q.elim
theorem dn_cmp {o : Op2} {p : Int → Int → Bool} (h1 : ∀ i j, sem2 o (.int i) (.int j) = .ok (.bl (p i j))) (h2 : ∀ a b, (∀ i j, a = .int i → b = .int j → False) → sem2 o a b = .stuck) : Den2 G (rI0 fun i j => .bl (p i j)) (sem2 o) := by
  intro F H a b x y S T Q e ra rb q
  by_cases k : ∃ i j, a = .int i ∧ b = .int j
  · obtain ⟨i, j, rfl, rfl⟩ := k
    rw [h1] at q
    exact ⟨i, j, ra.1, rb.1, q.val e ⟨rfl, rfl⟩⟩
  · rw [h2 a b fun i j h h' => k ⟨i, j, h, h'⟩] at q
    exact q.elim
theorem dn_lt : Den2 G (rI0 fun i j => .bl (decide (i < j))) (sem2 .lt) := dn_cmp (fun _ _ => rfl) fun a b h => by
  cases a <;> cases b <;> first | rfl | exact (h _ _ rfl rfl).elim
theorem dn_le : Den2 G (rI0 fun i j => .bl (decide (i ≤ j))) (sem2 .le) := dn_cmp (fun _ _ => rfl) fun a b h => by
  cases a <;> cases b <;> first | rfl | exact (h _ _ rfl rfl).elim
theorem dn_gt : Den2 G (rI0 fun i j => .bl (decide (j < i))) (sem2 .gt) := dn_cmp (fun _ _ => rfl) fun a b h => by
  cases a <;> cases b <;> first | rfl | exact (h _ _ rfl rfl).elim
theorem dn_ge : Den2 G (rI0 fun i j => .bl (decide (j ≤ i))) (sem2 .ge) := dn_cmp (fun _ _ => rfl) fun a b h => by
  cases a <;> cases b <;> first | rfl | exact (h _ _ rfl rfl).elim
theorem eqOk_and {a : D} (h : a.eqOk = true) : a.dat = true ∧ SeqAt.shaped a.py = true := by
  unfold D.eqOk at h
  rwa [Bool.and_eq_true] at h
theorem dn_eq : Den2 G (rEqD G.K) (sem2 .eq) := by
  intro F H a b x y S T Q e ra rb q
  have q : PostV G F H (guardR (a.eqOk && b.eqOk) (.ok (.bl (D.eqv a b)))) Q := by cases a <;> exact q
  obtain ⟨h, q⟩ := PostV.guard q
  rw [Bool.and_eq_true] at h
  obtain ⟨a1, a2⟩ := eqOk_and h.1
  obtain ⟨b1, b2⟩ := eqOk_and h.2
  exact ⟨a.py, b.py, rep_dp e a ra a1, rep_dp e b rb b1, a2, b2, q.val e ⟨rfl, rfl⟩⟩
theorem dn_ne : Den2 G (rNeD G.K) (sem2 .ne) := by
  intro F H a b x y S T Q e ra rb q
  have q : PostV G F H (guardR (a.eqOk && b.eqOk) (.ok (.bl (!D.eqv a b)))) Q := by cases a <;> exact q
  obtain ⟨h, q⟩ := PostV.guard q
  rw [Bool.and_eq_true] at h
  obtain ⟨a1, a2⟩ := eqOk_and h.1
  obtain ⟨b1, b2⟩ := eqOk_and h.2
  exact ⟨a.py, b.py, rep_dp e a ra a1, rep_dp e b rb b1, a2, b2, q.val e ⟨rfl, rfl⟩⟩
end
end MP
set_option Elab.async false
set_option linter.all false
set_option maxRecDepth 100000
set_option maxHeartbeats 1000000
namespace MP
open PySem L2
section
variable {G : GX} {F H : Hp}
/-! ### keys -/
theorem key_val {x : D} {k : Key} {v : V} {T : List Addr} (r : Rep G F H x v T) (h : x.key = some k) : v = kV k := by
  cases x with
  | int i =>
    obtain rfl : Sum.inl i = k := Option.some.inj h
    exact r.1
  | str i =>
    obtain rfl : Sum.inr i = k := Option.some.inj h
    exact r.1
  | _ => cases h
theorem keys_val : ∀ {xs : List D} {ks : List Key} {vs : List V} {T : List Addr}, Reps G F H xs vs T → keysOf xs = some ks → vs = ks.map kV
  | [], ks, vs, T, r, h => by
    obtain rfl : [] = ks := Option.some.inj h
    exact r.1
  | d :: r', ks, vs, T, r, h => by
    obtain ⟨v, vr, S1, S2, e1, e2, h1, h2⟩ := r
    unfold keysOf at h
    split at h
    · rename_i k kr hk hkr
      obtain rfl : k :: kr = ks := Option.some.inj h
      rw [e1, key_val h1 hk, keys_val h2 hkr]
      rfl
    · cases h
theorem keyT_shape {x : D} {ks : List Key} (h : x.keyT = some ks) : ∃ i r, x = .tup false (.int i :: r) ∧ keysOf (.int i :: r) = some ks := by
  unfold D.keyT at h
  split at h
  · rename_i xs
    split at h
    · rename_i i r
      exact ⟨i, r, rfl, h⟩
    · cases h
  · cases h
theorem keyT_val {x : D} {ks : List Key} {v : V} {T : List Addr} (e : Same F H) (r : Rep G F H x v T) (h : x.keyT = some ks) : ∃ b, v = .ref b ∧ H b = some (.tup (ks.map kV)) := by
  obtain ⟨i, rr, rfl, hk⟩ := keyT_shape h
  obtain ⟨p, vs, S, hv, hr, ha⟩ := r
  have ev := keys_val hr hk
  have hs : TupR G.K F p vs := ha.1
  rcases hs with hs | ⟨_, hn⟩
  · exact ⟨p, hv, by rw [← ev]; exact e _ _ hs⟩
  · obtain ⟨v0, vr, S1, S2, e1, e2, h1, h2⟩ := hr
    rw [e1, show v0 = .int i from h1.1] at hn
    simp [noInt] at hn
theorem keyD_key (k : Key) : (keyD k).key = some k := by cases k <;> rfl
theorem keysOf_map : ∀ ks : List Key, keysOf (ks.map keyD) = some ks
  | [] => rfl
  | k :: r => by
    show (match (keyD k).key, keysOf (r.map keyD) with | some k, some ks => some (k :: ks) | _, _ => none) = _
    rw [keyD_key, keysOf_map r]
/-! ### looking up -/
theorem look_k {x : D} {k : Key} (hx : x.key = some k) : ∀ {kvs : List (Key × V)} {vs : List D} {T : List Addr}, Reps G F H vs (kvs.map (·.2)) T →
    (∀ d, dlook false x (kvs.map fun kv => keyD kv.1) vs = some d → ∃ v T', valV kvs k = some v ∧ Rep G F H d v T' ∧ (T = [] → T' = [])) ∧ (dlook false x (kvs.map fun kv => keyD kv.1) vs = none → valV kvs k = none)
  | [], vs, T, r => ⟨fun d h => by simp [dlook] at h, fun _ => rfl⟩
  | (k', v') :: rest, vs, T, r => by
    cases vs with
    | nil => exact absurd r.1 (by simp)
    | cons d' vs =>
      obtain ⟨v, vr, S1, S2, e1, e2, h1, h2⟩ := r
      injection e1 with ea eb
      subst ea eb
      have ih := look_k hx (kvs := rest) h2
      have hs : D.sameKey false (keyD k') x = decide (k' = k) := by
        unfold D.sameKey
        rw [keyD_key, hx]
        by_cases q : k' = k
        · simp [q]
        · simp [q]
      show (∀ d, (if D.sameKey false (keyD k') x = true then some d' else dlook false x (rest.map fun kv => keyD kv.1) vs) = some d → _) ∧ ((if D.sameKey false (keyD k') x = true then some d' else dlook false x (rest.map fun kv => keyD kv.1) vs) = none → _)
      rw [hs]
      by_cases q : k' = k
      · rw [decide_eq_true q, if_pos rfl]
        refine ⟨fun d h => ?_, fun h => by cases h⟩
        cases h
        exact ⟨v', S1, valV_pos q, h1, fun z => by rw [e2] at z; exact (List.append_eq_nil_iff.mp z).1⟩
      · rw [decide_eq_false q, if_neg Bool.false_ne_true]
        have e3 : valV ((k', v') :: rest) k = valV rest k := valV_neg q
        rw [e3]
        refine ⟨fun d h => ?_, ih.2⟩
        obtain ⟨v, T', a, b, c⟩ := ih.1 d h
        exact ⟨v, T', a, b, fun z => c (by rw [e2] at z; exact (List.append_eq_nil_iff.mp z).2)⟩
theorem look_t {x : D} {k : List Key} (hx : x.keyT = some k) : ∀ {kvs : List (List Key × V)} {vs : List D} {T : List Addr}, Reps G F H vs (kvs.map (·.2)) T →
    (∀ d, dlook true x (kvs.map fun kv => D.tup false (kv.1.map keyD)) vs = some d → ∃ v T', valV kvs k = some v ∧ Rep G F H d v T' ∧ (T = [] → T' = [])) ∧ (dlook true x (kvs.map fun kv => D.tup false (kv.1.map keyD)) vs = none → valV kvs k = none)
  | [], vs, T, r => ⟨fun d h => by simp [dlook] at h, fun _ => rfl⟩
  | (k', v') :: rest, vs, T, r => by
    cases vs with
    | nil => exact absurd r.1 (by simp)
    | cons d' vs =>
      obtain ⟨v, vr, S1, S2, e1, e2, h1, h2⟩ := r
      injection e1 with ea eb
      subst ea eb
      have ih := look_t hx (kvs := rest) h2
      have hs : D.sameKey true (D.tup false (k'.map keyD)) x = decide (k' = k) := by
        obtain ⟨i, rr, rfl, hk⟩ := keyT_shape hx
        show (decide ((D.tup false (k'.map keyD)).keyT = (D.tup false (.int i :: rr)).keyT) && (D.tup false (.int i :: rr)).keyT.isSome) = _
        rw [hx]
        show (decide ((D.tup false (k'.map keyD)).keyT = some k) && true) = _
        rw [Bool.and_true]
        by_cases q : k' = k
        · rw [decide_eq_true q]
          apply decide_eq_true
          have hk0 : ∃ kr, k = .inl i :: kr := by
            unfold keysOf at hk
            split at hk
            · rename_i a b ha hb
              cases ha
              exact ⟨b, (Option.some.inj hk).symm⟩
            · cases hk
          obtain ⟨kr, rfl⟩ := hk0
          rw [q]
          show keysOf ((Sum.inl i :: kr : List Key).map keyD) = _
          exact keysOf_map _
        · rw [decide_eq_false q]
          apply decide_eq_false
          intro z
          obtain ⟨j, r2, z1, z2⟩ := keyT_shape z
          injection z1 with _ z1
          rw [← z1, keysOf_map] at z2
          exact q (Option.some.inj z2)
      show (∀ d, (if D.sameKey true (D.tup false (k'.map keyD)) x = true then some d' else dlook true x (rest.map fun kv => D.tup false (kv.1.map keyD)) vs) = some d → _) ∧ ((if D.sameKey true (D.tup false (k'.map keyD)) x = true then some d' else dlook true x (rest.map fun kv => D.tup false (kv.1.map keyD)) vs) = none → _)
      rw [hs]
      by_cases q : k' = k
      · rw [decide_eq_true q, if_pos rfl]
        refine ⟨fun d h => ?_, fun h => by cases h⟩
        cases h
        exact ⟨v', S1, valV_pos q, h1, fun z => by rw [e2] at z; exact (List.append_eq_nil_iff.mp z).1⟩
      · rw [decide_eq_false q, if_neg Bool.false_ne_true]
        have e3 : valV ((k', v') :: rest) k = valV rest k := valV_neg q
        rw [e3]
        refine ⟨fun d h => ?_, ih.2⟩
        obtain ⟨v, T', a, b, c⟩ := ih.1 d h
        exact ⟨v, T', a, b, fun z => c (by rw [e2] at z; exact (List.append_eq_nil_iff.mp z).2)⟩
/-- a dict's value at a key -/
theorem rep_dget {o t : Bool} {ks vs : List D} {x : D} {v y : V} {T S : List Addr} (e : Same F H) (r : Rep G F H (.dct o t ks vs) v T) (rx : Rep G F H x y S) (hx : x.okKey t = true) :
    ∃ a, v = .ref a ∧ (∃ u, H a = some u ∧ ((∃ kvs, u = .dK kvs) ∨ ∃ kvs, u = .dT kvs)) ∧ (∀ d, dlook t x ks vs = some d → ∃ v' T', DGet H a y (some v') ∧ Rep G F H d v' T') ∧ (dlook t x ks vs = none → DGet H a y none) := by
  cases t with
  | false =>
    obtain ⟨k, hk⟩ := Option.isSome_iff_exists.mp (show x.key.isSome = true from hx)
    obtain ⟨p, kvs, T1, hv, hr, hks, ha⟩ := r
    have hp : H p = some (.dK kvs) := by
      cases o with
      | true => exact ha.1
      | false => exact e _ _ ha.1
    have hy := key_val rx hk
    obtain ⟨l1, l2⟩ := look_k (G := G) hk hr
    refine ⟨p, hv, ⟨_, hp, .inl ⟨_, rfl⟩⟩, fun d hd => ?_, fun hd => ?_⟩
    · rw [hks] at hd
      obtain ⟨v', T', a, b, _⟩ := l1 d hd
      refine ⟨v', T', ?_, b⟩
      rw [hy, ← a]
      exact DGet.k hp
    · rw [hks] at hd
      rw [hy, ← l2 hd]
      exact DGet.k hp
  | true =>
    obtain ⟨k, hk⟩ := Option.isSome_iff_exists.mp (show x.keyT.isSome = true from hx)
    obtain ⟨p, kvs, T1, hv, hr, hks, ha⟩ := r
    have hp : H p = some (.dT kvs) := by
      cases o with
      | true => exact ha.1
      | false => exact e _ _ ha.1
    obtain ⟨b, rfl, hb⟩ := keyT_val e rx hk
    obtain ⟨l1, l2⟩ := look_t (G := G) hk hr
    refine ⟨p, hv, ⟨_, hp, .inr ⟨_, rfl⟩⟩, fun d hd => ?_, fun hd => ?_⟩
    · rw [hks] at hd
      obtain ⟨v', T', a, b', _⟩ := l1 d hd
      refine ⟨v', T', ?_, b'⟩
      rw [← a]
      exact DGet.t hp hb
    · rw [hks] at hd
      rw [← l2 hd]
      exact DGet.t hp hb
end
/-! ### in, not in -/
def rDIn : R2 := fun y x H Q => ∃ a o, x = .ref a ∧ DGet H a y o ∧ Q (.bl o.isSome) H
def rDNi : R2 := fun y x H Q => ∃ a o, x = .ref a ∧ DGet H a y o ∧ Q (.bl (!o.isSome)) H
theorem op_dIn {X : Cx} (hu : X.A.units + 1 < cLine) : OpR X (compareOp .In) rDIn := by
  intro pins s σ H y x iv u Q I ry rx q
  obtain ⟨a, ov, ex, g, q2⟩ := q
  subst ex
  obtain rfl : u = Value.ref a := rx
  exact d_in hu I g ry fun s3 I3 => ⟨.bl ov.isSome, H, I3, rfl, q2⟩
theorem op_dNi {X : Cx} (hu : X.A.units + 1 < cLine) : OpR X (compareOp .NotIn) rDNi := by
  intro pins s σ H y x iv u Q I ry rx q
  obtain ⟨a, ov, ex, g, q2⟩ := q
  subst ex
  obtain rfl : u = Value.ref a := rx
  exact d_notIn hu I g ry fun s3 I3 => ⟨.bl (!ov.isSome), H, I3, rfl, q2⟩
/-- in, not in a tuple of data -/
def rInT (K : PySem.W.Frag) : R2 := fun x y H Q => ∃ d ds, Dp K H x d ∧ Dp K H y (.tuple ds) ∧ SeqAt.shaped d = true ∧ SeqAt.shaped (.tuple ds) = true ∧ Q (.bl (ds.any fun z => PyData.eqv z d)) H
def rNiT (K : PySem.W.Frag) : R2 := fun x y H Q => ∃ d ds, Dp K H x d ∧ Dp K H y (.tuple ds) ∧ SeqAt.shaped d = true ∧ SeqAt.shaped (.tuple ds) = true ∧ Q (.bl (!ds.any fun z => PyData.eqv z d)) H
theorem op_inT {X : Cx} (hu : X.A.units + 65 < cLine) : OpR X (compareOp .In) (rInT X.K) := by
  intro pins s σ H x y iv u Q I rx ry q
  obtain ⟨d, ds, k1, k2, sd, se, q2⟩ := q
  obtain ⟨_, r1⟩ := Dp.reads I d x iv k1 rx
  obtain ⟨_, r2⟩ := Dp.reads I (.tuple ds) y u k2 ry
  have room := PyProof.Rows.room_in_shaped (xs := ds) sd hu
  exact SeqAt.in_tuple_reads r2 r1 (SeqAt.canLay_of_shaped se) (SeqAt.canLay_of_shaped sd) room ⟨.bl (ds.any fun z => PyData.eqv z d), H, I, rfl, q2⟩
theorem op_niT {X : Cx} (hu : X.A.units + 65 < cLine) : OpR X (compareOp .NotIn) (rNiT X.K) := by
  intro pins s σ H x y iv u Q I rx ry q
  obtain ⟨d, ds, k1, k2, sd, se, q2⟩ := q
  obtain ⟨_, r1⟩ := Dp.reads I d x iv k1 rx
  obtain ⟨_, r2⟩ := Dp.reads I (.tuple ds) y u k2 ry
  have room := PyProof.Rows.room_in_shaped (xs := ds) sd hu
  exact SeqAt.notIn_tuple_reads r2 r1 (SeqAt.canLay_of_shaped se) (SeqAt.canLay_of_shaped sd) room ⟨.bl (!ds.any fun z => PyData.eqv z d), H, I, rfl, q2⟩
abbrev rInA (K : PySem.W.Frag) : R2 := fun x y H Q => rInD K x y H Q ∨ rIn K false x y H Q ∨ rDIn x y H Q ∨ rInT K x y H Q
abbrev rNiA (K : PySem.W.Frag) : R2 := fun x y H Q => rNotInD K x y H Q ∨ rIn K true x y H Q ∨ rDNi x y H Q ∨ rNiT K x y H Q
theorem op_inA {X : Cx} (hu : X.A.units + 65 < cLine) : OpR X (compareOp .In) (rInA X.K) := (op_inD hu).or (op_in_seq.or ((op_dIn (by omega)).or (op_inT hu)))
theorem op_niA {X : Cx} (hu : X.A.units + 65 < cLine) : OpR X (compareOp .NotIn) (rNiA X.K) := (op_notInD hu).or (op_notIn_seq.or ((op_dNi (by omega)).or (op_niT hu)))
section
variable {G : GX} {F H : Hp}
theorem flat_py {d : D} {v : V} {T : List Addr} (r : Rep G F H d v T) (h : flatD d = true) : flatV v = true := by
  cases d <;> first | (rw [r.1]; rfl) | cases h
theorem flat_eqv {a b : D} {v u : V} {T S : List Addr} (r : Rep G F H a v T) (r2 : Rep G F H b u S) (h : flatD a = true) (h2 : flatD b = true) : eqV v u = D.eqv a b := by
  cases a <;> first | cases h | skip
  all_goals cases b <;> first | cases h2 | skip
  all_goals (rw [r.1, r2.1]; simp [D.eqv, D.py, eqV, PyData.eqv])
theorem flats_in : ∀ {ys : List D} {vs : List V} {x : D} {v : V} {T S : List Addr}, Reps G F H ys vs T → Rep G F H x v S → flatD x = true → ys.all flatD = true → vs.all flatV = true ∧ inV v vs = ys.any fun y => D.eqv y x
  | [], vs, x, v, T, S, r, rx, hx, hy => by rw [r.1]; exact ⟨rfl, rfl⟩
  | d :: r', vs, x, v, T, S, r, rx, hx, hy => by
    obtain ⟨v', vr, S1, S2, e1, e2, h1, h2⟩ := r
    rw [List.all_cons, Bool.and_eq_true] at hy
    obtain ⟨a, b⟩ := flats_in h2 rx hx hy.2
    rw [e1]
    refine ⟨by rw [List.all_cons, a, flat_py h1 hy.1]; rfl, ?_⟩
    show (v' :: vr).any (fun y => eqV y v) = _
    rw [List.any_cons, List.any_cons, flat_eqv h1 rx hy.1 hx]
    show (D.eqv d x || inV v vr) = _
    rw [b]
theorem pyL_map : ∀ l : List D, D.pyL l = l.map D.py
  | [] => rfl
  | d :: r => by
    show D.py d :: D.pyL r = _
    rw [pyL_map r]; rfl
theorem any_py (x : D) (ys : List D) : ((D.pyL ys).any fun z => PyData.eqv z x.py) = ys.any fun y => D.eqv y x := by
  rw [pyL_map, List.any_map]
  rfl
theorem dn_in : Den2 G (rInA G.K) (sem2 .isin) := by
  intro F H a b x y S T Q e ra rb q
  cases b with
  | lst o ys =>
    have q : PostV G F H (guardR (a.eqOk && D.eqOk (.lst o ys)) (.ok (.bl (ys.any fun y => D.eqv y a)))) Q := by cases a <;> exact q
    obtain ⟨h, q⟩ := PostV.guard q
    rw [Bool.and_eq_true] at h
    obtain ⟨a1, a2⟩ := eqOk_and h.1
    obtain ⟨b1, b2⟩ := eqOk_and h.2
    refine .inl ⟨a.py, D.pyL ys, rep_dp e a ra a1, rep_dp e _ rb b1, a2, b2, ?_⟩
    rw [any_py]
    exact q.val e ⟨rfl, rfl⟩
  | tup o ys =>
    have q : PostV G F H (guardR ((flatD a && ys.all flatD) || (a.eqOk && D.eqOk (.tup o ys))) (.ok (.bl (ys.any fun y => D.eqv y a)))) Q := by cases a <;> exact q
    obtain ⟨h, q⟩ := PostV.guard q
    rw [Bool.or_eq_true] at h
    rcases h with h | h
    rotate_left
    · rw [Bool.and_eq_true] at h
      obtain ⟨a1, a2⟩ := eqOk_and h.1
      obtain ⟨b1, b2⟩ := eqOk_and h.2
      refine .inr (.inr (.inr ⟨a.py, D.pyL ys, rep_dp e a ra a1, rep_dp e _ rb b1, a2, b2, ?_⟩))
      rw [any_py]
      exact q.val e ⟨rfl, rfl⟩
    rw [Bool.and_eq_true] at h
    obtain ⟨p, vs, S', rfl, hp, hr⟩ := rep_tup e rb
    obtain ⟨f1, f2⟩ := flats_in hr ra h.1 h.2
    refine .inr (.inl ⟨p, vs, rfl, .inr hp, flat_py ra h.1, f1, ?_⟩)
    rw [if_neg Bool.false_ne_true, f2]
    exact q.val e ⟨rfl, rfl⟩
  | dct o t ks vs =>
    have q : PostV G F H (guardR (a.okKey t) (.ok (.bl (dlook t a ks vs).isSome))) Q := by cases a <;> exact q
    obtain ⟨h, q⟩ := PostV.guard q
    obtain ⟨p, rfl, _, g1, g2⟩ := rep_dget e rb ra h
    cases hd : dlook t a ks vs with
    | some d =>
      obtain ⟨v', T', g, _⟩ := g1 d hd
      rw [hd] at q
      exact .inr (.inr (.inl ⟨p, some v', rfl, g, q.val e ⟨rfl, rfl⟩⟩))
    | none =>
      rw [hd] at q
      exact .inr (.inr (.inl ⟨p, none, rfl, g2 hd, q.val e ⟨rfl, rfl⟩⟩))
  | _ => exact absurd q (by cases a <;> exact fun z => z)
theorem dn_ni : Den2 G (rNiA G.K) (sem2 .nin) := by
  intro F H a b x y S T Q e ra rb q
  cases b with
  | lst o ys =>
    have q : PostV G F H (guardR (a.eqOk && D.eqOk (.lst o ys)) (.ok (.bl (!ys.any fun y => D.eqv y a)))) Q := by cases a <;> exact q
    obtain ⟨h, q⟩ := PostV.guard q
    rw [Bool.and_eq_true] at h
    obtain ⟨a1, a2⟩ := eqOk_and h.1
    obtain ⟨b1, b2⟩ := eqOk_and h.2
    refine .inl ⟨a.py, D.pyL ys, rep_dp e a ra a1, rep_dp e _ rb b1, a2, b2, ?_⟩
    rw [any_py]
    exact q.val e ⟨rfl, rfl⟩
  | tup o ys =>
    have q : PostV G F H (guardR ((flatD a && ys.all flatD) || (a.eqOk && D.eqOk (.tup o ys))) (.ok (.bl (!ys.any fun y => D.eqv y a)))) Q := by cases a <;> exact q
    obtain ⟨h, q⟩ := PostV.guard q
    rw [Bool.or_eq_true] at h
    rcases h with h | h
    rotate_left
    · rw [Bool.and_eq_true] at h
      obtain ⟨a1, a2⟩ := eqOk_and h.1
      obtain ⟨b1, b2⟩ := eqOk_and h.2
      refine .inr (.inr (.inr ⟨a.py, D.pyL ys, rep_dp e a ra a1, rep_dp e _ rb b1, a2, b2, ?_⟩))
      rw [any_py]
      exact q.val e ⟨rfl, rfl⟩
    rw [Bool.and_eq_true] at h
    obtain ⟨p, vs, S', rfl, hp, hr⟩ := rep_tup e rb
    obtain ⟨f1, f2⟩ := flats_in hr ra h.1 h.2
    refine .inr (.inl ⟨p, vs, rfl, .inr hp, flat_py ra h.1, f1, ?_⟩)
    rw [if_pos rfl, f2]
    exact q.val e ⟨rfl, rfl⟩
  | dct o t ks vs =>
    have q : PostV G F H (guardR (a.okKey t) (.ok (.bl (!(dlook t a ks vs).isSome)))) Q := by cases a <;> exact q
    obtain ⟨h, q⟩ := PostV.guard q
    obtain ⟨p, rfl, _, g1, g2⟩ := rep_dget e rb ra h
    cases hd : dlook t a ks vs with
    | some d =>
      obtain ⟨v', T', g, _⟩ := g1 d hd
      rw [hd] at q
      exact .inr (.inr (.inl ⟨p, some v', rfl, g, q.val e ⟨rfl, rfl⟩⟩))
    | none =>
      rw [hd] at q
      exact .inr (.inr (.inl ⟨p, none, rfl, g2 hd, q.val e ⟨rfl, rfl⟩⟩))
  | _ => exact absurd q (by cases a <;> exact fun z => z)
end
/-! ### subscripts -/
def rDG : R2 := fun x y H Q => ∃ a v, x = .ref a ∧ DGet H a y (some v) ∧ Q v H
theorem pe_ixA {X : Cx} {a b : Expr} {ta tb : TE} {pos : Pos} (hu : X.A.units + 1 < cLine) (ha : PE X a ta) (hb : PE X b tb) (hs : PlainIx b) : PE X (.Subscript a b pos) (tOp (rIx X.K) ta tb) ∧ PE X (.Subscript a b pos) (tOp rDG ta tb) :=
  ⟨pe_ix ix_seq ha hb hs, pe_dget hu ha hb hs⟩
section
variable {G : GX} {F H : Hp}
theorem atI_rep {xs : List D} {vs : List V} {T : List Addr} {i : Int} {d : D} (r : Reps G F H xs vs T) (h : atI xs i = some d) : ∃ v S, atI vs i = some v ∧ Rep G F H d v S := by
  unfold atI at h ⊢
  rw [r.len]
  cases q : ixN xs.length i with
  | none => rw [q] at h; cases h
  | some j =>
    rw [q] at h
    obtain ⟨v, S, a, b, _⟩ := r.get (i := j) (d := d) h
    exact ⟨v, S, a, b⟩
theorem atI_ints {ns : List Int} {i c : Int} (h : atI ns i = some c) : atI (ns.map V.int) i = some (.int c) := by
  unfold atI at h ⊢
  rw [List.length_map]
  cases q : ixN ns.length i with
  | none => rw [q] at h; cases h
  | some j =>
    rw [q] at h
    have h : ns[j]? = some c := h
    show (ns.map V.int)[j]? = _
    rw [List.getElem?_map, h]
    rfl
/-- a list, a tuple, a text, the script; a dict: each by its own rule -/
theorem dn_ix : ∀ F H a b x y S T (Q : VK), Same F H → Rep G F H a x S → Rep G F H b y T → PostV G F H (sem2 .ix a b) Q →
    (match a with | .dct .. => rDG x y H Q | _ => rIx G.K x y H Q) := by
  intro F H a b x y S T Q e ra rb q
  cases a with
  | lst o xs =>
    cases b with
    | int i =>
      have q : PostV G F H (match atI xs i with | some d => guardR d.isSh (.ok d) | none => .stuck) Q := q
      cases h : atI xs i with
      | none => rw [h] at q; exact q.elim
      | some d =>
        rw [h] at q
        obtain ⟨hs, q⟩ := PostV.guard q
        obtain ⟨p, vs, S', rfl, hp, hr⟩ := rep_lst e ra
        obtain ⟨v, S2, h1, h2⟩ := atI_rep hr h
        have z := Rep.shn _ h2 hs
        subst z
        exact .inl ⟨p, vs, i, v, rfl, rb.1, SqL.of hp, h1, q.val e h2⟩
    | _ => exact q.elim
  | tup o xs =>
    cases b with
    | int i =>
      have q : PostV G F H (match atI xs i with | some d => guardR d.isSh (.ok d) | none => .stuck) Q := q
      cases h : atI xs i with
      | none => rw [h] at q; exact q.elim
      | some d =>
        rw [h] at q
        obtain ⟨hs, q⟩ := PostV.guard q
        obtain ⟨p, vs, S', rfl, hp, hr⟩ := rep_tup e ra
        obtain ⟨v, S2, h1, h2⟩ := atI_rep hr h
        have z := Rep.shn _ h2 hs
        subst z
        exact .inr (.inl ⟨p, vs, i, v, rfl, rb.1, hp, h1, q.val e h2⟩)
    | _ => exact q.elim
  | str z =>
    cases b with
    | int i =>
      have q : PostV G F H (match atI z.cps.toList i with | some c => guardR (decide (z.length ≤ 100000)) (.ok (.str ⟨#[c]⟩)) | none => .stuck) Q := q
      cases h : atI z.cps.toList i with
      | none => rw [h] at q; exact q.elim
      | some c =>
        rw [h] at q
        obtain ⟨hs, q⟩ := PostV.guard q
        exact .inr (.inr ⟨z, i, c, ra.1, rb.1, lim_le (of_decide_eq_true hs), h, q.val e ⟨rfl, rfl⟩⟩)
    | _ => exact q.elim
  | scr ns =>
    cases b with
    | int i =>
      have q : PostV G F H (match atI ns i with | some c => .ok (.int c) | none => .stuck) Q := q
      cases h : atI ns i with
      | none => rw [h] at q; exact q.elim
      | some c =>
        rw [h] at q
        obtain ⟨p, rfl, hp, _⟩ := ra
        exact .inl ⟨p, _, i, .int c, rfl, rb.1, e.seq hp, atI_ints h, q.val e ⟨rfl, rfl⟩⟩
    | _ => exact q.elim
  | dct o t ks vs =>
    have q : PostV G F H (match dlook t b ks vs with | some d => guardR (d.isSh && b.okKey t) (.ok d) | none => .stuck) Q := by cases b <;> exact q
    cases h : dlook t b ks vs with
    | none => rw [h] at q; exact q.elim
    | some d =>
      rw [h] at q
      obtain ⟨hs, q⟩ := PostV.guard q
      rw [Bool.and_eq_true] at hs
      obtain ⟨p, rfl, _, g1, _⟩ := rep_dget e ra rb hs.2
      obtain ⟨v', T', g, r'⟩ := g1 d h
      have z := Rep.shn _ r' hs.1
      subst z
      exact ⟨p, v', rfl, g, q.val e r'⟩
  | _ => exact absurd q (by cases b <;> exact fun z => z)
theorem dn_max : ∀ F H a b x y S T (Q : VK), Same F H → Rep G F H a x S → Rep G F H b y T → PostV G F H (sem2 .max a b) Q → ∃ i j, [x, y] = [V.int i, V.int j] ∧ Q (.int (if j > i then j else i)) H := by
  intro F H a b x y S T Q e ra rb q
  cases a with
  | int i =>
    cases b with
    | int j => exact ⟨i, j, by rw [ra.1, rb.1], q.val e ⟨rfl, rfl⟩⟩
    | _ => exact q.elim
  | _ => exact q.elim
theorem dn_min : ∀ F H a b x y S T (Q : VK), Same F H → Rep G F H a x S → Rep G F H b y T → PostV G F H (sem2 .min a b) Q → ∃ i j, [x, y] = [V.int i, V.int j] ∧ Q (.int (if j < i then j else i)) H := by
  intro F H a b x y S T Q e ra rb q
  cases a with
  | int i =>
    cases b with
    | int j => exact ⟨i, j, by rw [ra.1, rb.1], q.val e ⟨rfl, rfl⟩⟩
    | _ => exact q.elim
  | _ => exact q.elim
end
end MP
set_option Elab.async false
set_option linter.all false
set_option maxRecDepth 100000
set_option maxHeartbeats 1000000
namespace MP
open PySem L2
/-- what the table says of a class of the program's own -/
structure ClsI (K : PySem.W.Frag) (C : Addr) : Prop where
  cl : Cls K C
  ha : PySem.W.findIn K (.ref C) "__class__" = some (some (.builtin "object.__class__"))
  hn : PySem.W.specialIn K (.builtin "object.__class__") "__get__" = some (some (.builtin "getset_descriptor.__get__"))
  ht : PySem.W.takesIn K (.builtin "object.__class__") = some true
  hm : PySem.W.mroIn K C (.type "object") = some true
abbrev R1L := List V → Hp → VK → Prop
def DenC1 (G : GX) (r : R1L) (f : D → Res D) : Prop := ∀ F H a x S (Q : VK), Same F H → Rep G F H a x S → PostV G F H (f a) Q → r [x] H Q
section
variable {G : GX} {W : WX}
theorem den_c1 {ta : TE} {φ : List D → Res D} {fr : Bool} {ms : List Nat} {r : R1L} {f : D → Res D} (ha : DenE G W ta φ fr ms) (hr : DenC1 G r f) (q : Quiet1 f) :
    DenE G W (tCB r (tCons ta tNil)) (fun δ => (φ δ).bind f) true [] := by
  intro σ F H δ S Q k p
  show ta σ H fun x H1 => r [x] H1 Q
  refine ha.go k p fun x v F1 H1 T1 e1 g1 k1 r1 _ p1 => ?_
  exact hr F1 H1 x v T1 Q g1.fh r1 (post_to (p1.step g1) (q x))
theorem den_c2 {ta tb : TE} {φ ψ : List D → Res D} {fr fr2 : Bool} {ms ms2 : List Nat} {r : R1L} {f : D → D → Res D} (ha : DenE G W ta φ fr ms) (hb : DenE G W tb ψ fr2 ms2)
    (hr : ∀ F H a b x y S T (Q : VK), Same F H → Rep G F H a x S → Rep G F H b y T → PostV G F H (f a b) Q → r [x, y] H Q) (q : Quiet2 f) :
    DenE G W (tCB r (tCons ta (tCons tb tNil))) (fun δ => (φ δ).bind fun x => (ψ δ).bind fun y => f x y) true [] := by
  intro σ F H δ S Q k p
  show ta σ H fun x H1 => tb σ H1 fun y H2 => r [x, y] H2 Q
  refine ha.go k p fun x v F1 H1 T1 e1 g1 k1 r1 _ p1 => ?_
  refine hb.go k1 (p1.step g1) fun y u F2 H2 T2 e2 g2 k2 r2 _ p2 => ?_
  exact hr F2 H2 x y v u T1 T2 Q g2.fh (r1.gr g2) r2 (post_to (p2.step g2) (q x y))
end
abbrev rLenA (K : PySem.W.Frag) : R1L := fun xs H Q => (∃ p ys, xs = [.ref p] ∧ (SqL K H p ys ∨ SqT K H p ys) ∧ Q (.int ys.length) H) ∨ (∃ z, xs = [.str z] ∧ z.length ≤ sizeLine ∧ Q (.int z.length) H)
theorem call_lenA {X : Cx} : CallR X (.builtin "len") (rLenA X.K) := call_len_seq.or call_len_str
section
variable {G : GX} {F H : Hp}
theorem dn_len : DenC1 G (rLenA G.K) (sem1 .len) := by
  intro F H a x S Q e ra q
  cases a with
  | lst o xs =>
    obtain ⟨p, vs, S', rfl, hp, hr⟩ := rep_lst e ra
    refine .inl ⟨p, vs, rfl, .inl (SqL.of hp), ?_⟩
    rw [hr.len]
    exact PostV.val (d := .int xs.length) q e ⟨rfl, rfl⟩
  | tup o xs =>
    obtain ⟨p, vs, S', rfl, hp, hr⟩ := rep_tup e ra
    refine .inl ⟨p, vs, rfl, .inr hp, ?_⟩
    rw [hr.len]
    exact PostV.val (d := .int xs.length) q e ⟨rfl, rfl⟩
  | str z =>
    obtain ⟨h, q⟩ := PostV.guard q
    exact .inr ⟨z, by rw [ra.1], lim_le (of_decide_eq_true h), PostV.val (d := .int z.length) q e ⟨rfl, rfl⟩⟩
  | scr ns =>
    obtain ⟨p, rfl, hp, _⟩ := ra
    refine .inl ⟨p, _, rfl, .inl (e.seq hp), ?_⟩
    rw [List.length_map]
    exact PostV.val (d := .int ns.length) q e ⟨rfl, rfl⟩
  | _ => exact q.elim
theorem dn_abs : DenC1 G (fun xs H Q => ∃ i, xs = [.int i] ∧ Q (.int (if i < 0 then -i else i)) H) (sem1 .abs) := by
  intro F H a x S Q e ra q
  cases a with
  | int i => exact ⟨i, by rw [ra.1], q.val e ⟨rfl, rfl⟩⟩
  | _ => exact q.elim
theorem dn_int : DenC1 G (fun xs H Q => (∃ i, xs = [.int i] ∧ Q (.int i) H) ∨ ∃ k, xs = [.bl k] ∧ Q (.int (if k then 1 else 0)) H) (sem1 .int) := by
  intro F H a x S Q e ra q
  cases a with
  | int i => exact .inl ⟨i, by rw [ra.1], q.val e ⟨rfl, rfl⟩⟩
  | bl i => exact .inr ⟨i, by rw [ra.1], PostV.val (d := .int (if i then 1 else 0)) q e ⟨rfl, rfl⟩⟩
  | _ => exact q.elim
abbrev rListA (K : PySem.W.Frag) : R1L := fun xs H Q => (∃ p ys, xs = [.ref p] ∧ (SqL K H p ys ∨ SqT K H p ys) ∧ ∀ l, H l = none → Q (.ref l) (upd H l (.lst ys))) ∨ (∃ (a : Addr) (kvs : List (Key × V)), xs = [.ref a] ∧ Rd H a (.dK kvs) ∧ ∀ p, H p = none → Q (.ref p) (upd H p (.lst (kvs.map fun kv => kV kv.1))))
theorem keys_reps : ∀ kvs : List (Key × V), Reps G F H (kvs.map fun kv => keyD kv.1) (kvs.map fun kv => kV kv.1) []
  | [] => Reps.nil
  | (k, v) :: r => Reps.cons (S := []) (by cases k <;> exact ⟨rfl, rfl⟩) (keys_reps r)
theorem dn_list : DenC1 G (rListA G.K) (sem1 .list) := by
  intro F H a x S Q e ra q
  cases a with
  | lst o xs =>
    obtain ⟨p, vs, S', rfl, hp, hr⟩ := rep_lst e ra
    obtain ⟨z, q⟩ := PostV.lst (xs := xs) q e (fun z => by
      have := Reps.shn _ hr z
      subst this
      exact hr) hr.len
    exact .inl ⟨p, vs, rfl, .inl (SqL.of hp), q⟩
  | tup o xs =>
    obtain ⟨p, vs, S', rfl, hp, hr⟩ := rep_tup e ra
    obtain ⟨z, q⟩ := PostV.lst (xs := xs) q e (fun z => by
      have := Reps.shn _ hr z
      subst this
      exact hr) hr.len
    exact .inl ⟨p, vs, rfl, .inr hp, q⟩
  | dct o t ks vs =>
    cases t with
    | true => exact q.elim
    | false =>
      obtain ⟨p, kvs, T, rfl, hr, hk, ha⟩ := ra
      have hp : H p = some (.dK kvs) := by
        cases o with
        | true => exact ha.1
        | false => exact e _ _ ha.1
      have q : PostV G F H (dnew ks) Q := q
      rw [hk] at q
      obtain ⟨z, q⟩ := PostV.lst (vs := kvs.map fun kv => kV kv.1) q e (fun _ => keys_reps kvs) (by simp)
      exact .inr ⟨p, kvs, rfl, .inl hp, q⟩
  | _ => exact q.elim
/-- a new shared tuple -/
theorem PostV.tup {xs : List D} {vs : List V} {Q : VK} (q : PostV G F H (.ok (.tup false xs)) Q) (e : Same F H) (r : Reps G F H xs vs []) : ∀ p, H p = none → Q (.ref p) (upd H p (.tup vs)) := fun p hp => by
  have g : Gr F H (upd F p (.tup vs)) (upd H p (.tup vs)) := .new2 e hp
  exact q (.ref p) _ _ [] g ⟨p, vs, [], rfl, r.gr g, .inl upd_same, rfl, rfl⟩ List.nodup_nil fun x hx => nomatch hx
theorem dn_tuple : DenC1 G (fun xs H Q => ∃ p ys, xs = [.ref p] ∧ ((SqL G.K H p ys ∧ ∀ l, H l = none → Q (.ref l) (upd H l (.tup ys))) ∨ (SqT G.K H p ys ∧ Q (.ref p) H))) (sem1 .tuple) := by
  intro F H a x S Q e ra q
  cases a with
  | lst o xs =>
    obtain ⟨h, q⟩ := PostV.guard q
    rw [Bool.and_eq_true] at h
    obtain ⟨p, vs, rfl, hp, hr⟩ := rep_lst0 e ra h.1
    exact ⟨p, vs, rfl, .inl ⟨SqL.of hp, PostV.tup q e hr⟩⟩
  | tup o xs =>
    cases o with
    | true => exact q.elim
    | false =>
      obtain ⟨p, vs, S', hv, hr, ha⟩ := id ra
      subst hv
      refine ⟨p, vs, rfl, .inr ⟨same_t e ha.1.sq, ?_⟩⟩
      have hS : S = [] := ha.2.2
      subst hS
      exact PostV.val (d := .tup false xs) q e ra
  | _ => exact q.elim
/-! ### sorted -/
theorem insI_perm (x : Int) : ∀ l : List Int, (insI x l).Perm (x :: l)
  | [] => .refl _
  | y :: r => by
    unfold insI
    split
    · exact .refl _
    · exact ((insI_perm x r).cons y).trans (.swap x y r)
theorem isortI_perm : ∀ l : List Int, (isortI l).Perm l
  | [] => .refl _
  | x :: r => (insI_perm x _).trans ((isortI_perm r).cons x)
theorem insI_sorted (x : Int) : ∀ {l : List Int}, l.Pairwise (· ≤ ·) → (insI x l).Pairwise (· ≤ ·)
  | [], _ => List.pairwise_singleton _ _
  | y :: r, h => by
    unfold insI
    obtain ⟨h1, h2⟩ := List.pairwise_cons.mp h
    split
    · rename_i hxy
      refine List.pairwise_cons.mpr ⟨fun z hz => ?_, h⟩
      rcases List.mem_cons.mp hz with rfl | hz
      · exact hxy
      · exact Int.le_trans hxy (h1 z hz)
    · rename_i hxy
      refine List.pairwise_cons.mpr ⟨fun z hz => ?_, insI_sorted x h2⟩
      rcases List.mem_cons.mp ((insI_perm x r).mem_iff.mp hz) with rfl | hz
      · omega
      · exact h1 z hz
theorem isortI_sorted : ∀ l : List Int, (isortI l).Pairwise (· ≤ ·)
  | [] => List.Pairwise.nil
  | x :: r => insI_sorted x (isortI_sorted r)
theorem sorted_uniq : ∀ {l m : List Int}, l.Perm m → l.Pairwise (· ≤ ·) → m.Pairwise (· ≤ ·) → l = m
  | [], m, p, _, _ => (List.perm_nil.mp p.symm).symm
  | a :: l, m, p, hl, hm => by
    cases m with
    | nil => exact absurd (List.perm_nil.mp p) (by simp)
    | cons b m =>
      obtain ⟨a1, a2⟩ := List.pairwise_cons.mp hl
      obtain ⟨b1, b2⟩ := List.pairwise_cons.mp hm
      have e : a = b := by
        have x1 : a ≤ b := by
          rcases List.mem_cons.mp (p.mem_iff.mpr (List.mem_cons_self (a := b) (l := m))) with e | h
          · omega
          · exact a1 b h
        have x2 : b ≤ a := by
          rcases List.mem_cons.mp (p.mem_iff.mp (List.mem_cons_self (a := a) (l := l))) with e | h
          · omega
          · exact b1 a h
        omega
      subst e
      rw [sorted_uniq (List.perm_cons _ |>.mp p) a2 b2]
theorem intsOf_eq : ∀ {xs : List D} {ns : List Int}, intsOf xs = some ns → xs = ns.map dInt
  | [], ns, h => by
    obtain rfl : [] = ns := Option.some.inj h
    rfl
  | d :: r, ns, h => by
    cases d with
    | int i =>
      have h : (intsOf r).map (i :: ·) = some ns := h
      cases q : intsOf r with
      | none => rw [q] at h; cases h
      | some ms =>
        rw [q] at h
        obtain rfl : i :: ms = ns := Option.some.inj h
        rw [intsOf_eq q]
        rfl
    | _ => cases h
theorem reps_ints : ∀ {ns : List Int} {vs : List V} {T : List Addr}, Reps G F H (ns.map dInt) vs T → vs = ns.map V.int ∧ T = []
  | [], vs, T, r => ⟨r.1, r.2⟩
  | n :: ns, vs, T, r => by
    obtain ⟨v, vr, S1, S2, e1, e2, h1, h2⟩ := r
    obtain ⟨a, b⟩ := reps_ints h2
    rw [e1, e2, h1.1, h1.2, a, b]
    exact ⟨rfl, rfl⟩
theorem ints_reps : ∀ ns : List Int, Reps G F H (ns.map dInt) (ns.map V.int) []
  | [] => Reps.nil
  | n :: ns => Reps.cons (S := []) ⟨rfl, rfl⟩ (ints_reps ns)
theorem leP_total {a b : Int × Int} (h : leP a b = false) : leP b a = true := by
  unfold leP at h ⊢
  simp only [Bool.or_eq_false_iff, Bool.and_eq_false_iff, decide_eq_false_iff_not, beq_eq_false_iff_ne, Bool.or_eq_true, Bool.and_eq_true, decide_eq_true_eq, beq_iff_eq] at h ⊢
  omega
theorem leP_trans {a b c : Int × Int} (h : leP a b = true) (k : leP b c = true) : leP a c = true := by
  unfold leP at h k ⊢
  simp only [Bool.or_eq_true, Bool.and_eq_true, decide_eq_true_eq, beq_iff_eq] at h k ⊢
  omega
theorem leP_anti {a b : Int × Int} (h : leP a b = true) (k : leP b a = true) : a = b := by
  unfold leP at h k
  simp only [Bool.or_eq_true, Bool.and_eq_true, decide_eq_true_eq, beq_iff_eq] at h k
  exact Prod.ext (by omega) (by omega)
theorem leP_refl (a : Int × Int) : leP a a = true := by
  unfold leP
  simp
theorem insP_perm (x : Int × Int) : ∀ l, (insP x l).Perm (x :: l)
  | [] => .refl _
  | y :: r => by
    unfold insP
    split
    · exact .refl _
    · exact ((insP_perm x r).cons y).trans (.swap x y r)
theorem isortP_perm : ∀ l, (isortP l).Perm l
  | [] => .refl _
  | x :: r => (insP_perm x _).trans ((isortP_perm r).cons x)
abbrev SrtP (l : List (Int × Int)) : Prop := l.Pairwise fun a b => leP a b = true
theorem insP_sorted (x : Int × Int) : ∀ {l : List (Int × Int)}, SrtP l → SrtP (insP x l)
  | [], _ => List.pairwise_singleton _ _
  | y :: r, h => by
    unfold insP
    obtain ⟨h1, h2⟩ := List.pairwise_cons.mp h
    split
    · rename_i hxy
      refine List.pairwise_cons.mpr ⟨fun z hz => ?_, h⟩
      rcases List.mem_cons.mp hz with rfl | hz
      · exact hxy
      · exact leP_trans hxy (h1 z hz)
    · rename_i hxy
      refine List.pairwise_cons.mpr ⟨fun z hz => ?_, insP_sorted x h2⟩
      rcases List.mem_cons.mp ((insP_perm x r).mem_iff.mp hz) with rfl | hz
      · exact leP_total (by simpa using hxy)
      · exact h1 z hz
theorem isortP_sorted : ∀ l, SrtP (isortP l)
  | [] => List.Pairwise.nil
  | x :: r => insP_sorted x (isortP_sorted r)
theorem sortedP_uniq : ∀ {l m : List (Int × Int)}, l.Perm m → SrtP l → SrtP m → l = m
  | [], m, p, _, _ => (List.perm_nil.mp p.symm).symm
  | a :: l, m, p, hl, hm => by
    cases m with
    | nil => exact absurd (List.perm_nil.mp p) (by simp)
    | cons b m =>
      obtain ⟨a1, a2⟩ := List.pairwise_cons.mp hl
      obtain ⟨b1, b2⟩ := List.pairwise_cons.mp hm
      have e : a = b := by
        have x1 : leP a b = true := by
          rcases List.mem_cons.mp (p.mem_iff.mpr (List.mem_cons_self (a := b) (l := m))) with e | h
          · rw [e]; exact leP_refl _
          · exact a1 b h
        have x2 : leP b a = true := by
          rcases List.mem_cons.mp (p.mem_iff.mp (List.mem_cons_self (a := a) (l := l))) with e | h
          · rw [e]; exact leP_refl _
          · exact b1 a h
        exact leP_anti x1 x2
      subst e
      rw [sortedP_uniq (List.perm_cons _ |>.mp p) a2 b2]
end
end MP
set_option Elab.async false
set_option linter.all false
set_option maxRecDepth 100000
set_option maxHeartbeats 1000000
namespace MP
open PySem L2
section
variable {G : GX} {F H : Hp}
def kOf (H : Hp) (v : V) : Int × Int := match v with
  | .ref t => match H t with
    | some (.tup [.int i, .int j]) => (i, j)
    | _ => (0, 0)
  | _ => (0, 0)
theorem pairsOf_eq : ∀ {xs : List D} {ps : List (Int × Int)}, pairsOf xs = some ps → xs = ps.map dPair
  | [], ps, h => by
    obtain rfl : [] = ps := Option.some.inj h
    rfl
  | d :: r, ps, h => by
    unfold pairsOf at h
    split at h
    · rename_i e; cases e
    · rename_i i j r' e
      injection e with e1 e2
      subst e1 e2
      cases q : pairsOf r with
      | none => rw [q] at h; cases h
      | some ms =>
        rw [q] at h
        obtain rfl : (i, j) :: ms = ps := Option.some.inj h
        rw [pairsOf_eq q]
        rfl
    · cases h
theorem rep_pair (e : Same F H) {p : Int × Int} {v : V} {T : List Addr} (r : Rep G F H (dPair p) v T) : T = [] ∧ ∃ t, v = .ref t ∧ F t = some (.tup [.int p.1, .int p.2]) := by
  obtain ⟨t, vs, S, hv, hr, ha⟩ := r
  obtain ⟨v1, vr, S1, S2, e1, e2, h1, h2⟩ := hr
  obtain ⟨v2, vr2, S3, S4, e3, e4, h3, h4⟩ := h2
  have ev : vs = [.int p.1, .int p.2] := by rw [e1, e3, h4.1, show v1 = .int p.1 from h1.1, show v2 = .int p.2 from h3.1]
  subst ev
  refine ⟨ha.2.2, t, hv, ?_⟩
  rcases (show TupR G.K F t _ from ha.1) with h | ⟨_, h⟩
  · exact h
  · simp [noInt] at h
theorem pair_rep {p : Int × Int} {t : Addr} (h : F t = some (.tup [.int p.1, .int p.2])) : Rep G F H (dPair p) (.ref t) [] :=
  ⟨t, _, [], rfl, Reps.cons (S := []) ⟨rfl, rfl⟩ (Reps.cons (S := []) ⟨rfl, rfl⟩ Reps.nil), .inl h, rfl, rfl⟩
theorem reps_pairs (e : Same F H) : ∀ {ps : List (Int × Int)} {vs : List V} {T : List Addr}, Reps G F H (ps.map dPair) vs T → (∀ v ∈ vs, ∃ t, v = .ref t ∧ F t = some (.tup [.int (kOf H v).1, .int (kOf H v).2])) ∧ vs.map (kOf H) = ps
  | [], vs, T, r => by
    rw [r.1]
    exact ⟨fun v hv => (nomatch hv), rfl⟩
  | p :: ps, vs, T, r => by
    obtain ⟨v, vr, S1, S2, e1, e2, h1, h2⟩ := r
    obtain ⟨a, b⟩ := reps_pairs e h2
    obtain ⟨_, t, rfl, ht⟩ := rep_pair e h1
    have hk : kOf H (.ref t) = p := by
      show (match H t with | some (.tup [.int i, .int j]) => (i, j) | _ => (0, 0)) = p
      rw [e _ _ ht]
    subst e1
    refine ⟨fun v hv => ?_, by rw [List.map_cons, hk, b]⟩
    rcases List.mem_cons.mp hv with rfl | hv
    · exact ⟨t, rfl, by rw [hk]; exact ht⟩
    · exact a v hv
theorem pairs_reps : ∀ {vs : List V}, (∀ v ∈ vs, ∃ t, v = .ref t ∧ F t = some (.tup [.int (kOf H v).1, .int (kOf H v).2])) → Reps G F H ((vs.map (kOf H)).map dPair) vs []
  | [], _ => Reps.nil
  | v :: vr, h => by
    obtain ⟨t, rfl, ht⟩ := h v List.mem_cons_self
    exact Reps.cons (S := []) (pair_rep ht) (pairs_reps fun u hu => h u (List.mem_cons_of_mem _ hu))
abbrev rSortA (K : PySem.W.Frag) : R1L := fun xs H Q => rSortedI K xs H Q ∨ rSortedPO K xs H Q
theorem call_sortA {X : Cx} : CallR X (.builtin "sorted") (rSortA X.K) := cr_sortedI.or cr_sortedPO
theorem dn_sorted : DenC1 G (rSortA G.K) (sem1 .sorted) := by
  intro F H a x S Q e ra q
  cases a with
  | lst o xs =>
    replace q : PostV G F H (match intsOf xs with
      | some ns => guardR (decide (ns.length ≤ 100000)) (.ok (.lst true ((isortI ns).map dInt)))
      | none => match pairsOf xs with
        | some ps => guardR (decide (ps.length ≤ 100000)) (.ok (.lst true ((isortP ps).map dPair)))
        | none => .stuck) Q := q
    cases h : intsOf xs with
    | some ns =>
      rw [h] at q
      have hx := intsOf_eq h
      subst hx
      obtain ⟨p, vs, S', rfl, hp, hr⟩ := rep_lst e ra
      obtain ⟨ev, _⟩ := reps_ints hr
      subst ev
      obtain ⟨hz, q⟩ := PostV.guard q
      have hz : ns.length ≤ 100000 := of_decide_eq_true hz
      refine .inl ⟨p, ns, rfl, SqL.of hp, fun ns' l pm st hl => ?_⟩
      have en : ns' = isortI ns := sorted_uniq (pm.trans (isortI_perm ns).symm) st (isortI_sorted ns)
      subst en
      have g : Gr F H F (upd H l (.lst ((isortI ns).map V.int))) := .new1 e hl
      exact q (.ref l) F _ [l] g ⟨l, _, [], rfl, ints_reps _, upd_same, e.free hl, rfl⟩ (by simp) fun x hx => by rw [List.mem_singleton.mp hx]; exact hl
    | none =>
      rw [h] at q
      cases h2 : pairsOf xs with
      | none => rw [h2] at q; exact q.elim
      | some ps =>
        rw [h2] at q
        have hx := pairsOf_eq h2
        subst hx
        obtain ⟨p, vs, S', rfl, hp, hr⟩ := rep_lst e ra
        obtain ⟨h3, h4⟩ := reps_pairs e hr
        obtain ⟨hz, q⟩ := PostV.guard q
        refine .inr ⟨p, vs, kOf H, rfl, SqL.of hp, fun v hv => ?_, fun ys l st sb hl => ?_⟩
        · obtain ⟨t, a, b⟩ := h3 v hv
          exact ⟨t, a, e _ _ b⟩
        · have hy : ∀ v ∈ ys, ∃ t, v = .ref t ∧ F t = some (.tup [.int (kOf H v).1, .int (kOf H v).2]) := fun v hv => h3 v (sb.perm.mem_iff.mp hv)
          have hs : SrtP (ys.map (kOf H)) := by
            refine List.pairwise_map.mpr (List.Pairwise.imp (fun {x y} hxy => ?_) st)
            have hxy : ltP (kOf H) y x = false := hxy
            have hxy := SrtO.lexB_no.mp hxy
            unfold leP
            simp only [Bool.or_eq_true, Bool.and_eq_true, decide_eq_true_eq, beq_iff_eq]
            omega
          have en : ys.map (kOf H) = isortP ps := sortedP_uniq ((sb.perm.map (kOf H)).trans (by rw [h4]; exact (isortP_perm ps).symm)) hs (isortP_sorted ps)
          have g : Gr F H F (upd H l (.lst ys)) := .new1 e hl
          have rr : Reps G F H ((isortP ps).map dPair) ys [] := by rw [← en]; exact pairs_reps hy
          exact q (.ref l) F _ [l] g ⟨l, _, [], rfl, rr.gr g, upd_same, e.free hl, rfl⟩ (by simp) fun x hx => by rw [List.mem_singleton.mp hx]; exact hl
  | _ => exact q.elim
theorem boolsOf_eq : ∀ {xs : List D} {bs : List Bool} {vs : List V} {T : List Addr}, boolsOf xs = some bs → Reps G F H xs vs T → vs = bs.map V.bl
  | [], bs, vs, T, h, r => by
    obtain rfl : [] = bs := Option.some.inj h
    exact r.1
  | d :: r', bs, vs, T, h, r => by
    cases d with
    | bl i =>
      have h : (boolsOf r').map (i :: ·) = some bs := h
      obtain ⟨v, vr, S1, S2, e1, e2, h1, h2⟩ := r
      cases q : boolsOf r' with
      | none => rw [q] at h; cases h
      | some ms =>
        rw [q] at h
        obtain rfl : i :: ms = bs := Option.some.inj h
        rw [e1, show v = .bl i from h1.1, boolsOf_eq q h2]
        rfl
    | _ => cases h
theorem strsOf_eq : ∀ {xs : List D} {bs : List Str} {vs : List V} {T : List Addr}, strsOf xs = some bs → Reps G F H xs vs T → vs = bs.map V.str
  | [], bs, vs, T, h, r => by
    obtain rfl : [] = bs := Option.some.inj h
    exact r.1
  | d :: r', bs, vs, T, h, r => by
    cases d with
    | str i =>
      have h : (strsOf r').map (i :: ·) = some bs := h
      obtain ⟨v, vr, S1, S2, e1, e2, h1, h2⟩ := r
      cases q : strsOf r' with
      | none => rw [q] at h; cases h
      | some ms =>
        rw [q] at h
        obtain rfl : i :: ms = bs := Option.some.inj h
        rw [e1, show v = .str i from h1.1, strsOf_eq q h2]
        rfl
    | _ => cases h
theorem dn_all : DenC1 G (rAll G.K) (sem1 .all) := by
  intro F H a x S Q e ra q
  cases a with
  | lst o xs =>
    have q : PostV G F H (match boolsOf xs with | some bs => .ok (.bl (bs.all id)) | none => .stuck) Q := q
    cases h : boolsOf xs with
    | none => rw [h] at q; exact q.elim
    | some bs =>
      rw [h] at q
      obtain ⟨p, vs, S', rfl, hp, hr⟩ := rep_lst e ra
      have ev := boolsOf_eq h hr
      subst ev
      exact ⟨p, bs, rfl, SqL.of hp, q.val e ⟨rfl, rfl⟩⟩
  | _ => exact q.elim
theorem dn_any : DenC1 G (rAny G.K) (sem1 .any) := by
  intro F H a x S Q e ra q
  cases a with
  | lst o xs =>
    have q : PostV G F H (match boolsOf xs with | some bs => .ok (.bl (bs.any id)) | none => .stuck) Q := q
    cases h : boolsOf xs with
    | none => rw [h] at q; exact q.elim
    | some bs =>
      rw [h] at q
      obtain ⟨p, vs, S', rfl, hp, hr⟩ := rep_lst e ra
      have ev := boolsOf_eq h hr
      subst ev
      exact ⟨p, bs, rfl, SqL.of hp, q.val e ⟨rfl, rfl⟩⟩
  | _ => exact q.elim
theorem dn_neg : Den1 G (rU fun i => .int (-i)) (sem1 .neg) := by
  intro F H a x S Q e ra q
  cases a with
  | int i => exact ⟨i, ra.1, q.val e ⟨rfl, rfl⟩⟩
  | _ => exact q.elim
/-! ### isinstance -/
def kindV (G : GX) : Kind → V
  | .int => .ty "int"
  | .bool => .ty "bool"
  | .str => .ty "str"
  | .list => .ty "list"
  | .tup => .ty "tuple"
  | .cls c => .ref (G.cls c)
def kindU (G : GX) : Kind → Value
  | .int => .type "int"
  | .bool => .type "bool"
  | .str => .type "str"
  | .list => .type "list"
  | .tup => .type "tuple"
  | .cls c => .ref (G.cls c)
theorem kind_cls (G : GX) (k : Kind) : ClsV (kindV G k) (kindU G k) := by
  cases k <;> first | exact .ty _ | exact .own _
/-- what the written part has to say of the kinds that are asked -/
structure KindI (G : GX) : Prop where
  i : ∀ c ∈ G.cs, ClsI G.K (G.cls c)
  ty : ∀ c ∈ G.cs, ∀ n ∈ ["int", "bool", "str", "list", "tuple", "NoneType"], PySem.W.kitOne G.K (.type n) (.ref (G.cls c)) = some false
  ob : ∀ c ∈ G.cs, ∀ n ∈ ["int", "bool", "str", "list", "tuple"], PySem.W.kitOne G.K (.ref (G.cls c)) (.type n) = some false
  cc : ∀ c ∈ G.cs, ∀ e ∈ G.cs, PySem.W.kitOne G.K (.ref (G.cls c)) (.ref (G.cls e)) = some (c == e)
def kindIn (cs : List Nat) : Kind → Bool
  | .cls c => cs.contains c
  | _ => true
theorem rep_sqT {p : Addr} {vs : List V} (h : SqT G.K H p vs) : TyX G.K H (.ref p) (.type "tuple") := by
  rcases h with (h | ⟨o, h⟩) | ⟨o, its, n, h1, h2, _⟩
  · exact .base (.tup h)
  · exact .fTuple h
  · exact .kTuple h1 h2
theorem isi_one {k : Kind} {t : String} {b : Bool} (I : KindI G) (hk : kindIn G.cs k = true) (ht : t ∈ ["int", "bool", "str", "list", "tuple", "NoneType"])
    (h : ∀ n, kindU G k = .type n → kitB t n = some b) (hc : ∀ c, k = .cls c → b = false) : PySem.W.kitOne G.K (.type t) (kindU G k) = some b := by
  cases k with
  | cls c =>
    rw [hc c rfl]
    exact I.ty c (by simpa [kindIn] using hk) t ht
  | _ => exact kit_ty (h _ rfl)
theorem dn_isi {k : Kind} (I : KindI G) (hk : kindIn G.cs k = true) : ∀ F H a x S (Q : VK), Same F H → Rep G F H a x S → PostV G F H (a.isI k) Q → rIsi G.K [x, kindV G k] H Q := by
  intro F H a x S Q e ra q
  have go : ∀ (t : Value) (b : Bool), a.isI k = .ok (.bl b) → TyX G.K H x t → PySem.W.kitOne G.K t (kindU G k) = some b → rIsi G.K [x, kindV G k] H Q := fun t b h1 h2 h3 => by
    rw [h1] at q
    exact ⟨x, _, t, _, b, rfl, kind_cls G k, h2, h3, q.val e ⟨rfl, rfl⟩⟩
  cases a with
  | dead => exact q.elim
  | dct o t ks vs => exact q.elim
  | scr ns => exact q.elim
  | exn c ns vs => exact q.elim
  | non =>
    have hx : x = .non := ra.1
    subst hx
    refine go (.type "NoneType") false (by cases k <;> rfl) (.base .non) (isi_one I hk (by decide) (fun n hn => ?_) fun _ _ => rfl)
    cases k <;> cases hn <;> decide +kernel
  | bl b =>
    have hx : x = .bl b := ra.1
    subst hx
    cases k with
    | int => exact go (.type "bool") true rfl (.base (.bl b)) (kit_ty (by decide +kernel))
    | bool => exact go (.type "bool") true rfl (.base (.bl b)) (kit_ty (by decide +kernel))
    | cls c => exact go (.type "bool") false rfl (.base (.bl b)) (isi_one I hk (by decide) (fun n hn => nomatch hn) fun _ _ => rfl)
    | _ => exact go (.type "bool") false rfl (.base (.bl b)) (kit_ty (by decide +kernel))
  | int i =>
    have hx : x = .int i := ra.1
    subst hx
    cases k with
    | int => exact go (.type "int") true rfl (.base (.int i)) (kit_ty (by decide +kernel))
    | cls c => exact go (.type "int") false rfl (.base (.int i)) (isi_one I hk (by decide) (fun n hn => nomatch hn) fun _ _ => rfl)
    | _ => exact go (.type "int") false rfl (.base (.int i)) (kit_ty (by decide +kernel))
  | str i =>
    have hx : x = .str i := ra.1
    subst hx
    cases k with
    | str => exact go (.type "str") true rfl (.base (.str i)) (kit_ty (by decide +kernel))
    | cls c => exact go (.type "str") false rfl (.base (.str i)) (isi_one I hk (by decide) (fun n hn => nomatch hn) fun _ _ => rfl)
    | _ => exact go (.type "str") false rfl (.base (.str i)) (kit_ty (by decide +kernel))
  | lst o xs =>
    obtain ⟨p, vs, S', rfl, hp, hr⟩ := rep_lst e ra
    cases k with
    | list => exact go (.type "list") true rfl (.base (.lst hp)) (kit_ty (by decide +kernel))
    | cls c => exact go (.type "list") false rfl (.base (.lst hp)) (isi_one I hk (by decide) (fun n hn => nomatch hn) fun _ _ => rfl)
    | _ => exact go (.type "list") false rfl (.base (.lst hp)) (kit_ty (by decide +kernel))
  | tup o xs =>
    obtain ⟨p, vs, S', rfl, hp, hr⟩ := rep_tup e ra
    cases k with
    | tup => exact go (.type "tuple") true rfl (rep_sqT hp) (kit_ty (by decide +kernel))
    | cls c => exact go (.type "tuple") false rfl (rep_sqT hp) (isi_one I hk (by decide) (fun n hn => nomatch hn) fun _ _ => rfl)
    | _ => exact go (.type "tuple") false rfl (rep_sqT hp) (kit_ty (by decide +kernel))
  | obj o c ns vs =>
    obtain ⟨p, dx, fs, T, rfl, hr, hn, ha⟩ := ra
    have hp : H p = some (.ins (G.cls c) dx fs) := by
      cases o with
      | true => exact ha.1
      | false => exact e _ _ ha.1
    have hc : c ∈ G.cs := hn.2
    have ci := I.i c hc
    have ty : TyX G.K H (.ref p) (.ref (G.cls c)) := .base (.ins hp ci.cl ci.ha ci.hn ci.ht ci.hm)
    cases k with
    | cls d => exact go _ (c == d) rfl ty (I.cc c hc d (by simpa [kindIn] using hk))
    | _ => exact go _ false rfl ty (I.ob c hc _ (by decide))
end
end MP
set_option Elab.async false
set_option linter.all false
set_option maxRecDepth 100000
set_option maxHeartbeats 1000000
namespace MP
open PySem L2
/-! ### freezing -/
def ext (F H : Hp) (T : List Addr) : Hp := fun p => if p ∈ T then H p else F p
theorem ext_same {F H : Hp} {T : List Addr} (h : ∀ p ∈ T, F p = none) : Same F (ext F H T) := fun b o e => by
  unfold ext
  split
  · rename_i hb
    rw [h b hb] at e
    cases e
  · exact e
theorem ext_sub {F H : Hp} {T : List Addr} (e : Same F H) : Same (ext F H T) H := fun b o h => by
  unfold ext at h
  split at h
  · exact h
  · exact e b o h
section
variable {G : GX} {W : WX} {F H F1 H1 : Hp}
theorem Gr.frz {T : List Addr} (g : Gr F H F1 H1) (n : ∀ p ∈ T, F1 p = none) (k : ∀ p ∈ T, H p = none) : Gr F H (ext F1 H1 T) H1 := by
  refine ⟨g.f.trans (ext_same n), g.h, ext_sub g.fh, fun p a b => ?_⟩
  unfold ext at b
  split at b
  · rename_i hp
    exact k p hp
  · exact g.new p a b
theorem Rep.frozen {d : D} {v : V} {T : List Addr} (r : Rep G F1 H1 d v T) : Rep G (ext F1 H1 T) H1 d.flat v [] :=
  Rep.frz (ext_same fun p hp => (Rep.own d r p hp).1) d r fun p hp => by
    unfold ext
    rw [if_pos hp]
theorem Reps.frozen {ds : List D} {vs : List V} {T : List Addr} (r : Reps G F1 H1 ds vs T) : Reps G (ext F1 H1 T) H1 (D.flatL ds) vs [] :=
  Reps.frz (ext_same fun p hp => (Reps.own ds r p hp).1) ds r fun p hp => by
    unfold ext
    rw [if_pos hp]
end
mutual
theorem flat_sh : ∀ d : D, d.flat.isSh = true
  | .dead => rfl
  | .non => rfl
  | .bl b => rfl
  | .int i => rfl
  | .str x => rfl
  | .lst o xs => by
    show (!false && D.isShL (D.flatL xs)) = true
    rw [flatL_sh xs]; rfl
  | .tup o xs => by
    show (!false && D.isShL (D.flatL xs)) = true
    rw [flatL_sh xs]; rfl
  | .dct o t ks vs => by
    show (!false && D.isShL (D.flatL vs)) = true
    rw [flatL_sh vs]; rfl
  | .obj o c ns vs => by
    show (!false && D.isShL (D.flatL vs)) = true
    rw [flatL_sh vs]; rfl
  | .scr ns => rfl
  | .exn c ns vs => rfl
theorem flatL_sh : ∀ l : List D, D.isShL (D.flatL l) = true
  | [] => rfl
  | d :: r => by
    show (D.isSh d.flat && D.isShL (D.flatL r)) = true
    rw [flat_sh d, flatL_sh r]; rfl
end
mutual
theorem flat_of : ∀ d : D, d.isSh = true → d.flat = d
  | .dead, _ => rfl
  | .non, _ => rfl
  | .bl b, _ => rfl
  | .int i, _ => rfl
  | .str x, _ => rfl
  | .lst o xs, h => by
    cases o with
    | true => cases h
    | false =>
      show D.lst false (D.flatL xs) = _
      rw [flatL_of xs (by simpa [D.isSh] using h)]
  | .tup o xs, h => by
    cases o with
    | true => cases h
    | false =>
      show D.tup false (D.flatL xs) = _
      rw [flatL_of xs (by simpa [D.isSh] using h)]
  | .dct o t ks vs, h => by
    cases o with
    | true => cases h
    | false =>
      show D.dct false t ks (D.flatL vs) = _
      rw [flatL_of vs (by simpa [D.isSh] using h)]
  | .obj o c ns vs, h => by
    cases o with
    | true => cases h
    | false =>
      show D.obj false c ns (D.flatL vs) = _
      rw [flatL_of vs (by simpa [D.isSh] using h)]
  | .scr ns, _ => rfl
  | .exn c ns vs, h => nomatch h
theorem flatL_of : ∀ l : List D, D.isShL l = true → D.flatL l = l
  | [], _ => rfl
  | d :: r, h => by
    simp only [D.isShL, Bool.and_eq_true] at h
    show D.flat d :: D.flatL r = _
    rw [flat_of d h.1, flatL_of r h.2]
end
/-! ### names, constants -/
section
variable {G : GX} {W : WX}
theorem den_pk (i : Nat) (f : Bool → Bool) (φ : List D → Res D) (hφ : ∀ δ, φ δ = match gd δ i with | .dead => .stuck | d => .ok d) (fr : Bool) (ms : List Nat) (hm : fr = true → i ∈ ms) : DenE G W (tVar i) φ fr ms := by
  intro σ F H δ S Q k p
  rw [hφ] at p
  by_cases hd : gd δ i = .dead
  · rw [hd] at p
    exact p.elim
  · have p : PostE G W F H σ S fr ms (.ok (gd δ i)) Q := by
      cases q : gd δ i <;> first | exact absurd q hd | (rw [q] at p; exact p)
    obtain ⟨v, a, r⟩ := k.get rfl hd
    exact ⟨v, a, p v F H (S i) (.refl k.fh) r fun h1 _ => ⟨k.nd i, fun x hx => .inr ⟨i, hm h1, hx⟩⟩⟩
theorem den_const {v : V} {d : D} (h : ∀ F H, Rep G F H d v []) : DenE G W (tC v) (fun _ => .ok d) true [] := by
  intro σ F H δ S Q k p
  exact p.val k.fh (h F H)
/-! ### and, or, not, a if c else b; tests -/
def PostT (G : GX) (W : WX) (F H : Hp) (σ : St) (r : Res D) (Q : Bool → Hp → Prop) : Prop := match r with
  | .ok (.bl b) => ∀ F' H', Gr F H F' H' → Q b H'
  | .ok _ => False
  | .exc x => ∀ c dx F' H' T, Gr F H F' H' → XRep G F' H' x c dx T → W c dx σ H'
  | .stuck => False
def DenT (G : GX) (W : WX) (t : TT) (φ : List D → Res D) : Prop :=
  ∀ σ F H δ S Q, Ok G F H σ δ S → PostT G W F H σ (φ δ) Q → t σ H Q
theorem PostT.step {F H F' H' : Hp} {σ : St} {r : Res D} {Q : Bool → Hp → Prop} (p : PostT G W F H σ r Q) (g : Gr F H F' H') : PostT G W F' H' σ r Q := by
  cases r with
  | ok d =>
    cases d with
    | bl b => exact fun F2 H2 g2 => p F2 H2 (g.trans g2)
    | _ => exact p.elim
  | exc x => exact fun c dx F2 H2 T g2 xr => p c dx F2 H2 T (g.trans g2) xr
  | stuck => exact p
theorem post_tb {F H : Hp} {σ : St} {S : Nat → List Addr} {fr : Bool} {ms : List Nat} {r : Res D} {Q : Bool → Hp → Prop} (p : PostT G W F H σ r Q) : PostE G W F H σ S fr ms r (fun x H1 => ∃ c, x = .bl c ∧ Q c H1) := by
  cases r with
  | ok d =>
    cases d with
    | bl b => exact fun v F' H' T g rp _ => ⟨b, rp.1, p F' H' g⟩
    | _ => exact p.elim
  | exc x => exact p
  | stuck => exact p
theorem den_tB {t : TE} {φ : List D → Res D} {fr : Bool} {ms : List Nat} (h : DenE G W t φ fr ms) : DenT G W (tB t) φ := fun σ F H δ S Q k p => h σ F H δ S _ k (post_tb p)
/-- a test, then what follows from its answer -/
theorem DenT.go {t : TT} {φ : List D → Res D} (h : DenT G W t φ) {σ : St} {F H : Hp} {δ : List D} {S : Nat → List Addr} {Q : Bool → Hp → Prop} (k : Ok G F H σ δ S)
    (he : ∀ x, φ δ = .exc x → ∀ c dx F' H' T, Gr F H F' H' → XRep G F' H' x c dx T → W c dx σ H') (hb : ∃ r, φ δ = r ∧ ((∃ b, r = .ok (.bl b)) ∨ ∃ x, r = .exc x))
    (n : ∀ b F' H', φ δ = .ok (.bl b) → Gr F H F' H' → Ok G F' H' σ δ S → Q b H') : t σ H Q := by
  refine h σ F H δ S Q k ?_
  obtain ⟨r, e, hr⟩ := hb
  rcases hr with ⟨b, rfl⟩ | ⟨x, rfl⟩
  · rw [e]
    exact fun F' H' g => n b F' H' e g (k.gr g)
  · rw [e]
    exact he x e
def band (φ ψ : List D → Res D) : List D → Res D := fun δ => (φ δ).bind fun x => match x with
  | .bl true => (ψ δ).bind fun y => match y with
    | .bl k => .ok (.bl k)
    | _ => .stuck
  | .bl false => .ok (.bl false)
  | _ => .stuck
def bor (φ ψ : List D → Res D) : List D → Res D := fun δ => (φ δ).bind fun x => match x with
  | .bl true => .ok (.bl true)
  | .bl false => (ψ δ).bind fun y => match y with
    | .bl k => .ok (.bl k)
    | _ => .stuck
  | _ => .stuck
theorem post_bl {F H : Hp} {σ : St} {r : Res D} {Q : Bool → Hp → Prop} (p : PostT G W F H σ (r.bind fun y => match y with | .bl k => .ok (.bl k) | _ => .stuck) Q) : PostT G W F H σ r Q := by
  cases r with
  | ok d => cases d <;> first | exact p | exact p.elim
  | exc x => exact p
  | stuck => exact p
theorem post_blE {F H : Hp} {σ : St} {S : Nat → List Addr} {fr : Bool} {ms : List Nat} {r : Res D} {Q : VK} (p : PostE G W F H σ S true [] (r.bind fun y => match y with | .bl k => .ok (.bl k) | _ => .stuck) Q) : PostE G W F H σ S fr ms r Q := by
  cases r with
  | ok d =>
    cases d with
    | bl k =>
      intro v F' H' T g rp _
      have e : T = [] := rp.2
      subst e
      exact p v F' H' [] g rp fun _ _ => ⟨List.nodup_nil, fun x hx => nomatch hx⟩
    | _ => exact p.elim
  | exc x => exact p
  | stuck => exact p
theorem den_andT {t u : TT} {φ ψ : List D → Res D} (h : DenT G W t φ) (h2 : DenT G W u ψ) : DenT G W (tAnd t u) (band φ ψ) := by
  intro σ F H δ S Q k p
  refine h σ F H δ S _ k ?_
  unfold band at p
  cases e : φ δ with
  | ok d =>
    rw [e] at p
    cases d with
    | bl b =>
      intro F' H' g
      cases b with
      | true =>
        show u σ H' Q
        exact h2 σ F' H' δ S Q (k.gr g) (PostT.step (post_bl p) g)
      | false => exact p F' H' g
    | _ => exact p.elim
  | exc x => rw [e] at p; exact p
  | stuck => rw [e] at p; exact p.elim
theorem den_orT {t u : TT} {φ ψ : List D → Res D} (h : DenT G W t φ) (h2 : DenT G W u ψ) : DenT G W (tOr t u) (bor φ ψ) := by
  intro σ F H δ S Q k p
  refine h σ F H δ S _ k ?_
  unfold bor at p
  cases e : φ δ with
  | ok d =>
    rw [e] at p
    cases d with
    | bl b =>
      intro F' H' g
      cases b with
      | false =>
        show u σ H' Q
        exact h2 σ F' H' δ S Q (k.gr g) (PostT.step (post_bl p) g)
      | true => exact p F' H' g
    | _ => exact p.elim
  | exc x => rw [e] at p; exact p
  | stuck => rw [e] at p; exact p.elim
theorem den_notT {t : TT} {φ : List D → Res D} (h : DenT G W t φ) : DenT G W (tNot t) (fun δ => (φ δ).bind (sem1 .not)) := by
  intro σ F H δ S Q k p
  refine h σ F H δ S _ k ?_
  have p : PostT G W F H σ ((φ δ).bind (sem1 .not)) Q := p
  cases e : φ δ with
  | ok d =>
    rw [e] at p
    cases d with
    | bl b => exact p
    | _ => exact p.elim
  | exc x => rw [e] at p; exact p
  | stuck => rw [e] at p; exact p.elim
theorem den_and {ta tb : TE} {φ ψ : List D → Res D} {fr fr2 : Bool} {ms ms2 : List Nat} (ha : DenE G W ta φ fr ms) (hb : DenE G W tb ψ fr2 ms2) : DenE G W (tAndV ta tb) (band φ ψ) true [] := by
  intro σ F H δ S Q k p
  refine ha.go k p fun d v F' H' T e g k1 r _ p1 => ?_
  cases d with
  | bl b =>
    refine ⟨b, r.1, ?_⟩
    cases b with
    | true =>
      show tb σ H' Q
      exact hb σ F' H' δ S Q k1 (post_blE (p1.step g))
    | false => exact p1.step g |>.val g.fh ⟨rfl, rfl⟩
  | _ => exact p1.elim
theorem den_or {ta tb : TE} {φ ψ : List D → Res D} {fr fr2 : Bool} {ms ms2 : List Nat} (ha : DenE G W ta φ fr ms) (hb : DenE G W tb ψ fr2 ms2) : DenE G W (tOrV ta tb) (bor φ ψ) true [] := by
  intro σ F H δ S Q k p
  refine ha.go k p fun d v F' H' T e g k1 r _ p1 => ?_
  cases d with
  | bl b =>
    refine ⟨b, r.1, ?_⟩
    cases b with
    | false =>
      show tb σ H' Q
      exact hb σ F' H' δ S Q k1 (post_blE (p1.step g))
    | true => exact p1.step g |>.val g.fh ⟨rfl, rfl⟩
  | _ => exact p1.elim
theorem den_notV {ta : TE} {φ : List D → Res D} {fr : Bool} {ms : List Nat} (ha : DenE G W ta φ fr ms) : DenE G W (tNotV ta) (fun δ => (φ δ).bind (sem1 .not)) true [] := by
  intro σ F H δ S Q k p
  refine ha.go k p fun d v F' H' T e g k1 r _ p1 => ?_
  cases d with
  | bl b => exact ⟨b, r.1, p1.step g |>.val g.fh ⟨rfl, rfl⟩⟩
  | _ => exact p1.elim
theorem den_ite {tc : TT} {ta tb : TE} {χ φ ψ : List D → Res D} {fr fr2 : Bool} {ms ms2 : List Nat} (hc : DenT G W tc χ) (ha : DenE G W ta φ fr ms) (hb : DenE G W tb ψ fr2 ms2) :
    DenE G W (tIf tc ta tb) (fun δ => (χ δ).bind fun x => match x with | .bl true => φ δ | .bl false => ψ δ | _ => .stuck) false [] := by
  intro σ F H δ S Q k p
  have weak : ∀ {fr : Bool} {ms : List Nat} {F H : Hp} {r : Res D}, PostE G W F H σ S false [] r Q → PostE G W F H σ S fr ms r Q := fun {fr ms F H r} p => by
    cases r with
    | ok d => exact fun v F' H' T g rp _ => p v F' H' T g rp fun z => nomatch z
    | exc x => exact p
    | stuck => exact p
  refine hc σ F H δ S _ k ?_
  dsimp only at p
  cases e : χ δ with
  | ok d =>
    rw [e] at p
    cases d with
    | bl b =>
      intro F' H' g
      cases b with
      | true =>
        show ta σ H' Q
        exact ha σ F' H' δ S Q (k.gr g) (weak (PostE.step p g))
      | false =>
        show tb σ H' Q
        exact hb σ F' H' δ S Q (k.gr g) (weak (PostE.step p g))
    | _ => exact p.elim
  | exc x => rw [e] at p; exact p
  | stuck => rw [e] at p; exact p.elim
end
end MP
set_option Elab.async false
set_option linter.all false
set_option maxRecDepth 100000
set_option maxHeartbeats 1000000
namespace MP
open PySem L2 PyProof.Rows
/-! ### chains of comparisons of ints -/
def cmpP : Op2 → Int → Int → Bool
  | .lt => fun i j => decide (i < j)
  | .le => fun i j => decide (i ≤ j)
  | .gt => fun i j => decide (j < i)
  | .ge => fun i j => decide (j ≤ i)
  | _ => fun _ _ => false
def cmpO : Op2 → CmpOp
  | .lt => .Lt
  | .le => .LtE
  | .gt => .Gt
  | .ge => .GtE
  | _ => .Eq
abbrev rCmp (o : Op2) : R2 := rI0 fun i j => .bl (cmpP o i j)
theorem op_cmpR {X : Cx} {o : Op2} (h : cmpR o = true) : OpR X (compareOp (cmpO o)) (rCmp o) := by
  cases o <;> first | exact op_lt | exact op_le | exact op_gt | exact op_ge | cases h
theorem dn_cmpR {G : GX} {o : Op2} (h : cmpR o = true) : Den2 G (rCmp o) (sem2 o) := by
  cases o <;> first | exact dn_lt | exact dn_le | exact dn_gt | exact dn_ge | cases h
theorem cmp_ints {o : Op2} {a b d : D} (h : cmpR o = true) (e : sem2 o a b = .ok d) : ∃ i j, a = .int i ∧ b = .int j ∧ d = .bl (cmpP o i j) := by
  cases o <;> first | cases h | skip
  all_goals (cases a <;> first | cases e | (cases b <;> first | exact ⟨_, _, rfl, rfl, (Res.ok.inj e).symm⟩ | cases e))
def tChain3 (r r' r'' : R2) (ta tb tc td : TE) : TE := fun σ H Q => ta σ H fun x H1 => tb σ H1 fun y H2 => r x y H2 fun z H3 => ∃ k, z = .bl k ∧
  (if k = true then tc σ H3 fun w' H4 => r' y w' H4 fun z H5 => ∃ k, z = .bl k ∧ (if k = true then td σ H5 fun u H6 => r'' w' u H6 Q else Q (.bl false) H5) else Q (.bl false) H3)
section
variable {X : Cx} {a b c d : Expr} {ta tb tc td : TE} {pos : Pos}
theorem pe_chain3 {op op' op'' : CmpOp} {r r' r'' : R2} (ho : OpR X (compareOp op) r) (ho' : OpR X (compareOp op') r') (ho'' : OpR X (compareOp op'') r'') (ha : PE X a ta) (hb : PE X b tb) (hc : PE X c tc) (hd : PE X d td)
    (hm : lastMarks [op, op', op''] [b, c, d] = false) : PE X (.Compare a [op, op', op''] [b, c, d] pos) (tChain3 r r' r'' ta tb tc td) := by
  refine ⟨fun pins s σ H Q I h => ?_⟩
  refine Compare_chain (thn (ha.run pins s σ H _ I h) fun v s1 ⟨x, H1, I1, r1, q1⟩ => chain_link (thn (hb.run pins s1 σ H1 _ I1 q1) fun u s2 ⟨y, H2, I2, r2, q2⟩ =>
    thn (ho pins s2 σ H2 x y v u _ I2 r1 r2 q2) fun dd s3 ⟨z, H3, I3, r3, k, e, q3⟩ => ?_)) hm
  subst e
  cases r3
  refine wpAny_truthy_bool ?_
  cases k with
  | false => exact ite_ff ⟨.bl false, H3, I3, rfl, q3⟩
  | true =>
    refine ite_tt (chain_link (thn (hc.run pins s3 σ H3 _ I3 q3) fun w' s4 ⟨z', H4, I4, r4, q4⟩ => thn (ho' pins s4 σ H4 y z' u w' _ I4 r2 r4 q4) fun dd s5 ⟨z2, H5, I5, r5, k2, e2, q5⟩ => ?_))
    subst e2
    cases r5
    refine wpAny_truthy_bool ?_
    cases k2 with
    | false => exact ite_ff ⟨.bl false, H5, I5, rfl, q5⟩
    | true => exact ite_tt (chain_last (thn (hd.run pins s5 σ H5 _ I5 q5) fun w2 s6 ⟨z3, H6, I6, r6, q6⟩ => ho'' pins s6 σ H6 z' z3 w' w2 Q I6 r4 r6 q6))
theorem pt_chain3 {op op' op'' : CmpOp} {r r' r'' : R2} (ho : OpR X (compareOp op) r) (ho' : OpR X (compareOp op') r') (ho'' : OpR X (compareOp op'') r'') (ha : PE X a ta) (hb : PE X b tb) (hc : PE X c tc) (hd : PE X d td)
    (hm : lastMarks [op, op', op''] [b, c, d] = false) : PT X (.Compare a [op, op', op''] [b, c, d] pos) (tTest (tChain3 r r' r'' ta tb tc td)) := by
  refine ⟨fun pins s σ H Q I h => ?_⟩
  refine isTrue_chain (thn (ha.run pins s σ H _ I h) fun v s1 ⟨x, H1, I1, r1, q1⟩ => test_link (thn (hb.run pins s1 σ H1 _ I1 q1) fun u s2 ⟨y, H2, I2, r2, q2⟩ =>
    thn (ho pins s2 σ H2 x y v u _ I2 r1 r2 q2) fun dd s3 ⟨z, H3, I3, r3, k, e, q3⟩ => ?_)) hm
  subst e
  cases r3
  refine wpAny_truthy_bool ?_
  cases k with
  | false =>
    obtain ⟨k', e', q'⟩ := q3
    cases e'
    exact ite_ff ⟨H3, I3, q'⟩
  | true =>
    refine ite_tt (test_link (thn (hc.run pins s3 σ H3 _ I3 q3) fun w' s4 ⟨z', H4, I4, r4, q4⟩ => thn (ho' pins s4 σ H4 y z' u w' _ I4 r2 r4 q4) fun dd s5 ⟨z2, H5, I5, r5, k2, e2, q5⟩ => ?_))
    subst e2
    cases r5
    refine wpAny_truthy_bool ?_
    cases k2 with
    | false =>
      obtain ⟨k', e', q'⟩ := q5
      cases e'
      exact ite_ff ⟨H5, I5, q'⟩
    | true =>
      refine ite_tt (test_last (thn (hd.run pins s5 σ H5 _ I5 q5) fun w2 s6 ⟨z3, H6, I6, r6, q6⟩ => thn (ho'' pins s6 σ H6 z' z3 w' w2 _ I6 r4 r6 q6) fun d' s7 ⟨z4, H7, I7, r7, k3, e3, q7⟩ => ?_))
      subst e3
      cases r7
      exact wpAny_truthy_bool ⟨H7, I7, q7⟩
end
section
variable {G : GX} {W : WX} {ta tb tc td : TE} {φ ψ χ ω : List D → Res D} {fr fr2 fr3 fr4 : Bool} {ms ms2 ms3 ms4 : List Nat}
theorem quiet2 (o : Op2) : Quiet2 (sem2 o) := by
  intro a b x h
  cases o <;> cases a <;> first
    | cases h
    | (cases b <;> first
        | cases h
        | (simp only [sem2, dnew, guardR] at h; (repeat' split at h) <;> cases h))
theorem quiet1 (o : Op1) : Quiet1 (sem1 o) := by
  intro a x h
  cases o <;> cases a <;> first
    | cases h
    | (simp only [sem1, dnew, guardR, D.isI] at h; (repeat' split at h) <;> cases h)
theorem den_ch2 {o p : Op2} (ho : cmpR o = true) (hp : cmpR p = true) (ha : DenE G W ta φ fr ms) (hb : DenE G W tb ψ fr2 ms2) (hc : DenE G W tc χ fr3 ms3) :
    DenE G W (tChain (rCmp o) (rCmp p) ta tb tc) (fun δ => (φ δ).bind fun x => (ψ δ).bind fun y => (sem2 o x y).bind fun z => match z with
      | .bl true => (χ δ).bind fun w => sem2 p y w
      | .bl false => .ok (.bl false)
      | _ => .stuck) true [] := by
  intro σ F H δ S Q k p'
  refine ha.go k p' fun x v F1 H1 T1 e1 g1 k1 r1 _ p1 => ?_
  refine hb.go k1 (p1.step g1) fun y u F2 H2 T2 e2 g2 k2 r2 _ p2 => ?_
  have p2 := p2.step g2
  cases e : sem2 o x y with
  | exc z => exact absurd e (quiet2 o x y z)
  | stuck => rw [e] at p2; exact p2.elim
  | ok d =>
    obtain ⟨i, j, rfl, rfl, rfl⟩ := cmp_ints ho e
    rw [e] at p2
    refine ⟨i, j, r1.1, r2.1, cmpP o i j, rfl, ?_⟩
    cases hk : cmpP o i j with
    | false =>
      rw [hk] at p2
      exact iteF (p2.val g2.fh ⟨rfl, rfl⟩)
    | true =>
      rw [hk] at p2
      refine iteT (hc.go k2 p2 fun w v3 F3 H3 T3 e3 g3 k3 r3 _ p3 => ?_)
      exact dn_cmpR hp F3 H3 _ w u v3 [] T3 Q g3.fh (by rw [show u = .int j from r2.1]; exact ⟨rfl, rfl⟩) r3 (post_to (p3.step g3) (quiet2 p _ _))
theorem den_ch3 {o p q : Op2} (ho : cmpR o = true) (hp : cmpR p = true) (hq : cmpR q = true) (ha : DenE G W ta φ fr ms) (hb : DenE G W tb ψ fr2 ms2) (hc : DenE G W tc χ fr3 ms3) (hd : DenE G W td ω fr4 ms4) :
    DenE G W (tChain3 (rCmp o) (rCmp p) (rCmp q) ta tb tc td) (fun δ => (φ δ).bind fun x => (ψ δ).bind fun y => (sem2 o x y).bind fun z => match z with
      | .bl true => (χ δ).bind fun w => (sem2 p y w).bind fun z => match z with
        | .bl true => (ω δ).bind fun u => sem2 q w u
        | .bl false => .ok (.bl false)
        | _ => .stuck
      | .bl false => .ok (.bl false)
      | _ => .stuck) true [] := by
  intro σ F H δ S Q k p'
  refine ha.go k p' fun x v F1 H1 T1 e1 g1 k1 r1 _ p1 => ?_
  refine hb.go k1 (p1.step g1) fun y u F2 H2 T2 e2 g2 k2 r2 _ p2 => ?_
  have p2 := p2.step g2
  cases e : sem2 o x y with
  | exc z => exact absurd e (quiet2 o x y z)
  | stuck => rw [e] at p2; exact p2.elim
  | ok d =>
    obtain ⟨i, j, rfl, rfl, rfl⟩ := cmp_ints ho e
    rw [e] at p2
    refine ⟨i, j, r1.1, r2.1, cmpP o i j, rfl, ?_⟩
    cases hk : cmpP o i j with
    | false =>
      rw [hk] at p2
      exact iteF (p2.val g2.fh ⟨rfl, rfl⟩)
    | true =>
      rw [hk] at p2
      refine iteT (hc.go k2 p2 fun w v3 F3 H3 T3 e3 g3 k3 r3 _ p3 => ?_)
      have p3 := p3.step g3
      cases e' : sem2 p (.int j) w with
      | exc z => exact absurd e' (quiet2 p _ _ z)
      | stuck => rw [e'] at p3; exact p3.elim
      | ok d =>
        obtain ⟨i2, j2, z1, rfl, rfl⟩ := cmp_ints hp e'
        cases z1
        rw [e'] at p3
        refine ⟨j, j2, r2.1, r3.1, cmpP p j j2, rfl, ?_⟩
        cases hk2 : cmpP p j j2 with
        | false =>
          rw [hk2] at p3
          exact iteF (p3.val g3.fh ⟨rfl, rfl⟩)
        | true =>
          rw [hk2] at p3
          refine iteT (hd.go k3 p3 fun w2 v4 F4 H4 T4 e4 g4 k4 r4 _ p4 => ?_)
          exact dn_cmpR hq F4 H4 _ w2 v3 v4 [] T4 Q g4.fh (by rw [show v3 = .int j2 from r3.1]; exact ⟨rfl, rfl⟩) r4 (post_to (p4.step g4) (quiet2 q _ _))
end
end MP
set_option Elab.async false
set_option linter.all false
set_option maxRecDepth 100000
set_option maxHeartbeats 1000000
namespace MP
open PySem L2
section
variable {G : GX} {W : WX} {ta tb tc : TE} {tr : TA} {φ ψ χ : List D → Res D} {φs : List D → Res (List D)} {fr fr2 fr3 : Bool} {ms ms2 ms3 : List Nat}
theorem fre_nil {H : Hp} {S : Nat → List Addr} {ms : List Nat} : Fre H S ms [] := ⟨List.nodup_nil, fun p hp => nomatch hp⟩
theorem Fre.back {H H' : Hp} {S : Nat → List Addr} {ms : List Nat} {T : List Addr} (f : Fre H' S ms T) (e : Same H H') : Fre H S ms T :=
  ⟨f.1, fun p hp => (f.2 p hp).elim (fun z => .inl (e.free z)) .inr⟩
theorem Fre.mono {H : Hp} {S : Nat → List Addr} {ms ms' : List Nat} {T : List Addr} (f : Fre H S ms T) (h : ∀ i ∈ ms, i ∈ ms') : Fre H S ms' T :=
  ⟨f.1, fun p hp => (f.2 p hp).elim .inl fun ⟨i, a, b⟩ => .inr ⟨i, h i a, b⟩⟩
theorem fre_app {F H F1 H1 : Hp} {σ : St} {δ : List D} {S : Nat → List Addr} {ms ms2 : List Nat} {T1 T2 : List Addr} (k : Ok G F H σ δ S) (g : Gr F H F1 H1) (f1 : Fre H S ms T1) (o1 : ∀ p ∈ T1, F1 p = none ∧ H1 p ≠ none) (f2 : Fre H1 S ms2 T2) (nd : (ms ++ ms2).Nodup) :
    Fre H S (ms ++ ms2) (T1 ++ T2) := by
  refine ⟨List.nodup_append.mpr ⟨f1.1, f2.1, fun p hp q hq e => ?_⟩, fun p hp => ?_⟩
  · subst e
    rcases f2.2 p hq with z | ⟨j, hj, hpj⟩
    · exact (o1 p hp).2 z
    · rcases f1.2 p hp with z | ⟨i, hi, hpi⟩
      · exact absurd z (k.own hpj).2
      · have e := k.sep i j p hpi hpj
        subst e
        exact (List.nodup_append.mp nd).2.2 i hi i hj rfl
  · rcases List.mem_append.mp hp with hp | hp
    · exact (f1.mono fun i hi => List.mem_append_left _ hi).2 p hp
    · exact ((f2.back g.h).mono fun i hi => List.mem_append_right _ hi).2 p hp
/-- taken: new, moved, or shared -/
theorem PostE.tk {F H : Hp} {σ : St} {S : Nat → List Addr} {r : Res D} {Q : VK} (p : PostE G W F H σ S true ms (tkOk fr r) Q) : PostE G W F H σ S fr ms r Q := by
  cases r with
  | ok d =>
    have p : PostE G W F H σ S true ms (guardR (fr || d.isSh) (.ok d)) Q := p
    obtain ⟨h, p⟩ := PostE.guard p
    intro v F' H' T g rp q
    refine p v F' H' T g rp fun _ nd => ?_
    cases hf : fr with
    | true => exact q hf nd
    | false =>
      rw [hf] at h
      have z := Rep.shn _ rp (by simpa using h)
      subst z
      exact fre_nil
  | exc x => exact p
  | stuck => exact p
/-! ### lists of values -/
theorem PostL.step {F H F' H' : Hp} {σ : St} {S : Nat → List Addr} {r : Res (List D)} {Q : List V → Hp → Prop} (p : PostL G W F H σ S fr ms r Q) (g : Gr F H F' H') : PostL G W F' H' σ S fr ms r Q := by
  cases r with
  | ok d => exact fun v F2 H2 T g2 rp q => p v F2 H2 T (g.trans g2) rp fun a b => (q a b).back g.h
  | exc x => exact fun c dx F2 H2 T g2 xr => p c dx F2 H2 T (g.trans g2) xr
  | stuck => exact p
theorem den_nil : DenL G W tNil (fun _ => .ok []) true [] := fun σ F H δ S Q k p => p [] F H [] (.refl k.fh) Reps.nil fun _ _ => fre_nil
/-- a list of taken values -/
theorem den_consT (ha : DenE G W ta φ fr ms) (hr : DenL G W tr φs true ms2) : DenL G W (tCons ta tr) (fun δ => (tkOk fr (φ δ)).bind fun x => (φs δ).bind fun xs => .ok (x :: xs)) true (ms ++ ms2) := by
  intro σ F H δ S Q k p
  refine ha σ F H δ S _ k ?_
  dsimp only at p
  cases e : φ δ with
  | exc x => rw [e] at p; exact p
  | stuck => rw [e] at p; exact p.elim
  | ok d =>
    rw [e] at p
    cases hg : (fr || d.isSh) with
    | false =>
      have p : PostL G W F H σ S true (ms ++ ms2) ((guardR (fr || d.isSh) (.ok d)).bind fun x => (φs δ).bind fun xs => .ok (x :: xs)) Q := p
      rw [hg] at p
      exact p.elim
    | true =>
      have p : PostL G W F H σ S true (ms ++ ms2) ((guardR (fr || d.isSh) (.ok d)).bind fun x => (φs δ).bind fun xs => .ok (x :: xs)) Q := p
      rw [hg] at p
      have p : PostL G W F H σ S true (ms ++ ms2) ((φs δ).bind fun xs => .ok (d :: xs)) Q := p
      intro v F1 H1 T1 g1 r1 q1
      refine hr σ F1 H1 δ S _ (k.gr g1) ?_
      cases e2 : φs δ with
      | exc x => rw [e2] at p; exact fun c dx F2 H2 T g2 xr => p c dx F2 H2 T (g1.trans g2) xr
      | stuck => rw [e2] at p; exact p.elim
      | ok ds =>
        rw [e2] at p
        intro vs F2 H2 T2 g2 r2 q2
        refine p (v :: vs) F2 H2 (T1 ++ T2) (g1.trans g2) (Reps.cons (r1.gr g2) r2) fun _ nd => ?_
        have f1 : Fre H S ms T1 := by
          cases hf : fr with
          | true => exact q1 hf (List.nodup_append.mp nd).1
          | false =>
            rw [hf] at hg
            have z := Rep.shn _ r1 (by simpa using hg)
            subst z
            exact fre_nil
        exact fre_app k g1 f1 (Rep.own d r1) (q2 rfl (List.nodup_append.mp nd).2.1) nd
/-- a list of values that are read; the new ones are frozen -/
theorem den_consL (ha : DenE G W ta φ fr []) (hr : DenL G W tr φs false []) : DenL G W (tCons ta tr) (fun δ => (φ δ).bind fun x => (φs δ).bind fun xs => .ok ((bif fr then x.flat else x) :: xs)) false [] := by
  intro σ F H δ S Q k p
  refine ha σ F H δ S _ k ?_
  dsimp only at p
  cases e : φ δ with
  | exc x => rw [e] at p; exact p
  | stuck => rw [e] at p; exact p.elim
  | ok d =>
    rw [e] at p
    have p : PostL G W F H σ S false [] ((φs δ).bind fun xs => .ok ((bif fr then d.flat else d) :: xs)) Q := p
    have go : ∀ (d' : D) (v : V) (F1 H1 : Hp) (T1 : List Addr), Gr F H F1 H1 → Rep G F1 H1 d' v T1 → PostL G W F H σ S false [] ((φs δ).bind fun xs => .ok (d' :: xs)) Q → tr σ H1 fun xs H2 => Q (v :: xs) H2 := fun d' v F1 H1 T1 g1 r1 p => by
      refine hr σ F1 H1 δ S _ (k.gr g1) ?_
      cases e2 : φs δ with
      | exc x => rw [e2] at p; exact fun c dx F2 H2 T g2 xr => p c dx F2 H2 T (g1.trans g2) xr
      | stuck => rw [e2] at p; exact p.elim
      | ok ds =>
        rw [e2] at p
        intro vs F2 H2 T2 g2 r2 q2
        exact p (v :: vs) F2 H2 (T1 ++ T2) (g1.trans g2) (Reps.cons (r1.gr g2) r2) fun z => nomatch z
    intro v F1 H1 T1 g1 r1 q1
    cases hf : fr with
    | false =>
      rw [hf] at p
      exact go d v F1 H1 T1 g1 r1 p
    | true =>
      rw [hf] at p
      have f1 := q1 hf List.nodup_nil
      have n1 : ∀ x ∈ T1, H x = none := fun x hx => (f1.2 x hx).elim id fun ⟨i, hi, _⟩ => nomatch hi
      exact go d.flat v _ H1 [] (g1.frz (fun x hx => (Rep.own d r1 x hx).1) n1) r1.frozen p
/-! ### displays -/
theorem den_lst0 (hr : DenL G W tr φs true ms) : DenE G W (tLst tr) (fun δ => (φs δ).bind fun xs => guardR (decide (xs.length ≤ 100000)) (.ok (.lst true xs))) true ms := by
  intro σ F H δ S Q k p
  refine hr.go k p fun ds vs F1 H1 T1 e1 g1 k1 r1 q1 p1 => ?_
  obtain ⟨hz, p1⟩ := PostE.guard p1
  have hz : ds.length ≤ 100000 := of_decide_eq_true hz
  refine ⟨lim_le (by rw [r1.len]; exact hz), fun a ha => ?_⟩
  have g2 : Gr F1 H1 F1 (upd H1 a (.lst vs)) := .new1 g1.fh ha
  refine p1 (.ref a) F1 _ (a :: T1) (g1.trans g2) ⟨a, vs, T1, rfl, r1.gr g2, upd_same, g1.fh.free ha, rfl⟩ fun _ nd => ?_
  have f1 := q1 rfl nd
  refine ⟨List.nodup_cons.mpr ⟨fun h => (Reps.own ds r1 a h).2 ha, f1.1⟩, fun x hx => ?_⟩
  rcases List.mem_cons.mp hx with rfl | hx
  · exact .inl (g1.h.free ha)
  · exact f1.2 x hx
theorem den_tup0 (hr : DenL G W tr φs true ms) : DenE G W (tTup tr) (fun δ => (φs δ).bind fun xs => guardR (decide (xs.length ≤ 100000)) (.ok (.tup (!D.isShL xs) xs))) true ms := by
  intro σ F H δ S Q k p
  refine hr.go k p fun ds vs F1 H1 T1 e1 g1 k1 r1 q1 p1 => ?_
  obtain ⟨hz, p1⟩ := PostE.guard p1
  have hz : ds.length ≤ 100000 := of_decide_eq_true hz
  refine ⟨lim_le (by rw [r1.len]; exact hz), fun a ha => ?_⟩
  cases hs : D.isShL ds with
  | true =>
    rw [hs] at p1
    have z := Reps.shn _ r1 hs
    subst z
    have g2 : Gr F1 H1 (upd F1 a (.tup vs)) (upd H1 a (.tup vs)) := .new2 g1.fh ha
    exact p1 (.ref a) _ _ [] (g1.trans g2) ⟨a, vs, [], rfl, r1.gr g2, .inl upd_same, rfl, rfl⟩ fun _ _ => fre_nil
  | false =>
    rw [hs] at p1
    have g2 : Gr F1 H1 F1 (upd H1 a (.tup vs)) := .new1 g1.fh ha
    refine p1 (.ref a) F1 _ (a :: T1) (g1.trans g2) ⟨a, vs, T1, rfl, r1.gr g2, upd_same, g1.fh.free ha, rfl⟩ fun _ nd => ?_
    have f1 := q1 rfl nd
    refine ⟨List.nodup_cons.mpr ⟨fun h => (Reps.own ds r1 a h).2 ha, f1.1⟩, fun x hx => ?_⟩
    rcases List.mem_cons.mp hx with rfl | hx
    · exact .inl (g1.h.free ha)
    · exact f1.2 x hx
theorem den_lst (hr : DenL G W tr φs true ms) : DenE G W (tLst tr) (fun δ => (φs δ).bind fun xs => guardR (decide (xs.length ≤ 100000)) (.ok (dispL ms.isEmpty xs))) true ms := by
  cases hm : ms.isEmpty with
  | false => exact den_lst0 hr
  | true =>
    have e := List.isEmpty_iff.mp hm
    subst e
    intro σ F H δ S Q k p
    refine hr.go k p fun ds vs F1 H1 T1 e1 g1 k1 r1 q1 p1 => ?_
    obtain ⟨hz, p1⟩ := PostE.guard p1
    have hz : ds.length ≤ 100000 := of_decide_eq_true hz
    refine ⟨lim_le (by rw [r1.len]; exact hz), fun a ha => ?_⟩
    have f1 := q1 rfl List.nodup_nil
    have hn : ∀ x ∈ T1, H x = none := fun x hx => (f1.2 x hx).elim id fun ⟨i, hi, _⟩ => nomatch hi
    have gf := g1.frz (fun x hx => (Reps.own ds r1 x hx).1) hn
    have g2 : Gr (ext F1 H1 T1) H1 (ext F1 H1 T1) (upd H1 a (.lst vs)) := .new1 gf.fh ha
    exact p1 (.ref a) _ _ [a] (gf.trans g2) ⟨a, vs, [], rfl, r1.frozen.gr g2, upd_same, gf.fh.free ha, rfl⟩ fun _ _ => ⟨by simp, fun x hx => .inl (by rw [List.mem_singleton.mp hx]; exact g1.h.free ha)⟩
theorem den_tup (hr : DenL G W tr φs true ms) : DenE G W (tTup tr) (fun δ => (φs δ).bind fun xs => guardR (decide (xs.length ≤ 100000)) (.ok (dispT ms.isEmpty xs))) true ms := by
  cases hm : ms.isEmpty with
  | false => exact den_tup0 hr
  | true =>
    have e := List.isEmpty_iff.mp hm
    subst e
    intro σ F H δ S Q k p
    refine hr.go k p fun ds vs F1 H1 T1 e1 g1 k1 r1 q1 p1 => ?_
    obtain ⟨hz, p1⟩ := PostE.guard p1
    have hz : ds.length ≤ 100000 := of_decide_eq_true hz
    refine ⟨lim_le (by rw [r1.len]; exact hz), fun a ha => ?_⟩
    have f1 := q1 rfl List.nodup_nil
    have hn : ∀ x ∈ T1, H x = none := fun x hx => (f1.2 x hx).elim id fun ⟨i, hi, _⟩ => nomatch hi
    have gf := g1.frz (fun x hx => (Reps.own ds r1 x hx).1) hn
    have g2 : Gr (ext F1 H1 T1) H1 (upd (ext F1 H1 T1) a (.tup vs)) (upd H1 a (.tup vs)) := .new2 gf.fh ha
    exact p1 (.ref a) _ _ [] (gf.trans g2) ⟨a, vs, [], rfl, r1.frozen.gr g2, .inl upd_same, rfl, rfl⟩ fun _ _ => fre_nil
/-! ### a def's promise; calls -/
def PostF (G : GX) (F H : Hp) (r : Res D) (Q : VK) (E : XK) : Prop := match r with
  | .ok d => ∀ v F' H' T, Gr F H F' H' → Rep G F' H' d v T → T.Nodup → (∀ p ∈ T, H p = none) → Q v H'
  | .exc x => ∀ c dx F' H' T, Gr F H F' H' → XRep G F' H' x c dx T → E c dx H'
  | .stuck => False
def spD (G : GX) (n : Nat) (f : List D → Res D) : Sp := fun vs H Q E => vs.length = n ∧ ∃ F ds, Same F H ∧ Reps G F H ds vs [] ∧ D.isShL ds = true ∧ PostF G F H (f ds) Q E
def tCallU (sp : Sp) (W : WX) (t : TA) : TE := fun σ H Q => t σ H fun vs H1 => sp vs H1 Q (WE W σ)
theorem flats_rep {F H F' : Hp} : ∀ {xs : List D} {vs : List V} {S : List Addr}, xs.all flatD = true → Reps G F H xs vs S → Reps G F' H xs vs S
  | [], vs, S, h, r => r
  | d :: xs, vs, S, h, r => by
    obtain ⟨v, vr, S1, S2, e1, e2, h1, h2⟩ := r
    rw [List.all_cons, Bool.and_eq_true] at h
    refine ⟨v, vr, S1, S2, e1, e2, ?_, flats_rep h.2 h2⟩
    cases d <;> first | exact h1 | cases h.1
theorem leaf_rep {F H F' : Hp} : ∀ {d : D} {v : V} {T : List Addr}, d.leaf = true → Rep G F H d v T → (∀ p, F p = none → F' p = none) → Rep G F' H d v T
  | .dead, v, T, h, r, k => by cases h
  | .non, v, T, h, r, k => r
  | .bl b, v, T, h, r, k => r
  | .int i, v, T, h, r, k => r
  | .str i, v, T, h, r, k => r
  | .lst o xs, v, T, h, r, k => by
    cases o with
    | false => cases h
    | true =>
      obtain ⟨p, vs, S, hv, hr, ha⟩ := r
      refine ⟨p, vs, S, hv, ?_, ha.1, k p ha.2.1, ha.2.2⟩
      exact flats_rep (by simpa [D.leaf] using h) hr
  | .tup o xs, v, T, h, r, k => by cases h
  | .dct o t ks vs, v, T, h, r, k => by cases h
  | .obj o c ns vs, v, T, h, r, k => by cases h
  | .scr ns, v, T, h, r, k => by cases h
  | .exn c ns vs, v, T, h, r, k => by cases h
theorem den_call {n : Nat} {f : List D → Res D} (hr : DenL G W tr φs false []) (hn : ∀ δ ds, φs δ = .ok ds → ds.length = n) :
    DenE G W (tCallU (spD G n f) W tr) (fun δ => (φs δ).bind fun xs => callOut (D.isShL xs) (f (D.flatL xs))) true [] := by
  intro σ F H δ S Q k p
  refine hr.go k p fun ds vs F1 H1 T1 e1 g1 k1 r1 q1 p1 => ?_
  have p1 := p1.step g1
  refine ⟨by rw [r1.len, hn δ ds e1], ext F1 H1 T1, D.flatL ds, ext_sub g1.fh, r1.frozen, flatL_sh ds, ?_⟩
  cases e : f (D.flatL ds) with
  | stuck => rw [e] at p1; exact p1.elim
  | exc x =>
    rw [e] at p1
    obtain ⟨hs, p1⟩ := PostE.guard p1
    have z := Reps.shn _ r1 hs
    subst z
    have ee : ext F1 H1 [] = F1 := by
      funext b
      unfold ext
      rw [if_neg (by simp)]
    rw [ee]
    exact p1
  | ok r =>
    rw [e] at p1
    obtain ⟨hl, p1⟩ := PostE.guard p1
    intro v F2 H2 T g2 rp nd nw
    cases hs : D.isShL ds with
    | true =>
      have z := Reps.shn _ r1 hs
      subst z
      have ee : ext F1 H1 [] = F1 := by
        funext b
        unfold ext
        rw [if_neg (by simp)]
      rw [ee] at g2
      exact p1 v F2 H2 T g2 rp fun _ _ => ⟨nd, fun x hx => .inl (nw x hx)⟩
    | false =>
      rw [hs, Bool.false_or] at hl
      have g3 : Gr F1 H1 F1 H2 := .heap g1.fh g2.h
      exact p1 v F1 H2 T g3 (leaf_rep hl rp fun x hx => (ext_same (F := F1) (H := H1) (T := T1) fun y hy => (Reps.own ds r1 y hy).1).free (g2.f.free hx)) fun _ _ => ⟨nd, fun x hx => .inl (nw x hx)⟩
end
end MP
set_option Elab.async false
set_option linter.all false
set_option maxRecDepth 100000
set_option maxHeartbeats 1000000
namespace MP
open PySem L2
section
variable {G : GX} {W : WX} {ta tb tc : TE} {tr : TA} {φ ψ χ : List D → Res D} {φs : List D → Res (List D)} {fr fr2 fr3 : Bool} {ms ms2 ms3 : List Nat}
/-! ### fields -/
theorem rep_field {F H : Hp} {f : Str} : ∀ {fs : List (Str × V)} {vs : List D} {T : List Addr} {d : D}, Reps G F H vs (fs.map (·.2)) T → ((fs.map (·.1)).zip vs).lookup f = some d → ∃ v S, fs.lookup f = some v ∧ Rep G F H d v S
  | [], vs, T, d, r, h => by
    simp at h
  | (g, v) :: fs, vs, T, d, r, h => by
    cases vs with
    | nil => exact absurd r.1 (by simp)
    | cons d' vs =>
      obtain ⟨v', vr, S1, S2, e1, e2, h1, h2⟩ := r
      injection e1 with ea eb
      subst ea eb
      have h : ((g, d') :: (fs.map (·.1)).zip vs).lookup f = some d := h
      rw [List.lookup_cons] at h ⊢
      cases hg : f == g with
      | true =>
        rw [hg] at h
        cases h
        exact ⟨v, S1, rfl, h1⟩
      | false =>
        rw [hg] at h
        exact rep_field h2 h
theorem den_fld {f : Str} (hc : ∀ c ∈ G.cs, Cls G.K (G.cls c)) (hf : ∀ c ∈ G.cs, NoAttr G.K (G.cls c) f) (ha : DenE G W ta φ fr ms) :
    DenE G W (tFld G.K ta f) (fun δ => (φ δ).bind fun x => match x.getF f with | some d => guardR d.isSh (.ok d) | none => .stuck) false [] := by
  intro σ F H δ S Q k p
  refine ha.go k p fun x v F1 H1 T1 e1 g1 k1 r1 _ p1 => ?_
  have p1 := p1.step g1
  cases x with
  | obj o c ns vs =>
    obtain ⟨a, dx, fs, T, rfl, hr, hn, hat⟩ := r1
    have hp : H1 a = some (.ins (G.cls c) dx fs) := by
      cases o with
      | true => exact hat.1
      | false => exact g1.fh _ _ hat.1
    have p1 : PostE G W F1 H1 σ S false [] (match (ns.zip vs).lookup f with | some d => guardR d.isSh (.ok d) | none => .stuck) Q := p1
    cases e : (ns.zip vs).lookup f with
    | none => rw [e] at p1; exact p1.elim
    | some d =>
      rw [e] at p1
      obtain ⟨hs, p1⟩ := PostE.guard p1
      rw [hn.1] at e
      obtain ⟨v', S', h1, h2⟩ := rep_field hr e
      have z := Rep.shn _ h2 hs
      subst z
      exact ⟨a, _, dx, fs, v', rfl, hp, hc c hn.2, hf c hn.2, h1, p1.val g1.fh h2⟩
  | _ => exact p1.elim
/-! ### methods of built-in types -/
theorem den_index (ha : DenE G W ta φ fr ms) (hb : DenE G W tb ψ fr2 ms2) :
    DenE G W (tBM G.K "list" (rIndex G.K) ta (tCons tb tNil)) (fun δ => (φ δ).bind fun x => guardR (recv .index x) ((ψ δ).bind fun y => sem2 .index x y)) true [] := by
  intro σ F H δ S Q k p
  refine ha.go k p fun x v F1 H1 T1 e1 g1 k1 r1 _ p1 => ?_
  cases x with
  | lst o xs =>
    obtain ⟨a, vs, S', rfl, hp, hr⟩ := rep_lst g1.fh r1
    refine ⟨.inl ⟨rfl, vs, SqL.of hp⟩, ?_⟩
    have p1 := (PostE.guard p1).2
    refine hb.go k1 (p1.step g1) fun y u F2 H2 T2 e2 g2 k2 r2 _ p2 => ?_
    have p2 := p2.step g2
    have hp2 : H2 a = some (.lst vs) := g2.h _ _ hp
    have hr2 := hr.gr g2
    have p2 : PostE G W F2 H2 σ S true [] (guardR (flatD y && xs.all flatD) (match firstAt y xs 0 with | some i => .ok (.int (i : Int)) | none => .stuck)) Q := by
      cases y <;> exact p2
    obtain ⟨hfl, p2⟩ := PostE.guard p2
    rw [Bool.and_eq_true] at hfl
    obtain ⟨fv, _⟩ := flats_in hr2 r2 hfl.1 hfl.2
    cases e : firstAt y xs 0 with
    | none => rw [e] at p2; exact p2.elim
    | some i =>
      rw [e] at p2
      have first : ∀ (xs : List D) (n i : Nat), firstAt y xs n = some i → ∃ j, i = n + j ∧ (∃ z, xs[j]? = some z ∧ D.eqv z y = true) ∧ ∀ m z, m < j → xs[m]? = some z → D.eqv z y = false := fun xs => by
        induction xs with
        | nil => intro n i h; cases h
        | cons d r ih =>
          intro n i h
          unfold firstAt at h
          cases hq : D.eqv d y with
          | true =>
            rw [hq, if_pos rfl] at h
            cases h
            exact ⟨0, rfl, ⟨d, rfl, hq⟩, fun m z hm => absurd hm (by omega)⟩
          | false =>
            rw [hq, if_neg Bool.false_ne_true] at h
            obtain ⟨j, a1, ⟨z, b1, b2⟩, c1⟩ := ih (n + 1) i h
            refine ⟨j + 1, by omega, ⟨z, by simpa using b1, b2⟩, fun m z hm hz => ?_⟩
            cases m with
            | zero =>
              have : d = z := by simpa using hz
              rw [← this]; exact hq
            | succ m => exact c1 m z (by omega) (by simpa using hz)
      obtain ⟨j, ei, ⟨z, hz, hzy⟩, hno⟩ := first xs 0 i e
      have ei : i = j := by omega
      subst ei
      obtain ⟨vz, Tz, hvz, rz, _⟩ := hr2.get hz
      have fz : flatD z = true := List.all_eq_true.mp hfl.2 z (List.mem_of_getElem? hz)
      refine ⟨a, vs, u, i, vz, rfl, rfl, SqL.of hp2, flat_py r2 hfl.1, fv, hvz, by rw [flat_eqv rz r2 fz hfl.1]; exact hzy, fun m z' hm hz' => ?_, p2.val g2.fh ⟨rfl, rfl⟩⟩
      obtain ⟨dm, hdm⟩ : ∃ dm, xs[m]? = some dm := by
        have hl : m < vs.length := (List.getElem?_eq_some_iff.mp hz').1
        rw [hr2.len] at hl
        exact ⟨xs[m], List.getElem?_eq_getElem hl⟩
      obtain ⟨vm, Tm, hvm, rm, _⟩ := hr2.get hdm
      rw [hz'] at hvm
      cases hvm
      rw [flat_eqv rm r2 (List.all_eq_true.mp hfl.2 dm (List.mem_of_getElem? hdm)) hfl.1]
      exact hno m dm hm hdm
  | _ => exact absurd (PostE.guard p1).1 (by simp [recv])
abbrev rJoinA (K : PySem.W.Frag) : V → List V → Hp → VK → Prop := fun x xs H Q => ∃ a p, ∃ ys : List Str, x = .str a ∧ xs = [.ref p] ∧ (SqL K H p (ys.map V.str) ∨ SqT K H p (ys.map V.str)) ∧
    (ys.map (·.length)).sum + ys.length * a.length ≤ 16777216 ∧ Q (.str (Txt.join a ys)) H
theorem den_join (ha : DenE G W ta φ fr ms) (hb : DenE G W tb ψ fr2 ms2) :
    DenE G W (tM1 (rJoinA G.K) ta tb) (fun δ => (φ δ).bind fun x => guardR (recv .join x) ((ψ δ).bind fun y => sem2 .join x y)) true [] := by
  intro σ F H δ S Q k p
  refine ha.go k p fun x v F1 H1 T1 e1 g1 k1 r1 _ p1 => ?_
  cases x with
  | str a =>
    refine ⟨⟨a, r1.1⟩, ?_⟩
    have p1 := (PostE.guard p1).2
    refine hb.go k1 (p1.step g1) fun y u F2 H2 T2 e2 g2 k2 r2 _ p2 => ?_
    have p2 := p2.step g2
    cases y with
    | lst o xs =>
      have p2 : PostE G W F2 H2 σ S true [] (match strsOf xs with | some ys => guardR (decide ((ys.map (·.length)).sum + ys.length * a.length ≤ 100000)) (.ok (.str (Txt.join a ys))) | none => .stuck) Q := p2
      cases e : strsOf xs with
      | none => rw [e] at p2; exact p2.elim
      | some ys =>
        rw [e] at p2
        obtain ⟨hz, p2⟩ := PostE.guard p2
        have hz : (ys.map (·.length)).sum + ys.length * a.length ≤ 100000 := of_decide_eq_true hz
        obtain ⟨p, vs, S', rfl, hp, hr⟩ := rep_lst g2.fh r2
        have ev := strsOf_eq e hr
        subst ev
        exact ⟨a, p, ys, r1.1, rfl, .inl (SqL.of hp), by omega, p2.val g2.fh ⟨rfl, rfl⟩⟩
    | _ => exact p2.elim
  | _ => exact absurd (PostE.guard p1).1 (by simp [recv])
theorem den_get2 (ha : DenE G W ta φ fr ms) (hb : DenE G W tb ψ fr2 ms2) (hc : DenE G W tc χ fr3 ms3) :
    DenE G W (tDGet2 ta tb tc) (fun δ => (φ δ).bind fun x => guardR x.isD ((ψ δ).bind fun y => (tkOk fr3 (χ δ)).bind fun z => sem3 .get2 x y z)) fr3 ms3 := by
  intro σ F H δ S Q k p
  refine ha.go k p fun x v F1 H1 T1 e1 g1 k1 r1 _ p1 => ?_
  cases x with
  | dct o t ks vs =>
    have hD : ∃ a, v = .ref a ∧ ∃ u, H1 a = some u ∧ ((∃ kvs, u = .dK kvs) ∨ ∃ kvs, u = .dT kvs) := by
      cases t with
      | false =>
        obtain ⟨q, kvs, T, hv, _, _, ha⟩ := r1
        refine ⟨q, hv, .dK kvs, ?_, .inl ⟨_, rfl⟩⟩
        cases o with
        | true => exact ha.1
        | false => exact g1.fh _ _ ha.1
      | true =>
        obtain ⟨q, kvs, T, hv, _, _, ha⟩ := r1
        refine ⟨q, hv, .dT kvs, ?_, .inr ⟨_, rfl⟩⟩
        cases o with
        | true => exact ha.1
        | false => exact g1.fh _ _ ha.1
    obtain ⟨a, rfl, u, hu, hk⟩ := hD
    refine ⟨a, rfl, ?_, ?_⟩
    · rcases hk with ⟨kvs, rfl⟩ | ⟨kvs, rfl⟩
      · exact .inl ⟨kvs, .inl hu⟩
      · exact .inr ⟨kvs, .inl hu⟩
    have p1 := (PostE.guard p1).2
    refine hb.go k1 (p1.step g1) fun y u F2 H2 T2 e2 g2 k2 r2 _ p2 => ?_
    have p2 := p2.step g2
    refine hc σ F2 H2 δ S _ k2 ?_
    cases e : χ δ with
    | exc z => rw [e] at p2; exact p2
    | stuck => rw [e] at p2; exact p2.elim
    | ok z =>
      rw [e] at p2
      have p2 : PostE G W F2 H2 σ S fr3 ms3 ((guardR (fr3 || z.isSh) (.ok z)).bind fun z => sem3 .get2 (.dct o t ks vs) y z) Q := p2
      intro v3 F3 H3 T3 g3 r3 q3
      cases hg : (fr3 || z.isSh) with
      | false => rw [hg] at p2; exact p2.elim
      | true =>
        rw [hg] at p2
        have p2 : PostE G W F2 H2 σ S fr3 ms3 (guardR (y.okKey t) (match dlook t y ks vs with | some d => guardR d.isSh (.ok d) | none => .ok z)) Q := by
          cases y <;> exact p2
        obtain ⟨hkey, p2⟩ := PostE.guard p2
        obtain ⟨a', ea, _, l1, l2⟩ := rep_dget g3.fh ((r1.gr g2).gr g3) (r2.gr g3) hkey
        cases ea
        cases e4 : dlook t y ks vs with
        | some d =>
          rw [e4] at p2
          obtain ⟨hs, p2⟩ := PostE.guard p2
          obtain ⟨v', T', dg, rd⟩ := l1 d e4
          have z := Rep.shn _ rd hs
          subst z
          exact ⟨some v', dg, (p2.step g3).val g3.fh rd⟩
        | none =>
          rw [e4] at p2
          exact ⟨none, l2 e4, p2 v3 F3 H3 T3 g3 r3 q3⟩
  | _ => exact absurd (PostE.guard p1).1 (by simp [D.isD])
/-! ### slices of lists -/
def DenO (G : GX) (W : WX) (b : Bool) (t : TO) (φ : List D → Res D) : Prop :=
  ∀ (σ : St) F H δ S (Q : Option Int → Hp → Prop), Ok G F H σ δ S → (match φ δ with
    | .ok d => ∀ o, partD b d = some o → ∀ F' H', Gr F H F' H' → Q o H'
    | .exc x => ∀ c dx F' H' T, Gr F H F' H' → XRep G F' H' x c dx T → W c dx σ H'
    | .stuck => False) → (∀ d, φ δ = .ok d → partD b d ≠ none) → t σ H Q
theorem den_noPart : DenO G W true tNoPart (fun _ => .ok .non) := fun σ F H δ S Q k p _ => p none rfl F H (.refl k.fh)
theorem den_part (h : DenE G W ta φ fr ms) : DenO G W false (tPart ta) φ := by
  intro σ F H δ S Q k p n
  refine h σ F H δ S _ k ?_
  cases e : φ δ with
  | exc x => rw [e] at p; exact p
  | stuck => rw [e] at p; exact p.elim
  | ok d =>
    rw [e] at p
    cases d with
    | int i => exact fun v F' H' T g r _ => ⟨i, r.1, p (some i) rfl F' H' g⟩
    | _ => exact absurd rfl (n _ e)
theorem reps_cut {F H : Hp} {xs : List D} {vs : List V} (r : Reps G F H xs vs []) (lo hi : Option Int) : Reps G F H (cutD xs lo hi) (cutV vs lo hi) [] := by
  unfold cutD cutV
  rw [r.len]
  exact (r.drop _).take _
theorem den_sl {tl th : TO} {b c : Bool} (ha : DenE G W ta φ fr ms) (hl : DenO G W b tl ψ) (hh : DenO G W c th χ) :
    DenE G W (tSl (rSlL G.K) ta tl th) (fun δ => (φ δ).bind fun x => (ψ δ).bind fun y => guardR (partD b y).isSome ((χ δ).bind fun z => guardR (partD c z).isSome (semSl b c x y z))) true [] := by
  intro σ F H δ S Q k p
  refine ha.go k p fun x v F1 H1 T1 e1 g1 k1 r1 _ p1 => ?_
  have p1 := p1.step g1
  cases e2 : ψ δ with
  | stuck => rw [e2] at p1; exact p1.elim
  | exc w =>
    rw [e2] at p1
    exact hl σ F1 H1 δ S _ k1 (by rw [e2]; exact p1) fun d h => by rw [e2] at h; cases h
  | ok y =>
    rw [e2] at p1
    have p1 : PostE G W F1 H1 σ S true [] (guardR (partD b y).isSome ((χ δ).bind fun z => guardR (partD c z).isSome (semSl b c x y z))) Q := p1
    obtain ⟨hy, p1⟩ := PostE.guard p1
    obtain ⟨lo, hlo⟩ := Option.isSome_iff_exists.mp hy
    refine hl σ F1 H1 δ S _ k1 ?_ fun d h => by rw [e2] at h; cases h; rw [hlo]; exact fun z => nomatch z
    rw [e2]
    intro lo' hlo' F2 H2 g2
    rw [hlo] at hlo'
    cases hlo'
    have p2 := p1.step g2
    cases e3 : χ δ with
    | stuck => rw [e3] at p2; exact p2.elim
    | exc w =>
      rw [e3] at p2
      exact hh σ F2 H2 δ S _ (k1.gr g2) (by rw [e3]; exact p2) fun d h => by rw [e3] at h; cases h
    | ok z =>
      rw [e3] at p2
      obtain ⟨hz, p2⟩ := PostE.guard p2
      obtain ⟨hi, hhi⟩ := Option.isSome_iff_exists.mp hz
      refine hh σ F2 H2 δ S _ (k1.gr g2) ?_ fun d h => by rw [e3] at h; cases h; rw [hhi]; exact fun z => nomatch z
      rw [e3]
      intro hi' hhi' F3 H3 g3
      rw [hhi] at hhi'
      cases hhi'
      have p3 := PostE.step p2 g3
      have r3 := (r1.gr g2).gr g3
      cases x with
      | lst o xs =>
        have p3 : PostE G W F3 H3 σ S true [] (match partD b y, partD c z with | some l, some h => guardR (D.isShL xs) (dnew (cutD xs l h)) | _, _ => .stuck) Q := by
          unfold semSl at p3
          rw [hlo, hhi] at p3 ⊢
          exact p3
        rw [hlo, hhi] at p3
        obtain ⟨hs, p3⟩ := PostE.guard p3
        obtain ⟨a, vs, rfl, hp, hr⟩ := rep_lst0 g3.fh r3 hs
        have pv : PostV G F3 H3 (dnew (cutD xs lo hi)) Q := post_to p3 fun w h => by
          unfold dnew guardR at h
          split at h <;> cases h
        have rc := reps_cut hr lo hi
        exact ⟨a, vs, rfl, SqL.of hp, (PostV.lst pv g3.fh (fun _ => rc) rc.len).2⟩
      | _ => exact p3.elim
end
end MP
set_option Elab.async false
set_option linter.all false
set_option maxRecDepth 100000
set_option maxHeartbeats 1000000
namespace MP
open PySem L2
/-! ### slots that change -/
def setS (S : Nat → List Addr) (i : Nat) (T : List Addr) : Nat → List Addr := fun j => if j = i then T else S j
theorem gd_set {δ : List D} {i j : Nat} {d : D} (h : i < δ.length) : gd (δ.set i d) j = if j = i then d else gd δ j := by
  unfold gd
  rw [List.getD_eq_getElem?_getD, List.getD_eq_getElem?_getD, List.getElem?_set]
  by_cases e : i = j
  · subst e
    rw [if_pos rfl, if_pos h, if_pos rfl]
    rfl
  · rw [if_neg e, if_neg (Ne.symm e)]
theorem gv_set {σ : St} {i j : Nat} {v : Option V} (h : i < σ.length) : gv (σ.set i v) j = if j = i then v else gv σ j := by
  unfold gv
  rw [List.getElem?_set]
  by_cases e : i = j
  · subst e
    rw [if_pos rfl, if_pos h, if_pos rfl]
    rfl
  · rw [if_neg e, if_neg (Ne.symm e)]
section
variable {G : GX} {F H F' H' : Hp} {σ : St} {δ : List D} {S : Nat → List Addr}
theorem Ok.set (k : Ok G F H σ δ S) {i : Nat} (hi : i < δ.length) {d : D} {v : V} {T : List Addr} (r : Rep G F H d v T) (nd : T.Nodup) (sp : ∀ j p, j ≠ i → p ∈ T → p ∉ S j) : Ok G F H (σ.set i (some v)) (δ.set i d) (setS S i T) := by
  have hi' : i < σ.length := by rw [k.len]; exact hi
  refine ⟨k.fh, by simp [k.len], fun j => ?_, fun j => ?_, fun a b p => ?_⟩
  · rw [gd_set hi, gv_set hi']
    unfold setS
    by_cases e : j = i
    · rw [if_pos e, if_pos e, if_pos e]
      exact .inr ⟨v, rfl, r⟩
    · rw [if_neg e, if_neg e, if_neg e]
      exact k.slot j
  · unfold setS
    split
    · exact nd
    · exact k.nd j
  · unfold setS
    intro ha hb
    split at ha
    · split at hb
      · omega
      · rename_i e1 e2
        exact absurd hb (sp b p e2 ha)
    · split at hb
      · rename_i e1 e2
        exact absurd ha (sp a p e1 hb)
      · exact k.sep a b p ha hb
theorem Ok.kill (k : Ok G F H σ δ S) (i : Nat) : Ok G F H σ (δ.set i .dead) (setS S i []) := by
  refine ⟨k.fh, by simp [k.len], fun j => ?_, fun j => ?_, fun a b p => ?_⟩
  · by_cases hi : i < δ.length
    · rw [gd_set hi]
      unfold setS
      by_cases e : j = i
      · rw [if_pos e, if_pos e]
        exact .inl ⟨rfl, rfl⟩
      · rw [if_neg e, if_neg e]
        exact k.slot j
    · have e1 : δ.set i .dead = δ := by
        rw [List.set_eq_of_length_le (by omega)]
      rw [e1]
      unfold setS
      by_cases e : j = i
      · rw [if_pos e]
        have : gd δ j = .dead := by
          unfold gd
          rw [List.getD_eq_getElem?_getD, List.getElem?_eq_none (by omega)]
          rfl
        exact .inl ⟨this, rfl⟩
      · rw [if_neg e]
        exact k.slot j
  · unfold setS
    split
    · exact List.nodup_nil
    · exact k.nd j
  · unfold setS
    intro ha hb
    split at ha
    · cases ha
    · split at hb
      · cases hb
      · exact k.sep a b p ha hb
/-- what σ holds at a slot does not matter where δ knows nothing -/
theorem Ok.wipe1 (k : Ok G F H σ δ S) (i : Nat) (v : Option V) : Ok G F H (σ.set i v) (δ.set i .dead) (setS S i []) := by
  have k2 := k.kill i
  refine ⟨k.fh, by simp [k.len], fun j => ?_, k2.nd, k2.sep⟩
  by_cases e : j = i
  · subst e
    have := k2.slot j
    refine .inl ⟨?_, by unfold setS; rw [if_pos rfl]⟩
    by_cases hi : j < δ.length
    · rw [gd_set hi, if_pos rfl]
    · unfold gd
      rw [List.getD_eq_getElem?_getD, List.getElem?_eq_none (by simp; omega)]
      rfl
  · have := k2.slot j
    have e2 : gv (σ.set i v) j = gv σ j := by
      unfold gv
      rw [List.getElem?_set_ne (Ne.symm e)]
    rw [e2]
    exact this
end
/-! ### targets -/
def tgR (K : PySem.W.Frag) : Tg → TG
  | .n i => gName i
  | .p a b => gTup K 2 (gCons (tgR K a) (gCons (tgR K b) gNil))
  | .t a b c => gTup K 3 (gCons (tgR K a) (gCons (tgR K b) (gCons (tgR K c) gNil)))
def tgSlots : Tg → List Nat
  | .n i => [i]
  | .p a b => tgSlots a ++ tgSlots b
  | .t a b c => tgSlots a ++ (tgSlots b ++ tgSlots c)
section
variable {G : GX} {F H : Hp}
/-- what an assignment to a target leaves -/
def TgOut (G : GX) (F H : Hp) (δ2 : List D) (S : Nat → List Addr) (T : List Addr) (σ : St) (ss : List Nat) (σ2 : St) (S2 : Nat → List Addr) : Prop :=
  Ok G F H σ2 δ2 S2 ∧ (∀ i p, p ∈ S2 i → p ∈ S i ∨ p ∈ T) ∧ ∀ j, j ∉ ss → σ2[j]? = σ[j]?
theorem tgSet_p {a b : Tg} {d : D} {δ δ2 : List D} (e : tgSet (.p a b) d δ = some δ2) : ∃ o x y δ1, d = .tup o [x, y] ∧ tgSet a x δ = some δ1 ∧ tgSet b y δ1 = some δ2 := by
  cases d <;> first | cases e | skip
  rename_i o xs
  rcases xs with _ | ⟨x, _ | ⟨y, _ | ⟨z, r⟩⟩⟩ <;> first | cases e | skip
  have e : (tgSet a x δ).bind (tgSet b y) = some δ2 := e
  cases q : tgSet a x δ with
  | none => rw [q] at e; cases e
  | some δ1 => rw [q] at e; exact ⟨o, x, y, δ1, rfl, q, e⟩
theorem tgSet_t {a b c : Tg} {d : D} {δ δ3 : List D} (e : tgSet (.t a b c) d δ = some δ3) : ∃ o x y z δ1 δ2, d = .tup o [x, y, z] ∧ tgSet a x δ = some δ1 ∧ tgSet b y δ1 = some δ2 ∧ tgSet c z δ2 = some δ3 := by
  cases d <;> first | cases e | skip
  rename_i o xs
  rcases xs with _ | ⟨x, _ | ⟨y, _ | ⟨z, _ | ⟨w, r⟩⟩⟩⟩ <;> first | cases e | skip
  have e : ((tgSet a x δ).bind (tgSet b y)).bind (tgSet c z) = some δ3 := e
  cases q : tgSet a x δ with
  | none => rw [q] at e; cases e
  | some δ1 =>
    rw [q] at e
    have e : (tgSet b y δ1).bind (tgSet c z) = some δ3 := e
    cases q2 : tgSet b y δ1 with
    | none => rw [q2] at e; cases e
    | some δ2 => rw [q2] at e; exact ⟨o, x, y, z, δ1, δ2, rfl, q, q2, e⟩
theorem rep_tupS {o : Bool} {xs : List D} {v : V} {T : List Addr} (e : Same F H) (r : Rep G F H (.tup o xs) v T) : ∃ p vs S, v = .ref p ∧ SqT G.K H p vs ∧ Reps G F H xs vs S ∧ S.Sublist T := by
  obtain ⟨p, vs, S, hv, hr, ha⟩ := r
  cases o with
  | true => exact ⟨p, vs, S, hv, SqT.of ha.1, hr, by rw [ha.2.2]; exact List.sublist_cons_self _ _⟩
  | false => exact ⟨p, vs, S, hv, same_t e ha.1.sq, hr, by rw [ha.2.1, ha.2.2]; exact List.Sublist.refl _⟩
theorem tg_ok : ∀ (tg : Tg) {d : D} {v : V} {T : List Addr} {σ : St} {δ δ2 : List D} {S : Nat → List Addr} {Q : St → Hp → Prop}, Ok G F H σ δ S → Rep G F H d v T → T.Nodup → (∀ i p, p ∈ T → p ∉ S i) → tgSet tg d δ = some δ2 →
    (∀ σ2 S2, TgOut G F H δ2 S T σ (tgSlots tg) σ2 S2 → Q σ2 H) → tgR G.K tg v σ H Q
  | .n i, d, v, T, σ, δ, δ2, S, Q, k, r, nd, sp, e, n => by
    unfold tgSet at e
    split at e
    · rename_i hi
      cases e
      refine n _ _ ⟨k.set hi r nd fun j p _ hp => sp j p hp, fun j p hp => ?_, fun j hj => ?_⟩
      · unfold setS at hp
        split at hp
        · exact .inr hp
        · exact .inl hp
      · rw [List.getElem?_set_ne (fun e => hj (by simp [tgSlots, e]))]
    · cases e
  | .p a b, d, v, T, σ, δ, δ2, S, Q, k, r, nd, sp, e, n => by
    obtain ⟨o, x, y, δ1, rfl, q1, q2⟩ := tgSet_p e
    obtain ⟨p, vs, S', rfl, hp, hr, hsub⟩ := rep_tupS k.fh r
    obtain ⟨v1, vr, A, B, e1, e2, h1, h2⟩ := hr
    obtain ⟨v2, vr2, B1, B2, e3, e4, h3, h4⟩ := h2
    have hvr2 : vr2 = [] := h4.1
    have hB2 : B2 = [] := h4.2
    have nd' : (A ++ (B1 ++ B2)).Nodup := by rw [← e4, ← e2]; exact hsub.nodup nd
    subst e1 e3 hvr2 e2 e4
    refine ⟨p, [v1, v2], rfl, hp, rfl, v1, [v2], rfl, ?_⟩
    have ndA := (List.nodup_append.mp nd').1
    have ndB := (List.nodup_append.mp (List.nodup_append.mp nd').2.1).1
    refine tg_ok a k h1 ndA (fun i q hq => sp i q (hsub.subset (List.mem_append_left _ hq))) q1 fun σ2 S2 ⟨k2, m2, f2⟩ => ?_
    refine ⟨v2, [], rfl, ?_⟩
    refine tg_ok b k2 h3 ndB (fun i q hq hq2 => ?_) q2 fun σ3 S3 ⟨k3, m3, f3⟩ => ⟨rfl, n σ3 S3 ⟨k3, fun i q hq => ?_, fun j hj => ?_⟩⟩
    · rcases m2 i q hq2 with z | z
      · exact sp i q (hsub.subset (List.mem_append_right _ (List.mem_append_left _ hq))) z
      · exact (List.nodup_append.mp nd').2.2 q z q (List.mem_append_left _ hq) rfl
    · rcases m3 i q hq with z | z
      · rcases m2 i q z with z | z
        · exact .inl z
        · exact .inr (hsub.subset (List.mem_append_left _ z))
      · exact .inr (hsub.subset (List.mem_append_right _ (List.mem_append_left _ z)))
    · rw [f3 j (fun z => hj (List.mem_append_right _ z)), f2 j (fun z => hj (List.mem_append_left _ z))]
  | .t a b c, d, v, T, σ, δ, δ2, S, Q, k, r, nd, sp, e, n => by
    obtain ⟨o, x, y, z, δ1, δ3, rfl, q1, q2, q3⟩ := tgSet_t e
    obtain ⟨p, vs, S', rfl, hp, hr, hsub⟩ := rep_tupS k.fh r
    obtain ⟨v1, vr, A, B, e1, e2, h1, h2⟩ := hr
    obtain ⟨v2, vr2, B1, B2, e3, e4, h3, h4⟩ := h2
    obtain ⟨v3, vr3, C1, C2, e5, e6, h5, h6⟩ := h4
    have hvr3 : vr3 = [] := h6.1
    have hC2 : C2 = [] := h6.2
    have nd' : (A ++ (B1 ++ (C1 ++ C2))).Nodup := by rw [← e6, ← e4, ← e2]; exact hsub.nodup nd
    subst e1 e3 e5 hvr3 e2 e4 e6
    refine ⟨p, [v1, v2, v3], rfl, hp, rfl, v1, [v2, v3], rfl, ?_⟩
    have n1 := List.nodup_append.mp nd'
    have n2 := List.nodup_append.mp n1.2.1
    have n3 := List.nodup_append.mp n2.2.1
    refine tg_ok a k h1 n1.1 (fun i q hq => sp i q (hsub.subset (List.mem_append_left _ hq))) q1 fun σ2 S2 ⟨k2, m2, f2⟩ => ?_
    refine ⟨v2, [v3], rfl, ?_⟩
    have sp2 : ∀ i q, q ∈ B1 → q ∉ S2 i := fun i q hq hq2 => by
      rcases m2 i q hq2 with z | z
      · exact sp i q (hsub.subset (List.mem_append_right _ (List.mem_append_left _ hq))) z
      · exact n1.2.2 q z q (List.mem_append_left _ hq) rfl
    refine tg_ok b k2 h3 n2.1 sp2 q2 fun σ3 S3 ⟨k3, m3, f3⟩ => ?_
    refine ⟨v3, [], rfl, ?_⟩
    have sp3 : ∀ i q, q ∈ C1 → q ∉ S3 i := fun i q hq hq2 => by
      rcases m3 i q hq2 with z | z
      · rcases m2 i q z with z | z
        · exact sp i q (hsub.subset (List.mem_append_right _ (List.mem_append_right _ (List.mem_append_left _ hq)))) z
        · exact n1.2.2 q z q (List.mem_append_right _ (List.mem_append_left _ hq)) rfl
      · exact n2.2.2 q z q (List.mem_append_left _ hq) rfl
    refine tg_ok c k3 h5 n3.1 sp3 q3 fun σ4 S4 ⟨k4, m4, f4⟩ => ⟨rfl, n σ4 S4 ⟨k4, fun i q hq => ?_, fun j hj => ?_⟩⟩
    · rcases m4 i q hq with z | z
      · rcases m3 i q z with z | z
        · rcases m2 i q z with z | z
          · exact .inl z
          · exact .inr (hsub.subset (List.mem_append_left _ z))
        · exact .inr (hsub.subset (List.mem_append_right _ (List.mem_append_left _ z)))
      · exact .inr (hsub.subset (List.mem_append_right _ (List.mem_append_right _ (List.mem_append_left _ z))))
    · rw [f4 j (fun z => hj (List.mem_append_right _ (List.mem_append_right _ z))), f3 j (fun z => hj (List.mem_append_right _ (List.mem_append_left _ z))), f2 j (fun z => hj (List.mem_append_left _ z))]
end
end MP
set_option Elab.async false
set_option linter.all false
set_option maxRecDepth 100000
set_option maxHeartbeats 1000000
namespace MP
open PySem L2 PySem.Spec PyProof.Rows
/-! ### enumerate of a tuple, of a text -/
theorem meets_enum1 {v : Value} {o : Obj} {H : Heap → Prop} (B : Begins v o H) :
    Meets (Builtin.«enumerate.__new__» ⟨[.type "enumerate", v], []⟩) (fun _ R s => H s.heap ∧
      R (.ok (.ret (.ref (s.heap.push o).objs.size))) { s with heap := (s.heap.push o).push { cls := .type "enumerate", data := .fields #[.none, .bool false, .ref s.heap.objs.size, rawInt 0, .none, .none] } }) :=
  .of_wp fun prog w A R s h => by
    obtain ⟨hp, g, d, tk, os⟩ := s; obtain ⟨h1, h⟩ := h
    have hsub := sub_enumerate
    have q1 : ∀ {A' : Around} {E : Value → Shared → Prop} {Q : Value → Shared → Prop}, Q (.ref hp.objs.size) ⟨hp.push o, g, d, tk, os⟩ → wpAny (model prog w) A' (pyIter v) Q E ⟨hp, g, d, tk, os⟩ :=
      fun q => B.iter prog w _ _ ⟨hp, g, d, tk, os⟩ _ h1 q
    wp_walk using q1
    refine wpAny_stack_any fun st => wpAny_pure ?_
    split
    · rename_i c _ _ _ _ _
      cases (c == Value.type "enumerate")
      · wp_walk using q1
        exact ⟨_, rfl, h⟩
      · wp_walk using q1
        exact ⟨_, rfl, h⟩
    · wp_walk using q1
      exact ⟨_, rfl, h⟩
section
variable {prog : Program} {w : World} {A : Around} {E : Value → Shared → Prop} {s : Shared}
theorem enum1 {v : Value} {o : Obj} {H : Heap → Prop} {Q : Value → Shared → Prop} (B : Begins v o H) (h1 : H s.heap)
    (h : ∀ h', IsEnum h' (s.heap.objs.size + 1) s.heap.objs.size 0 .none → h'.get? s.heap.objs.size = some o → h'.objs.size = s.heap.objs.size + 2 →
      (∀ b o, s.heap.get? b = some o → h'.get? b = some o) → Q (.ref (s.heap.objs.size + 1)) { s with heap := h' }) :
    wpAny (model prog w) A (call (.type "enumerate") [v]) Q E s := by
  refine callType_new F.called_enumerate (by decide) (F.typeCall_enumerate_1 _) (F.newCall_enumerate_1 _) (fun obj => F.args_object_init_2 obj _) F.entry_enumerate_new
    (meets_enum1 B) ⟨h1, ?_⟩
  have hz : (s.heap.push o).objs.size = s.heap.objs.size + 1 := Heap.size_push ..
  show _ ∧ _
  rw [hz]
  have he : IsEnum ((s.heap.push o).push { cls := .type "enumerate", data := .fields #[.none, .bool false, .ref s.heap.objs.size, rawInt 0, .none, .none] }) (s.heap.objs.size + 1) s.heap.objs.size 0 .none := by
    have := Heap.get?_push_size (s.heap.push o) (o := { cls := .type "enumerate", data := .fields #[.none, .bool false, .ref s.heap.objs.size, rawInt 0, .none, .none] }) rfl
    rw [hz] at this; exact this
  refine ⟨⟨_, he, rfl⟩, h _ he (Heap.get?_push_of_some _ (Heap.get?_push_size _ B.free)) (by rw [Heap.size_push, hz]) fun b o x => Heap.get?_push_of_some _ (Heap.get?_push_of_some _ x)⟩
end
/-- the items that are drawn: what stands at turn i, by D's own state -/
def ItD (n : Nat) (x : Nat → V) (g : Hp → Prop) : It :=
  ⟨fun i H => i < n ∧ g H, fun i H v H' => ∃ T, v = .ref T ∧ H T = none ∧ H' = upd H T (.tup [.int (i : Nat), x i]), fun i H => i = n ∧ g H⟩
theorem turn_enumD {P : Program} {w : World} {K : PySem.W.Frag} {elts : List Expr} {kk : Nat} {tpos : Pos} {n : Nat} {x : Nat → V} {g : Hp → Prop} {e it : Addr} {St0 : Nat → Heap → Prop}
    (hne : e ≠ it) (mem0 : ∀ i h, St0 i h → ∃ o, h.get? it = some o ∧ ∀ v, o.data ≠ .cell v) (keep0 : ∀ i h h', St0 i h → (∀ o, h.get? it = some o → h'.get? it = some o) → St0 i h')
    (D : ∀ (X : Cx), X.prog = P → X.w = w → X.K = K → X.calm = true → ∀ (pins : List (Addr × Obj)) (s : Shared) (σ : L2.St) (H : Hp), Inv X pins σ H s → H it = none → g H → (∃ c old, IsEnum s.heap e it c old) → (∃ i, St0 i s.heap) → ∃ (fp : List Addr) (St1 : Nat → Heap → Prop) (PP : Nat → Value → Prop), e ∉ fp ∧
      (∀ i, St0 i s.heap → St1 i s.heap) ∧ (∀ i h, St1 i h → St0 i h) ∧ Draws P w X.A.in1 it fp n PP St1 ∧ ∀ i u, PP i u → RelV (x i) u) :
    Turn P w K (.Tuple elts kk tpos) (ItD n x g) [e, it] e (fun i h => (∃ old, IsEnum h e it ((i : Nat) : Int) old) ∧ St0 i h) where
  mem := by simp
  obj := fun i h st b hb => by
    obtain ⟨⟨old, he⟩, hi⟩ := st
    have e' : b = e ∨ b = it := by simpa using hb
    rcases e' with z | z
    · rw [z]; exact ⟨_, he, fun v q => nomatch q⟩
    · rw [z]; exact mem0 i h hi
  keep := fun i h h' st k => let ⟨⟨old, he⟩, hi⟩ := st; ⟨⟨old, k e (by simp) _ he⟩, keep0 i h h' hi fun o q => k it (by simp) o q⟩
  item := by
    intro X hP' hw hK hc i pins s σ H E I hf st hg
    obtain ⟨⟨old, he⟩, hit⟩ := st
    obtain ⟨hlt, hg⟩ := hg
    obtain ⟨fp, St1, PP, hef, s01, s10, Dr, hP⟩ := D X hP' hw hK hc pins s σ H I (hf it (by simp)).1 hg ⟨_, _, he⟩ ⟨_, hit⟩
    subst hP' hw hK
    have hel : e < s.heap.objs.size := Heap.lt_size he
    have hil : it < s.heap.objs.size := by obtain ⟨_, q, _⟩ := mem0 i _ hit; exact Heap.lt_size q
    refine wpAny_pyNext_enum_itemD Dr he (s01 i hit) hlt hne hef fun u h' tk hPu ho hit' hT hsz hk => ?_
    refine ⟨_, rfl, wpAny_letOwnedTupleGo_enum (s := { s with heap := h', toks := tk + 1 }) ho fun h'' he' sb => ?_⟩
    have ru := hP i u hPu
    have hT2 : h''.get? s.heap.objs.size = some { cls := .type "tuple", data := .seq #[.int i tk, u] } := (sb.2 _ (Nat.ne_of_gt hel)).trans hT
    have new : ObjOk X.prog X.w (upd H s.heap.objs.size (.tup [.int (i : Nat), x i])) h'' s.heap.objs.size (.tup [.int (i : Nat), x i]) :=
      ⟨by show 2 ≤ sizeLine; decide, [.int i tk, u], .cons ⟨_, rfl⟩ (.cons ru .nil), ⟨_, hT2, rfl, _, rfl⟩⟩
    have I1 : Inv X pins σ (upd H s.heap.objs.size (.tup [.int (i : Nat), x i])) { s with heap := h'', toks := tk + 1 } :=
      I.turnedNew (ch := [e, it]) (fun b ob hb q => (sb.2 b (fun z => hb (by simp [z]))).trans (hk b ob (fun z => hb (by simp [z])) (fun z => hb (by simp [z])) q)) hf (Nat.le_refl _) new
    refine ⟨.ref s.heap.objs.size, _, I1, rfl, ⟨_, rfl, I.hok.fresh (Nat.le_refl _), rfl⟩, ⟨⟨u, ?_⟩, keep0 (i + 1) h' h'' (s10 _ _ hit') fun o q => (sb.2 it (Ne.symm hne)).trans q⟩, fun b hb => ?_⟩
    · have e1 : ((i + 1 : Nat) : Int) = (i : Int) + 1 := by omega
      rw [e1]; exact he'
    · have hb' : b < s.heap.objs.size := by
        have e' : b = e ∨ b = it := by simpa using hb
        rcases e' with z | z
        · rw [z]; exact hel
        · rw [z]; exact hil
      rw [upd_ne (Nat.ne_of_lt hb')]
      exact (hf b hb).1
  done := by
    intro X hP' hw hK hc i pins s σ H E I hf st hg
    obtain ⟨⟨old, he⟩, hit⟩ := st
    obtain ⟨hlt, hg⟩ := hg
    subst hlt
    obtain ⟨fp, St1, PP, hef, s01, s10, Dr, hP⟩ := D X hP' hw hK hc pins s σ H I (hf it (by simp)).1 hg ⟨_, _, he⟩ ⟨_, hit⟩
    subst hP' hw hK
    obtain ⟨f0, f1, f2, f3, f4, f5⟩ := hf it (by simp)
    exact wpAny_pyNext_enum_endD Dr he (s01 _ hit) fun h' eb => ⟨rfl, I.turned (t' := s.toks) (fun b o hb q => eb b o hb q) f0 f1 f3 f4 f5⟩
  self := fun A i s Q E st h => let ⟨⟨_, he⟩, _⟩ := st; wpAny_pyIter_enum he h
def iEnumT (K : PySem.W.Frag) (ta : TA) : TI := fun σ H R => ta σ H fun vs H1 => ∃ a xs, vs = [.ref a] ∧ SqT K H1 a xs ∧ R (ItD xs.length (fun i => xs.getD i .non) (fun H => SqT K H a xs)) H1
def iEnumS (ta : TA) : TI := fun σ H R => ta σ H fun vs H1 => ∃ x : Str, vs = [.str x] ∧ R (ItD x.cps.size (fun i => .str ⟨#[x.cps.getD i 0]⟩) (fun _ => True)) H1
section
variable {X : Cx} {e : Expr} {ta : TA} {p pos tpos : Pos} {elts : List Expr} {kk : Nat}
theorem fp2 {pins : List (Addr × Obj)} {σ : L2.St} {H1 : Hp} {s1 : Shared} (I1 : Inv X pins σ H1 s1) : ∀ b ∈ [s1.heap.objs.size + 1, s1.heap.objs.size], FpOk X pins H1 b := fun b hb => by
  have e' : b = s1.heap.objs.size + 1 ∨ b = s1.heap.objs.size := by simpa using hb
  have hle : s1.heap.objs.size ≤ b := by
    rcases e' with z | z
    · rw [z]; exact Nat.le_add_right _ _
    · rw [z]; exact Nat.le_refl _
  exact I1.fpOk hle (I1.hok.fresh hle)
theorem pi_enumT (hg : Gl X "enumerate") (hm : X.mg "enumerate" = none) (ha : PA X [e] ta) (hs : starEach [e] X.env = [(false, eval e X.env)]) :
    PI X (.Tuple elts kk tpos) (.Call (.Name "enumerate" p) [e] [] pos) (iEnumT X.K ta) := by
  refine ⟨fun pins s σ H R I h => ?_⟩
  refine Call_ (ld_blt I hg hm boot_enumerate (PyProof.Rows.callWith_type1 (thn (ha.run pos pins s σ H _ I h) fun us s1 ⟨vs, H1, I1, r1, q1⟩ => ?_) hs rfl))
  obtain ⟨a, xs, ex, hq, q⟩ := q1
  subst ex
  cases r1 with
  | cons r rr =>
    cases rr
    cases r
    obtain ⟨its, rv, p', hz⟩ := I1.tuple hq
    refine enum1 (begins_tuple a its.toArray) (show s1.heap.IsTuple a its.toArray from p') fun h' he hit hsz hk => wpAny_pyIter_enum he ?_
    have I2 : Inv X pins σ H1 { s1 with heap := h' } := I1.kept (t' := s1.toks) hk
    have it0 : h'.IsTupleIter s1.heap.objs.size a 0 := ⟨_, hit, rfl, rfl⟩
    refine ⟨s1.heap.objs.size + 1, [s1.heap.objs.size + 1, s1.heap.objs.size], _, _, H1, rfl, I2,
      turn_enumD (St0 := fun i h => h.IsTupleIter s1.heap.objs.size a i) (Nat.succ_ne_self _) (fun i h st => let ⟨o, ho, hc, hd⟩ := st; ⟨o, ho, fun v z => by rw [hd] at z; cases z⟩)
        (fun i h h' st k => st.at k) (fun X' hP hw hK hc pins' s' σ' H' I' hn hg' he' hi' => ?_), ⟨⟨.none, he⟩, it0⟩, fp2 I1, q⟩
    rw [← hK] at hg'
    obtain ⟨its', rv', p2, hz'⟩ := I'.tuple hg'
    have tup : s'.heap.IsTuple a its'.toArray := p2
    obtain ⟨ot, hot, hct, _⟩ := id tup
    have hia : a ≠ s1.heap.objs.size := fun z => by
      obtain ⟨i, o, ho, hc', _⟩ := hi'
      rw [← z, hot] at ho
      cases ho
      rw [hct] at hc'
      exact absurd hc' (by decide)
    have hea : a ≠ s1.heap.objs.size + 1 := fun z => by
      obtain ⟨c, old, ho⟩ := he'
      rw [← z] at ho
      have ho : s'.heap.get? a = _ := ho
      rw [hot] at ho
      cases ho
      have hct : Value.type "enumerate" = Value.type "tuple" := hct
      exact absurd hct (by decide)
    have Dr := Draws.tuple (prog := X'.prog) (w := X'.w) (A := X'.A.in1) (I'.ok.hd hc) s1.heap.objs.size a hia its'.toArray
    have en : its'.toArray.size = xs.length := by rw [List.size_toArray, rv'.length]
    rw [en] at Dr
    refine ⟨[s1.heap.objs.size, a], fun i h => h.IsTupleIter s1.heap.objs.size a i ∧ h.IsTuple a its'.toArray, fun i v => its'.toArray[i]? = some v, ?_, fun i st => ⟨st, tup⟩, fun i h st => st.1, by rw [← hP, ← hw]; exact Dr, fun i u hu => ?_⟩
    · intro z
      rcases List.mem_cons.mp z with z | z
      · exact absurd z (Nat.succ_ne_self _)
      · exact hea (List.mem_singleton.mp z).symm
    · have hu : its'[i]? = some u := by simpa using hu
      cases hx : xs[i]? with
      | none =>
        rw [rv'.none_of hx] at hu
        cases hu
      | some y =>
        obtain ⟨u', h1, h2⟩ := rv'.get hx
        rw [hu] at h1
        cases h1
        rw [List.getD_eq_getElem?_getD, hx]
        exact h2
theorem pi_enumS (hg : Gl X "enumerate") (hm : X.mg "enumerate" = none) (ha : PA X [e] ta) (hs : starEach [e] X.env = [(false, eval e X.env)]) :
    PI X (.Tuple elts kk tpos) (.Call (.Name "enumerate" p) [e] [] pos) (iEnumS ta) := by
  refine ⟨fun pins s σ H R I h => ?_⟩
  refine Call_ (ld_blt I hg hm boot_enumerate (PyProof.Rows.callWith_type1 (thn (ha.run pos pins s σ H _ I h) fun us s1 ⟨vs, H1, I1, r1, q1⟩ => ?_) hs rfl))
  obtain ⟨x, ex, q⟩ := q1
  subst ex
  cases r1 with
  | cons r rr =>
    cases rr
    obtain ⟨t, rfl⟩ := r
    refine call_enumerate_str fun h' he hit hsz hk => wpAny_pyIter_enum he ?_
    have I2 : Inv X pins σ H1 { s1 with heap := h' } := I1.kept (t' := s1.toks) hk
    refine ⟨s1.heap.objs.size + 1, [s1.heap.objs.size + 1, s1.heap.objs.size], _, _, H1, rfl, I2,
      turn_enumD (St0 := fun i h => h.IsStrIter s1.heap.objs.size (strIterType x) x t i) (Nat.succ_ne_self _) (fun i h st => let ⟨o, ho, hc, hd⟩ := st; ⟨o, ho, fun v z => by rw [hd] at z; cases z⟩)
        (fun i h h' st k => let ⟨o, ho, r⟩ := st; ⟨o, k o ho, r⟩) (fun X' hP hw hK hc pins' s' σ' H' I' hn hg' he' hi' => ?_), ⟨⟨.none, he⟩, hit⟩, fp2 I1, q⟩
    have Dr := Draws.text (prog := X'.prog) (w := X'.w) (A := X'.A.in1) (I'.ok.hd hc) s1.heap.objs.size x t
    refine ⟨[s1.heap.objs.size], fun i h => h.IsStrIter s1.heap.objs.size (strIterType x) x t i, _, ?_, fun i st => st, fun i h st => st, by rw [← hP, ← hw]; exact Dr, fun i u hu => ?_⟩
    · intro z
      exact absurd (List.mem_singleton.mp z) (Nat.succ_ne_self _)
    · obtain ⟨c, tk, hc, rfl⟩ := hu
      refine ⟨tk, ?_⟩
      have : x.cps.getD i 0 = c := by
        rw [Array.getD_eq_getD_getElem?, hc]
        rfl
      show Value.str _ _ = Value.str ⟨#[x.cps.getD i 0]⟩ tk
      rw [this]
end
end MP
set_option Elab.async false
set_option linter.all false
set_option maxRecDepth 100000
set_option maxHeartbeats 1000000
namespace MP
open PySem L2
structure IterOk (G : GX) (F : Hp) (J : It) (ys : List D) : Prop where
  go : ∀ i F1 H1, i < ys.length → Same F F1 → Same F1 H1 → J.go i H1
  stop : ∀ F1 H1, Same F F1 → Same F1 H1 → J.stop ys.length H1
  yld : ∀ i F1 H1 x H2, i < ys.length → Same F F1 → Same F1 H1 → J.yld i H1 x H2 → ∃ F2 d, Gr F1 H1 F2 H2 ∧ ys[i]? = some d ∧ Rep G F2 H2 d x []
def PostI (G : GX) (W : WX) (F H : Hp) (σ : St) (k : IK) (r : Res (List D)) (R : It → Hp → Prop) : Prop := match r with
  | .ok xs => D.isShL xs = true ∧ ∃ ys, itemsOf k (D.flatL xs) = some ys ∧ ∀ J F' H', Gr F H F' H' → IterOk G F' J ys → R J H'
  | .exc x => ∀ c dx F' H' T, Gr F H F' H' → XRep G F' H' x c dx T → W c dx σ H'
  | .stuck => False
def DenI (G : GX) (W : WX) (k : IK) (wi : TI) (φs : List D → Res (List D)) : Prop :=
  ∀ σ F H δ S R, Ok G F H σ δ S → PostI G W F H σ k (φs δ) R → wi σ H R
section
variable {G : GX} {W : WX} {ta tb : TE} {tr : TA} {φ ψ : List D → Res D} {φs : List D → Res (List D)} {fr fr2 : Bool} {ms : List Nat}
/-- a value that is read: frozen where it is new -/
theorem fz_of {F H F' H' : Hp} {S : Nat → List Addr} {d : D} {v : V} {T : List Addr} (g : Gr F H F' H') (r : Rep G F' H' d v T) (q : fr = true → ([] : List Nat).Nodup → Fre H S [] T) (hs : D.isSh (bif fr then d.flat else d) = true) :
    ∃ F2, Gr F H F2 H' ∧ Rep G F2 H' (bif fr then d.flat else d) v [] := by
  cases fr with
  | true =>
    have f1 := q rfl List.nodup_nil
    exact ⟨_, g.frz (fun x hx => (Rep.own d r x hx).1) (fun x hx => (f1.2 x hx).elim id fun ⟨i, hi, _⟩ => nomatch hi), r.frozen⟩
  | false =>
    have z := Rep.shn _ r hs
    subst z
    exact ⟨F', g, r⟩
def one (fr : Bool) (φ : List D → Res D) : List D → Res (List D) := fun δ => (φ δ).bind fun x => .ok [bif fr then x.flat else x]
/-- one source, read -/
theorem one_go (h : DenE G W ta φ fr []) {σ : St} {F H : Hp} {δ : List D} {S : Nat → List Addr} {k : IK} {R : It → Hp → Prop} (k0 : Ok G F H σ δ S) (p : PostI G W F H σ k (one fr φ δ) R) {Q : VK}
    (n : ∀ d v F' H' ys, φ δ = .ok d → Gr F H F' H' → Rep G F' H' (bif fr then d.flat else d) v [] → itemsOf k [bif fr then d.flat else d] = some ys → (∀ J F2 H2, Gr F' H' F2 H2 → IterOk G F2 J ys → R J H2) → Q v H') : ta σ H Q := by
  refine h σ F H δ S Q k0 ?_
  unfold one at p
  cases e : φ δ with
  | stuck => rw [e] at p; exact p.elim
  | exc x => rw [e] at p; exact p
  | ok d =>
    rw [e] at p
    obtain ⟨hs, ys, hy, q⟩ := p
    rw [flatL_of _ hs] at hy
    simp only [D.isShL, Bool.and_true] at hs
    intro v F' H' T g r q'
    obtain ⟨F2, g2, r2⟩ := fz_of g r q' hs
    exact n d v F2 H' ys e g2 r2 hy fun J F3 H3 g3 io => q J F3 H3 (g2.trans g3) io
/-! ### lists and tuples -/
def iSeq (K : PySem.W.Frag) (te : TE) : TI := fun σ H R => iList K te σ H R ∨ iTup K te σ H R
theorem pi_seq {X : Cx} {tg e : Expr} {te : TE} (h : PE X e te) : PI X tg e (iSeq X.K te) := ⟨fun pins s σ H R I q => q.elim (fun q => (pi_list h).run pins s σ H R I q) fun q => (pi_tup h).run pins s σ H R I q⟩
theorem it_list {F : Hp} {a : Addr} {xs : List D} {vs : List V} (ha : F a = some (.lst vs)) (r : Reps G F F xs vs []) : IterOk G F (Itl G.K a) xs := by
  have sq : ∀ {F1 H1 : Hp}, Same F F1 → Same F1 H1 → SqL G.K H1 a vs := fun e1 e2 => SqL.of (e2 _ _ (e1 _ _ ha))
  refine ⟨fun i F1 H1 hi e1 e2 => ?_, fun F1 H1 e1 e2 => ⟨vs, sq e1 e2, by rw [r.len]; exact Nat.le_refl _⟩, fun i F1 H1 x H2 hi e1 e2 hy => ?_⟩
  · obtain ⟨v, hv, _⟩ := r.sh_get (List.getElem?_eq_getElem hi)
    exact ⟨vs, v, sq e1 e2, hv⟩
  · obtain ⟨rfl, hx⟩ := hy
    obtain ⟨v, hv, rv⟩ := r.sh_get (List.getElem?_eq_getElem hi)
    have := hx vs (sq e1 e2)
    rw [hv] at this
    cases this
    exact ⟨F1, xs[i], .refl e2, List.getElem?_eq_getElem hi, Rep.mono e1 _ rv fun p hp => nomatch hp⟩
theorem it_tup {F : Hp} {a : Addr} {xs : List D} {vs : List V} (ha : SqT G.K F a vs) (r : Reps G F F xs vs []) : IterOk G F (Itt G.K a) xs := by
  have sq : ∀ {F1 H1 : Hp}, Same F F1 → Same F1 H1 → SqT G.K H1 a vs := fun e1 e2 => same_t e2 (same_t e1 ha)
  refine ⟨fun i F1 H1 hi e1 e2 => ?_, fun F1 H1 e1 e2 => ⟨vs, sq e1 e2, by rw [r.len]; exact Nat.le_refl _⟩, fun i F1 H1 x H2 hi e1 e2 hy => ?_⟩
  · obtain ⟨v, hv, _⟩ := r.sh_get (List.getElem?_eq_getElem hi)
    exact ⟨vs, v, sq e1 e2, hv⟩
  · obtain ⟨rfl, hx⟩ := hy
    obtain ⟨v, hv, rv⟩ := r.sh_get (List.getElem?_eq_getElem hi)
    have := hx vs (sq e1 e2)
    rw [hv] at this
    cases this
    exact ⟨F1, xs[i], .refl e2, List.getElem?_eq_getElem hi, Rep.mono e1 _ rv fun p hp => nomatch hp⟩
theorem reps_ff {F H : Hp} {xs : List D} {vs : List V} (r : Reps G F H xs vs []) : Reps G F F xs vs [] := Reps.mono (Same.refl _) _ r fun p hp => nomatch hp
/-- a shared list's and a shared tuple's node -/
theorem sh_lst {F H : Hp} {o : Bool} {xs : List D} {v : V} (r : Rep G F H (.lst o xs) v []) : ∃ p vs, v = .ref p ∧ F p = some (.lst vs) ∧ Reps G F F xs vs [] := by
  obtain ⟨p, vs, S, hv, hr, ha⟩ := r
  cases o with
  | true => exact absurd ha.2.2 (by simp)
  | false =>
    have hS : S = [] := ha.2.1
    subst hS
    exact ⟨p, vs, hv, ha.1, reps_ff hr⟩
theorem sh_tup {F H : Hp} {o : Bool} {xs : List D} {v : V} (r : Rep G F H (.tup o xs) v []) : ∃ p vs, v = .ref p ∧ SqT G.K F p vs ∧ Reps G F F xs vs [] := by
  obtain ⟨p, vs, S, hv, hr, ha⟩ := r
  cases o with
  | true => exact absurd ha.2.2 (by simp)
  | false =>
    have hS : S = [] := ha.2.1
    subst hS
    exact ⟨p, vs, hv, ha.1.sq, reps_ff hr⟩
theorem reps_flat {F H : Hp} {ds : List D} {vs : List V} (r : Reps G F H ds vs []) : Reps G F H (D.flatL ds) vs [] := Reps.frz (Same.refl _) ds r fun p hp => nomatch hp
theorem flat_kind (fr : Bool) (d : D) : (∀ o xs, d = .lst o xs → ∃ o', (bif fr then d.flat else d) = .lst o' (bif fr then D.flatL xs else xs)) ∧ (∀ o xs, d = .tup o xs → ∃ o', (bif fr then d.flat else d) = .tup o' (bif fr then D.flatL xs else xs)) := by
  cases fr with
  | true => exact ⟨fun o xs e => ⟨false, by rw [e]; rfl⟩, fun o xs e => ⟨false, by rw [e]; rfl⟩⟩
  | false => exact ⟨fun o xs e => ⟨o, e⟩, fun o xs e => ⟨o, e⟩⟩
theorem items_seq {d : D} {ys : List D} (h : itemsOf .seq [d] = some ys) : (∃ o xs, d = .lst o xs ∧ ys = D.flatL xs) ∨ ∃ o xs, d = .tup o xs ∧ ys = D.flatL xs := by
  cases d <;> first | cases h | skip
  · exact .inl ⟨_, _, rfl, rfl⟩
  · exact .inr ⟨_, _, rfl, rfl⟩
theorem den_seq (h : DenE G W ta φ fr []) : DenI G W .seq (iSeq G.K ta) (one fr φ) := by
  intro σ F H δ S R k p
  have hk : (∃ o xs, φ δ = .ok (.tup o xs)) ∨ ∀ o xs, φ δ ≠ .ok (.tup o xs) := by
    cases e : φ δ with
    | ok d => cases d <;> first | exact .inl ⟨_, _, rfl⟩ | exact .inr fun o xs z => by cases z
    | _ => exact .inr fun o xs z => by cases z
  rcases hk with ⟨o, xs, hk⟩ | hk
  · refine .inr (one_go h k p fun d v F' H' ys e g r hy q => ?_)
    rw [hk] at e
    cases e
    obtain ⟨o', eo⟩ := (flat_kind fr (.tup o xs)).2 o xs rfl
    rw [eo] at r hy
    obtain ⟨a, us, rfl, ha, hr⟩ := sh_tup r
    rcases items_seq hy with ⟨_, _, z, _⟩ | ⟨_, _, z, rfl⟩
    · cases z
    · cases z
      exact ⟨a, rfl, ⟨us, same_t g.fh ha⟩, q _ F' H' (.refl g.fh) (it_tup ha (reps_flat hr))⟩
  · refine .inl (one_go h k p fun d v F' H' ys e g r hy q => ?_)
    rcases items_seq hy with ⟨o, l, z, rfl⟩ | ⟨o, l, z, rfl⟩
    · rw [z] at r
      obtain ⟨a, us, rfl, ha, hr⟩ := sh_lst r
      exact ⟨a, rfl, ⟨us, SqL.of (g.fh _ _ ha)⟩, q _ F' H' (.refl g.fh) (it_list ha (reps_flat hr))⟩
    · exfalso
      cases d <;> first | (cases fr <;> cases z; done) | exact hk _ _ e
/-! ### texts -/
theorem den_str (h : DenE G W ta φ fr []) : DenI G W .str (iStr ta) (one fr φ) := by
  intro σ F H δ S R k p
  refine one_go h k p fun d v F' H' ys e g r hy q => ?_
  have hd : ∃ x, (bif fr then d.flat else d) = .str x ∧ ys = strD x := by
    revert hy
    generalize (bif fr then d.flat else d) = d'
    intro hy
    cases d' <;> first | (cases hy; done) | (cases hy; exact ⟨_, rfl, rfl⟩)
  obtain ⟨x, ex, rfl⟩ := hd
  rw [ex] at r
  refine ⟨x, r.1, q _ F' H' (.refl g.fh) ⟨fun i F1 H1 hi _ _ => ?_, fun F1 H1 _ _ => ?_, fun i F1 H1 y H2 hi e1 e2 hy => ?_⟩⟩
  · show i < x.cps.size
    simpa [strD] using hi
  · show x.cps.size ≤ _
    simp [strD]
  · obtain ⟨rfl, c, hc, rfl⟩ := hy
    refine ⟨F1, .str ⟨#[c]⟩, .refl e2, ?_, rfl, rfl⟩
    unfold strD
    rw [List.getElem?_map]
    have : x.cps.toList[i]? = some c := by simpa using hc
    rw [this]
    rfl
/-! ### ranges -/
theorem items_rng1 {xs ys : List D} (h : itemsOf .rng1 xs = some ys) : ∃ j, xs = [.int j] ∧ (-100000 ≤ j ∧ j ≤ 100000) ∧ ys = rngD 0 j.toNat := by
  rcases xs with _ | ⟨d, _ | ⟨d2, r⟩⟩
  · cases h
  · cases d <;> first | (cases h; done) | skip
    rename_i j
    have h : (if -100000 ≤ j ∧ j ≤ 100000 then some (rngD 0 j.toNat) else none) = some ys := h
    split at h
    · cases h
      exact ⟨j, rfl, by assumption, rfl⟩
    · cases h
  · cases d <;> cases h
theorem items_rng2 {xs ys : List D} (h : itemsOf .rng2 xs = some ys) : ∃ i j, xs = [.int i, .int j] ∧ (-100000 ≤ i ∧ i ≤ 100000 ∧ -100000 ≤ j ∧ j ≤ 100000) ∧ ys = rngD i (j - i).toNat := by
  rcases xs with _ | ⟨d, _ | ⟨d2, _ | ⟨d3, r⟩⟩⟩
  · cases h
  · cases d <;> cases h
  · cases d <;> first | (cases h; done) | skip
    cases d2 <;> first | (cases h; done) | skip
    rename_i i j
    have h : (if -100000 ≤ i ∧ i ≤ 100000 ∧ -100000 ≤ j ∧ j ≤ 100000 then some (rngD i (j - i).toNat) else none) = some ys := h
    split at h
    · cases h
      exact ⟨i, j, rfl, by assumption, rfl⟩
    · cases h
  · cases d <;> first | (cases h; done) | (cases d2 <;> cases h)
theorem den_rng1 (h : DenL G W tr φs false []) : DenI G W .rng1 (iRng1 tr) φs := by
  intro σ F H δ S R k p
  refine h σ F H δ S _ k ?_
  cases e : φs δ with
  | stuck => rw [e] at p; exact p.elim
  | exc x => rw [e] at p; exact p
  | ok xs =>
    rw [e] at p
    obtain ⟨hs, ys, hy, q⟩ := p
    rw [flatL_of _ hs] at hy
    intro vs F' H' T g r _
    obtain ⟨j, rfl, hj, rfl⟩ := items_rng1 hy
    obtain ⟨v, vr, S1, S2, e1, e2, h1, h2⟩ := r
    have hv : vr = [] := h2.1
    subst hv
    refine ⟨j, by rw [e1, h1.1], by omega, by omega, q _ F' H' g ⟨fun i F1 H1 hi _ _ => by simpa [rngD, Itr] using hi, fun F1 H1 _ _ => by simp [rngD, Itr]; omega, fun i F1 H1 y H2 hi e1 e2 hy => ?_⟩⟩
    obtain ⟨rfl, rfl⟩ := hy
    refine ⟨F1, .int (0 + i), .refl e2, ?_, rfl, rfl⟩
    have hi : i < j.toNat := by simpa [rngD] using hi
    simp [rngD, hi]
theorem den_rng2 (h : DenL G W tr φs false []) : DenI G W .rng2 (iRng2 tr) φs := by
  intro σ F H δ S R k p
  refine h σ F H δ S _ k ?_
  cases e : φs δ with
  | stuck => rw [e] at p; exact p.elim
  | exc x => rw [e] at p; exact p
  | ok xs =>
    rw [e] at p
    obtain ⟨hs, ys, hy, q⟩ := p
    rw [flatL_of _ hs] at hy
    intro vs F' H' T g r _
    obtain ⟨a, b, rfl, hj, rfl⟩ := items_rng2 hy
    obtain ⟨v, vr, S1, S2, e1, e2, h1, h2⟩ := r
    obtain ⟨v2, vr2, S3, S4, e3, e4, h3, h4⟩ := h2
    have hv : vr2 = [] := h4.1
    subst hv
    refine ⟨a, b, by rw [e1, e3, h1.1, h3.1], by omega, q _ F' H' g ⟨fun i F1 H1 hi _ _ => by simpa [rngD, Itr] using hi, fun F1 H1 _ _ => by simp [rngD, Itr]; omega, fun i F1 H1 y H2 hi e1 e2 hy => ?_⟩⟩
    obtain ⟨rfl, rfl⟩ := hy
    refine ⟨F1, .int (a + i), .refl e2, ?_, rfl, rfl⟩
    have hi : i < (b - a).toNat := by simpa [rngD] using hi
    simp [rngD, hi]
/-! ### enumerate -/
def iEnumA (K : PySem.W.Frag) (tr : TA) : TI := fun σ H R => iEnum K tr σ H R ∨ iEnumT K tr σ H R ∨ iEnumS tr σ H R
theorem pi_enumA {X : Cx} {e : Expr} {tr : TA} {p pos tpos : Pos} {elts : List Expr} {kk : Nat} (hg : Gl X "enumerate") (hm : X.mg "enumerate" = none) (ha : PA X [e] tr) (hs : starEach [e] X.env = [(false, eval e X.env)]) :
    PI X (.Tuple elts kk tpos) (.Call (.Name "enumerate" p) [e] [] pos) (iEnumA X.K tr) := ⟨fun pins s σ H R I q => by
  rcases q with q | q | q
  · exact (pi_enum hg hm ha hs).run pins s σ H R I q
  · exact (pi_enumT hg hm ha hs).run pins s σ H R I q
  · exact (pi_enumS hg hm ha hs).run pins s σ H R I q⟩
theorem enum_get : ∀ (xs : List D) (n i : Nat), (enumD xs n)[i]? = (xs[i]?).map fun d => D.tup false [.int ((n + i : Nat) : Int), d]
  | [], n, i => by simp [enumD]
  | x :: r, n, 0 => by simp [enumD]
  | x :: r, n, i + 1 => by
    show (enumD r (n + 1))[i]? = _
    rw [enum_get r (n + 1) i]
    simp
    congr
    funext d
    have : n + 1 + i = n + (i + 1) := by omega
    rw [show (n : Int) + 1 + i = n + (i + 1) by omega]
theorem enum_len : ∀ (xs : List D) (n : Nat), (enumD xs n).length = xs.length
  | [], n => rfl
  | x :: r, n => by
    show (enumD r (n + 1)).length + 1 = _
    rw [enum_len r (n + 1)]
    rfl
/-- a new pair of the turn's number and an item -/
theorem yld_pair {F1 H1 : Hp} {T : Addr} {i : Nat} {d : D} {v : V} (e2 : Same F1 H1) (hT : H1 T = none) (r : Rep G F1 H1 d v []) : ∃ F2, Gr F1 H1 F2 (upd H1 T (.tup [.int (i : Nat), v])) ∧ Rep G F2 (upd H1 T (.tup [.int (i : Nat), v])) (.tup false [.int (i : Nat), d]) (.ref T) [] := by
  have g : Gr F1 H1 (upd F1 T (.tup [.int (i : Nat), v])) (upd H1 T (.tup [.int (i : Nat), v])) := .new2 e2 hT
  refine ⟨_, g, T, _, [], rfl, Reps.cons (S := []) ⟨rfl, rfl⟩ (Reps.cons (S := []) (r.gr g) Reps.nil), .inl upd_same, rfl, rfl⟩
theorem den_enum (h : DenE G W ta φ fr []) : DenI G W .enum (iEnumA G.K (tCons ta tNil)) (one fr φ) := by
  intro σ F H δ S R k p
  have hk : (∃ o xs, φ δ = .ok (.tup o xs)) ∨ (∃ x, φ δ = .ok (.str x)) ∨ (∀ o xs, φ δ ≠ .ok (.tup o xs)) ∧ ∀ x, φ δ ≠ .ok (.str x) := by
    cases e : φ δ with
    | ok d => cases d <;> first | exact .inl ⟨_, _, rfl⟩ | exact .inr (.inl ⟨_, rfl⟩) | exact .inr (.inr ⟨(fun o xs z => by cases z), (fun x z => by cases z)⟩)
    | _ => exact .inr (.inr ⟨(fun o xs z => by cases z), (fun x z => by cases z)⟩)
  rcases hk with ⟨o, xs, hk⟩ | ⟨x, hk⟩ | ⟨hk, hk2⟩
  · refine .inr (.inl ?_)
    show ta σ H fun x H1 => ∃ a xs, [x] = [.ref a] ∧ SqT G.K H1 a xs ∧ R (ItD xs.length (fun i => xs.getD i .non) (fun H => SqT G.K H a xs)) H1
    refine one_go h k p fun d v F' H' ys e g r hy q => ?_
    rw [hk] at e
    cases e
    obtain ⟨o', eo⟩ := (flat_kind fr (.tup o xs)).2 o xs rfl
    rw [eo] at r hy
    obtain ⟨a, us, rfl, ha, hr⟩ := sh_tup r
    generalize (bif fr then D.flatL xs else xs) = zs at *
    have hy : ys = enumD (D.flatL zs) 0 := (Option.some.inj hy).symm
    subst hy
    have hr' := reps_flat hr
    refine ⟨a, us, rfl, same_t g.fh ha, q _ F' H' (.refl g.fh) ⟨fun i F1 H1 hi e1 e2 => ⟨?_, same_t e2 (same_t e1 ha)⟩, fun F1 H1 e1 e2 => ⟨?_, same_t e2 (same_t e1 ha)⟩, fun i F1 H1 y H2 hi e1 e2 hy => ?_⟩⟩
    · rw [enum_len] at hi
      rw [hr'.len]; exact hi
    · rw [enum_len, hr'.len]
    · obtain ⟨T, rfl, hT, rfl⟩ := hy
      rw [enum_len] at hi
      obtain ⟨v, hv, rv⟩ := hr'.sh_get (List.getElem?_eq_getElem hi)
      have rv' : Rep G F1 H1 (D.flatL zs)[i] v [] := Rep.mono e1 _ rv fun p hp => nomatch hp
      have ev : us.getD i .non = v := by rw [List.getD_eq_getElem?_getD, hv]; rfl
      show ∃ F2 d, Gr F1 H1 F2 (upd H1 T (.tup [.int (i : Nat), us.getD i .non])) ∧ (enumD (D.flatL zs) 0)[i]? = some d ∧ Rep G F2 (upd H1 T (.tup [.int (i : Nat), us.getD i .non])) d (.ref T) []
      rw [ev]
      obtain ⟨F2, g2, r2⟩ := yld_pair (i := i) e2 hT rv'
      refine ⟨F2, _, g2, ?_, r2⟩
      rw [enum_get, List.getElem?_eq_getElem hi]
      simp
  · refine .inr (.inr ?_)
    show ta σ H fun y H1 => ∃ x : Str, [y] = [.str x] ∧ R (ItD x.cps.size (fun i => .str ⟨#[x.cps.getD i 0]⟩) (fun _ => True)) H1
    refine one_go h k p fun d v F' H' ys e g r hy q => ?_
    rw [hk] at e
    cases e
    have ex : (bif fr then (D.str x).flat else D.str x) = .str x := by cases fr <;> rfl
    rw [ex] at r hy
    have hy : ys = enumD (strD x) 0 := (Option.some.inj hy).symm
    subst hy
    refine ⟨x, by rw [r.1], q _ F' H' (.refl g.fh) ⟨fun i F1 H1 hi e1 e2 => ⟨?_, trivial⟩, fun F1 H1 e1 e2 => ⟨?_, trivial⟩, fun i F1 H1 y H2 hi e1 e2 hy => ?_⟩⟩
    · rw [enum_len] at hi
      simpa [strD] using hi
    · rw [enum_len]
      simp [strD]
    · obtain ⟨T, rfl, hT, rfl⟩ := hy
      rw [enum_len] at hi
      have hi' : i < x.cps.size := by simpa [strD] using hi
      obtain ⟨F2, g2, r2⟩ := yld_pair (G := G) (i := i) (d := .str ⟨#[x.cps.getD i 0]⟩) (v := .str ⟨#[x.cps.getD i 0]⟩) e2 hT ⟨rfl, rfl⟩
      refine ⟨F2, _, g2, ?_, r2⟩
      rw [enum_get]
      simp [strD, hi']
  · refine .inl ?_
    show ta σ H fun y H1 => ∃ a xs, [y] = [.ref a] ∧ SqL G.K H1 a xs ∧ R (Ite G.K a) H1
    refine one_go h k p fun d v F' H' ys e g r hy q => ?_
    have hd : ∃ o xs, (bif fr then d.flat else d) = .lst o xs := by
      cases d <;> first | (exact absurd e (hk _ _)) | (exact absurd e (hk2 _)) | (cases fr <;> first | exact ⟨_, _, rfl⟩ | (cases hy; done))
    obtain ⟨o, zs, ez⟩ := hd
    rw [ez] at r hy
    obtain ⟨a, us, rfl, ha, hr⟩ := sh_lst r
    have hy : ys = enumD (D.flatL zs) 0 := (Option.some.inj hy).symm
    subst hy
    have hr' := reps_flat hr
    have sq : ∀ {F1 H1 : Hp}, Same F' F1 → Same F1 H1 → SqL G.K H1 a us := fun e1 e2 => SqL.of (e2 _ _ (e1 _ _ ha))
    refine ⟨a, us, rfl, SqL.of (g.fh _ _ ha), q _ F' H' (.refl g.fh) ⟨fun i F1 H1 hi e1 e2 => ?_, fun F1 H1 e1 e2 => ⟨us, sq e1 e2, by rw [enum_len, hr'.len]; exact Nat.le_refl _⟩, fun i F1 H1 y H2 hi e1 e2 hy => ?_⟩⟩
    · rw [enum_len] at hi
      obtain ⟨v, hv, _⟩ := hr'.sh_get (List.getElem?_eq_getElem hi)
      exact ⟨us, v, sq e1 e2, hv⟩
    · obtain ⟨T, x, rfl, hT, rfl, hx⟩ := hy
      rw [enum_len] at hi
      obtain ⟨v, hv, rv⟩ := hr'.sh_get (List.getElem?_eq_getElem hi)
      have hxx := hx us (sq e1 e2)
      rw [hv] at hxx
      obtain rfl : v = x := Option.some.inj hxx
      have rv' : Rep G F1 H1 (D.flatL zs)[i] v [] := Rep.mono e1 _ rv fun p hp => nomatch hp
      obtain ⟨F2, g2, r2⟩ := yld_pair (i := i) e2 hT rv'
      refine ⟨F2, _, g2, ?_, r2⟩
      rw [enum_get, List.getElem?_eq_getElem hi]
      simp
end
end MP
set_option Elab.async false
set_option linter.all false
set_option maxRecDepth 100000
set_option maxHeartbeats 1000000
namespace MP
open PySem L2
abbrev W0 : WX := fun _ _ _ _ => False
section
variable {G : GX} {W : WX}
/-! ### the block's slots -/
theorem Ok.wipe {F H : Hp} {σ : St} {δ : List D} {S : Nat → List Addr} (k : Ok G F H σ δ S) : ∀ own : List Nat, ∃ S', Ok G F H (wipe σ own) (wipeD δ own) S' ∧ ∀ i p, p ∈ S' i → p ∈ S i
  | [] => ⟨S, k, fun _ _ h => h⟩
  | v :: vs => by
    obtain ⟨S', k', h⟩ := k.wipe vs
    refine ⟨_, k'.wipe1 v none, fun i p hp => ?_⟩
    unfold setS at hp
    split at hp
    · cases hp
    · exact h i p hp
theorem wipe_get (σ : St) : ∀ (vs : List Nat) (j : Nat), (wipe σ vs)[j]? = if j ∈ vs ∧ j < σ.length then some none else σ[j]?
  | [], j => by simp [L2.wipe]
  | v :: vs, j => by
    show ((L2.wipe σ vs).set v none)[j]? = _
    rw [List.getElem?_set, wipe_length, wipe_get σ vs j]
    by_cases e : v = j
    · subst e
      by_cases hl : v < σ.length
      · simp [hl]
      · simp [hl, List.getElem?_eq_none (Nat.le_of_not_lt hl)]
    · rw [if_neg e]
      simp [Ne.symm e]
theorem wipe_eq {σ σ2 : St} {own : List Nat} (hl : σ2.length = σ.length) (h : ∀ j, j ∉ own → σ2[j]? = (wipe σ own)[j]?) : wipe σ2 own = wipe σ own := by
  apply List.ext_getElem?
  intro j
  rw [wipe_get, wipe_get]
  by_cases hj : j ∈ own
  · by_cases hj2 : j < σ.length
    · rw [if_pos ⟨hj, by omega⟩, if_pos ⟨hj, hj2⟩]
    · rw [if_neg (fun z => hj2 (by omega)), if_neg (fun z => hj2 z.2), List.getElem?_eq_none (by omega), List.getElem?_eq_none (by omega)]
  · have := h j hj
    rw [wipe_get, if_neg (fun z => hj z.1)] at this
    rw [if_neg (fun z => hj z.1), if_neg (fun z => hj z.1)]
    exact this
theorem comp_inv {tg : Tg} {δ : List D} {t b : List D → Res D} {x : D} {r zs : List D} (h : compL tg δ t b (x :: r) = .ok zs) :
    ∃ δ1, tgSet tg x δ = some δ1 ∧ ((t δ1 = .ok (.bl true) ∧ ∃ y ys, b δ1 = .ok y ∧ compL tg δ t b r = .ok ys ∧ zs = y :: ys) ∨ (t δ1 = .ok (.bl false) ∧ compL tg δ t b r = .ok zs)) := by
  unfold compL at h
  split at h
  · cases h
  · rename_i δ1 e
    refine ⟨δ1, e, ?_⟩
    split at h
    · rename_i e2
      split at h
      · rename_i y e3
        split at h
        · rename_i ys e4
          cases h
          exact .inl ⟨e2, y, ys, e3, e4, rfl⟩
        · cases h
      · cases h
    · rename_i e2
      exact .inr ⟨e2, h⟩
    · cases h
theorem tgSet_len : ∀ (tg : Tg) {d : D} {δ δ2 : List D}, tgSet tg d δ = some δ2 → δ2.length = δ.length := fun tg => by
  induction tg with
  | n i =>
    intro d δ δ2 h
    unfold tgSet at h
    split at h <;> cases h
    simp
  | p a b iha ihb =>
    intro d δ δ2 h
    obtain ⟨o, x, y, δ1, rfl, q1, q2⟩ := tgSet_p h
    rw [ihb q2, iha q1]
  | t a b c iha ihb ihc =>
    intro d δ δ2 h
    obtain ⟨o, x, y, z, δ1, δ3, rfl, q1, q2, q3⟩ := tgSet_t h
    rw [ihc q3, ihb q2, iha q1]
/-- the list that a comprehension has made so far -/
def CI (G : GX) (F1 H1 : Hp) (L : Addr) (dn : List D) (Hi : Hp) : Prop :=
  ∃ Fi vs T, Gr F1 H1 Fi Hi ∧ Hi L = some (.lst vs) ∧ Fi L = none ∧ Reps G Fi Hi dn vs T ∧ T.Nodup ∧ ∀ p ∈ T, H1 p = none ∧ p ≠ L
structure IterC (G : GX) (F H : Hp) (J : It) (ys : List D) : Prop where
  go : ∀ i F1 H1, i < ys.length → Gr F H F1 H1 → J.go i H1
  stop : ∀ F1 H1, Gr F H F1 H1 → J.stop ys.length H1
  yld : ∀ i F1 H1 x H2, i < ys.length → Gr F H F1 H1 → J.yld i H1 x H2 → ∃ F2 d, Gr F1 H1 F2 H2 ∧ ys[i]? = some d ∧ Rep G F2 H2 d x []
theorem IterOk.c {F H : Hp} {J : It} {ys : List D} (io : IterOk G F J ys) : IterC G F H J ys :=
  ⟨fun i F1 H1 h g => io.go i F1 H1 h g.f g.fh, fun F1 H1 g => io.stop F1 H1 g.f g.fh, fun i F1 H1 x H2 h g y => io.yld i F1 H1 x H2 h g.f g.fh y⟩
def PostC (G : GX) (W : WX) (F H : Hp) (σ : St) (k : IK) (r : Res (List D)) (R : It → Hp → Prop) : Prop := match r with
  | .ok xs => srcSh k xs = true ∧ ∃ ys, itemsOf k (D.flatL xs) = some ys ∧ ∀ J F' H', Gr F H F' H' → IterC G F' H' J ys → R J H'
  | .exc x => ∀ c dx F' H' T, Gr F H F' H' → XRep G F' H' x c dx T → W c dx σ H'
  | .stuck => False
def DenC (G : GX) (W : WX) (k : IK) (wi : TI) (φs : List D → Res (List D)) : Prop :=
  ∀ σ F H δ S R, Ok G F H σ δ S → PostC G W F H σ k (φs δ) R → wi σ H R
theorem DenI.c {k : IK} {wi : TI} {φs : List D → Res (List D)} (h : DenI G W k wi φs) (hk : k ≠ .seq) : DenC G W k wi φs := by
  intro σ F H δ S R k0 p
  refine h σ F H δ S R k0 ?_
  cases e : φs δ with
  | ok xs =>
    rw [e] at p
    obtain ⟨h1, ys, h2, h3⟩ := p
    have e2 : srcSh k xs = D.isShL xs := by
      cases k <;> first | rfl | exact absurd rfl hk
    exact ⟨by rw [← e2]; exact h1, ys, h2, fun J F' H' g io => h3 J F' H' g io.c⟩
  | exc x => rw [e] at p; exact p
  | stuck => rw [e] at p; exact p
theorem den_seqC {ta : TE} {φ : List D → Res D} {fr : Bool} (h : DenE G W ta φ fr []) : DenC G W .seq (iSeq G.K ta) (one fr φ) := by
  intro σ F H δ S R k p
  have hc : (fr = false ∧ ∃ xs, φ δ = .ok (.lst true xs)) ∨ ∀ d, φ δ = .ok d → srcSh .seq [bif fr then d.flat else d] = D.isShL [bif fr then d.flat else d] := by
    cases fr with
    | true => exact .inr fun d _ => by cases d <;> rfl
    | false =>
      cases e : φ δ with
      | ok d =>
        cases d with
        | lst o xs => cases o with
          | true => exact .inl ⟨rfl, xs, rfl⟩
          | false => exact .inr fun d h => by cases h; rfl
        | _ => exact .inr fun d h => by cases h; rfl
      | _ => exact .inr fun d h => by cases h
  rcases hc with ⟨rfl, xs, e⟩ | hc
  · refine .inl (h σ F H δ S _ k ?_)
    unfold one at p
    rw [e] at p ⊢
    obtain ⟨h1, ys, h2, h3⟩ := p
    intro v F' H' T g r q
    obtain ⟨a, vs, S', rfl, hp, hr⟩ := rep_lst g.fh r
    have hs : D.isShL xs = true := h1
    have z := Reps.shn _ hr hs
    subst z
    have hy : D.flatL (D.flatL xs) = ys := Option.some.inj h2
    rw [flatL_of _ (flatL_sh xs), flatL_of _ hs] at hy
    subst hy
    refine ⟨a, rfl, ⟨vs, SqL.of hp⟩, h3 _ F' H' g ⟨fun i F1 H1 hi g1 => ?_, fun F1 H1 g1 => ⟨vs, SqL.of (g1.h _ _ hp), by rw [hr.len]; exact Nat.le_refl _⟩, fun i F1 H1 x H2 hi g1 hy => ?_⟩⟩
    · obtain ⟨w, hw, _⟩ := hr.sh_get (List.getElem?_eq_getElem hi)
      exact ⟨vs, w, SqL.of (g1.h _ _ hp), hw⟩
    · obtain ⟨rfl, hx⟩ := hy
      obtain ⟨w, hw, rw'⟩ := hr.sh_get (List.getElem?_eq_getElem hi)
      have := hx vs (SqL.of (g1.h _ _ hp))
      rw [hw] at this
      cases this
      exact ⟨F1, xs[i], .refl g1.fh, List.getElem?_eq_getElem hi, rw'.gr g1⟩
  · refine den_seq h σ F H δ S R k ?_
    unfold one at p ⊢
    cases e : φ δ with
    | ok d =>
      rw [e] at p
      obtain ⟨h1, ys, h2, h3⟩ := p
      exact ⟨(hc d e).symm.trans h1, ys, h2, fun J F' H' g io => h3 J F' H' g io.c⟩
    | exc x => rw [e] at p; exact p
    | stuck => rw [e] at p; exact p
theorem den_comp {wi : TI} {k : IK} {φs : List D → Res (List D)} {tg : Tg} {own : List Nat} {tt : TT} {te : TE} {φt φb : List D → Res D} {fr : Bool} {ms : List Nat}
    (hi : DenC G W k wi φs) (ht : DenT G W0 tt φt) (hb : DenE G W0 te φb fr ms) (hown : ∀ j ∈ tgSlots tg, j ∈ own) :
    DenE G W (tLc wi (tgR G.K tg) tt te own) (fun δ => (φs δ).bind fun xs => guardR (srcSh k xs) (match itemsOf k (D.flatL xs) with
      | some ys => match compL tg (wipeD δ own) φt (fun δ' => guardR ms.isEmpty (tkOk fr (φb δ'))) ys with
        | .ok zs => guardR (decide (ys.length ≤ 100000)) (.ok (.lst true (D.flatL zs)))
        | _ => .stuck
      | none => .stuck)) true [] := by
  intro σ F H δ S Q k0 p
  refine hi σ F H δ S _ k0 ?_
  dsimp only at p
  cases e : φs δ with
  | stuck => rw [e] at p; exact p.elim
  | exc x => rw [e] at p; exact p
  | ok xs =>
    rw [e] at p
    obtain ⟨hs, p⟩ := PostE.guard p
    cases e2 : itemsOf k (D.flatL xs) with
    | none => rw [e2] at p; exact p.elim
    | some ys =>
      rw [e2] at p
      dsimp only at p
      refine ⟨hs, ys, e2, fun J F1 H1 g1 io L hL => ?_⟩
      cases e3 : compL tg (wipeD δ own) φt (fun δ' => guardR ms.isEmpty (tkOk fr (φb δ'))) ys with
      | stuck => rw [e3] at p; exact p.elim
      | exc x => rw [e3] at p; exact p.elim
      | ok zs =>
        rw [e3] at p
        obtain ⟨hlen, p⟩ := PostE.guard p
        have hlen : ys.length ≤ 100000 := of_decide_eq_true hlen
        have nF1 : F1 L = none := g1.fh.free hL
        refine ⟨fun i m Hi => m = ys.length - i ∧ i ≤ ys.length ∧ ∃ dn rest, dn.length ≤ i ∧ compL tg (wipeD δ own) φt (fun δ' => guardR ms.isEmpty (tkOk fr (φb δ'))) (ys.drop i) = .ok rest ∧ dn ++ rest = zs ∧ CI G F1 H1 L dn Hi,
          ⟨ys.length, rfl, Nat.zero_le _, [], zs, Nat.le_refl _, e3, rfl, F1, [], [], .new1 g1.fh hL, upd_same, nF1, Reps.nil, List.nodup_nil, fun p hp => nomatch hp⟩, ?_⟩
        rintro i m Hi ⟨rfl, hile, dn, rest, hdl, hc, hz, Fi, vs, T, gi, hLi, nLi, ri, ndT, nwT⟩
        by_cases hlt : i < ys.length
        · refine .inr ⟨io.go i Fi Hi hlt gi, fun H' => i + 1 ≤ ys.length ∧ ∃ dn rest, dn.length ≤ i + 1 ∧ compL tg (wipeD δ own) φt (fun δ' => guardR ms.isEmpty (tkOk fr (φb δ'))) (ys.drop (i + 1)) = .ok rest ∧ dn ++ rest = zs ∧ CI G F1 H1 L dn H',
            fun H' h' => ⟨ys.length - (i + 1), by omega, rfl, h'.1, h'.2⟩, fun x H2 hy => ?_⟩
          obtain ⟨F2, d, g2, hd, rd⟩ := io.yld i Fi Hi x H2 hlt gi hy
          rw [List.drop_eq_getElem_cons hlt] at hc
          rw [List.getElem?_eq_getElem hlt] at hd
          cases hd
          obtain ⟨δ1, et, hc⟩ := comp_inv hc
          have kw := ((k0.gr g1).gr gi).gr g2
          obtain ⟨S', k', _⟩ := kw.wipe own
          refine tg_ok tg k' rd List.nodup_nil (fun _ _ z => nomatch z) et fun σ2 S2 ⟨k2, m2, f2⟩ => ?_
          refine ⟨wipe_eq (by rw [k2.len, ← wipe_length σ own, k'.len]; exact tgSet_len tg et) fun j hj => f2 j fun z => hj (hown j z), ?_⟩
          · have hLi2 : H2 L = some (.lst vs) := g2.h _ _ hLi
            have nL2 : F2 L = none := by
              cases q : F2 L with
              | none => rfl
              | some o =>
                have := g2.new L nLi (by rw [q]; exact fun z => nomatch z)
                rw [hLi] at this
                cases this
            rcases hc with ⟨etrue, y, rest', eb, hc', hz'⟩ | ⟨efalse, hc'⟩
            · refine ht σ2 F2 H2 δ1 S2 _ k2 ?_
              rw [etrue]
              intro F3 H3 g3
              show te σ2 H3 fun y H4 => _
              have hms : ms.isEmpty = true ∧ tkOk fr (φb δ1) = .ok y := by
                cases q : ms.isEmpty with
                | true => rw [q] at eb; exact ⟨rfl, eb⟩
                | false => rw [q] at eb; cases eb
              have ems : ms = [] := List.isEmpty_iff.mp hms.1
              subst ems
              have k3 := k2.gr g3
              refine hb σ2 F3 H3 δ1 S2 _ k3 ?_
              have etk := hms.2
              cases e5 : φb δ1 with
              | stuck => rw [e5] at etk; cases etk
              | exc z => rw [e5] at etk; cases etk
              | ok y' =>
                rw [e5] at etk
                have etk : guardR (fr || y'.isSh) (.ok y') = .ok y := etk
                have hg : (fr || y'.isSh) = true ∧ y' = y := by
                  cases q : (fr || y'.isSh) with
                  | true => rw [q] at etk; exact ⟨rfl, Res.ok.inj etk⟩
                  | false => rw [q] at etk; cases etk
                obtain ⟨hg, rfl⟩ := hg
                intro v F4 H4 T4 g4 r4 q4
                have f4 : Fre H3 S2 [] T4 := by
                  cases hf : fr with
                  | true => exact q4 hf List.nodup_nil
                  | false =>
                    rw [hf] at hg
                    have z := Rep.shn _ r4 (by simpa using hg)
                    subst z
                    exact fre_nil
                have n4 : ∀ p ∈ T4, H3 p = none := fun p hp => (f4.2 p hp).elim id fun ⟨_, z, _⟩ => nomatch z
                have g23 := g2.trans (g3.trans g4)
                have hL4 : H4 L = some (.lst vs) := (g3.h.trans g4.h) _ _ hLi2
                have nL4 : F4 L = none := by
                  cases q : F4 L with
                  | none => rfl
                  | some o =>
                    have := g23.new L nLi (by rw [q]; exact fun z => nomatch z)
                    rw [hLi] at this
                    cases this
                have hvs : vs.length < 100000 := by rw [ri.len]; omega
                refine ⟨vs, hL4, lim_lt hvs, by omega, dn ++ [y'], rest', by simp; omega, hc', by rw [List.append_assoc]; show dn ++ (y' :: rest') = zs; rw [← hz']; exact hz, F4, vs ++ [v], T ++ T4, ?_, upd_same, nL4, ?_, ?_, ?_⟩
                · have ga := gi.trans g23
                  refine ⟨ga.f, fun b o hb' => ?_, fun b o hb' => ?_, ga.new⟩
                  · rw [upd_ne (ne_of_none hb' hL)]
                    exact ga.h b o hb'
                  · rw [upd_ne (ne_of_none hb' nL4)]
                    exact ga.fh b o hb'
                · have ra := (ri.gr g23).app (Reps.cons r4 Reps.nil)
                  rw [List.append_nil] at ra
                  refine Reps.mono (Same.refl _) _ ra fun p hp => ⟨(Reps.own _ ra p hp).1, ?_⟩
                  rcases List.mem_append.mp hp with hp | hp
                  · rw [upd_ne (nwT p hp).2]
                  · rw [upd_ne fun z => by
                      subst z
                      have := n4 p hp
                      rw [g3.h _ _ hLi2] at this
                      cases this]
                · refine List.nodup_append.mpr ⟨ndT, f4.1, fun p hp q hq e => ?_⟩
                  subst e
                  have h1 := (Reps.own _ ri p hp).2
                  have h2 := n4 p hq
                  exact h1 ((g2.h.trans g3.h).free h2)
                · intro p hp
                  rcases List.mem_append.mp hp with hp | hp
                  · exact nwT p hp
                  · refine ⟨((gi.h.trans g2.h).trans g3.h).free (n4 p hp), fun z => ?_⟩
                    subst z
                    have := n4 p hp
                    rw [g3.h _ _ hLi2] at this
                    cases this
            · refine ht σ2 F2 H2 δ1 S2 _ k2 ?_
              rw [efalse]
              intro F3 H3 g3
              show _ ∧ _
              have g23 := g2.trans g3
              refine ⟨by omega, dn, rest, by omega, hc', hz, F3, vs, T, gi.trans g23, g23.h _ _ hLi, ?_, ri.gr g23, ndT, nwT⟩
              cases q : F3 L with
              | none => rfl
              | some o =>
                have := g23.new L nLi (by rw [q]; exact fun z => nomatch z)
                rw [hLi] at this
                cases this
        · have ei : i = ys.length := by omega
          subst ei
          refine .inl ⟨io.stop Fi Hi gi, ?_⟩
          rw [List.drop_length] at hc
          have er : rest = [] := (Res.ok.inj hc).symm
          subst er
          rw [List.append_nil] at hz
          subst hz
          have gf := (g1.trans gi).frz (T := T) (fun x hx => (Reps.own _ ri x hx).1) fun x hx => g1.h.free (nwT x hx).1
          refine p (.ref L) (ext Fi Hi T) Hi [L] gf ⟨L, vs, [], rfl, ri.frozen, hLi, ?_, rfl⟩ fun _ _ => ⟨by simp, fun q hq => ?_⟩
          · unfold ext
            rw [if_neg fun z => (nwT L z).2 rfl]
            exact nLi
          · rw [List.mem_singleton.mp hq]
            exact .inl (g1.h.free hL)
end
end MP
set_option Elab.async false
set_option linter.all false
set_option maxRecDepth 100000
set_option maxHeartbeats 1000000
namespace MP
open PySem
open L2 hiding St
abbrev St := L2.St
/-- what a statement may do to the heap: only what a slot owned may change -/
structure GrS (F H : Hp) (S : Nat → List Addr) (F' H' : Hp) (S' : Nat → List Addr) : Prop where
  f : Same F F'
  keep : ∀ p o, H p = some o → (∀ i, p ∉ S i) → H' p = some o
  live : ∀ p, H p ≠ none → H' p ≠ none
  new : ∀ p, F p = none → F' p ≠ none → H p = none ∨ ∃ i, p ∈ S i
  own : ∀ i p, p ∈ S' i → H p = none ∨ ∃ j, p ∈ S j
theorem GrS.of {F H F' H' : Hp} {S : Nat → List Addr} (g : Gr F H F' H') : GrS F H S F' H' S :=
  ⟨g.f, fun p o h _ => g.h p o h, fun p h z => h (g.h.free z), fun p a b => .inl (g.new p a b), fun i p h => .inr ⟨i, h⟩⟩
theorem GrS.refl {F H : Hp} {S : Nat → List Addr} (e : Same F H) : GrS F H S F H S := .of (.refl e)
theorem GrS.sub {F H F' H' : Hp} {S S' S2 : Nat → List Addr} (g : GrS F H S F' H' S') (h : ∀ i p, p ∈ S2 i → p ∈ S' i) : GrS F H S F' H' S2 :=
  ⟨g.f, g.keep, g.live, g.new, fun i p hp => g.own i p (h i p hp)⟩
theorem GrS.back {F H : Hp} {S : Nat → List Addr} {F1 H1 : Hp} {S1 : Nat → List Addr} (g : GrS F H S F1 H1 S1) {p : Addr} (h : H1 p = none ∨ ∃ i, p ∈ S1 i) : H p = none ∨ ∃ i, p ∈ S i := by
  rcases h with h | ⟨i, h⟩
  · cases q : H p with
    | none => exact .inl rfl
    | some o => exact absurd h (g.live p (by rw [q]; exact fun z => nomatch z))
  · exact g.own i p h
theorem GrS.trans {F H F1 H1 F2 H2 : Hp} {S S1 S2 : Nat → List Addr} (a : GrS F H S F1 H1 S1) (b : GrS F1 H1 S1 F2 H2 S2) : GrS F H S F2 H2 S2 := by
  refine ⟨a.f.trans b.f, fun p o h n => ?_, fun p h => b.live p (a.live p h), fun p h1 h2 => ?_, fun i p h => a.back (b.own i p h)⟩
  · refine b.keep p o (a.keep p o h n) fun i hi => ?_
    rcases a.own i p hi with z | ⟨j, z⟩
    · rw [h] at z; cases z
    · exact n j z
  · cases q : F1 p with
    | none => exact a.back (b.new p q h2)
    | some o => exact a.new p h1 (by rw [q]; exact fun z => nomatch z)
/-- what is handed back: new, or a slot's -/
def TOk (H : Hp) (S : Nat → List Addr) (T : List Addr) : Prop := T.Nodup ∧ ∀ p ∈ T, H p = none ∨ ∃ j, p ∈ S j
structure GrT (F H : Hp) (S : Nat → List Addr) (F' H' : Hp) : Prop where
  f : Same F F'
  keep : ∀ p o, H p = some o → (∀ i, p ∉ S i) → H' p = some o
  fh : Same F' H'
  new : ∀ p, F p = none → F' p ≠ none → H p = none ∨ ∃ i, p ∈ S i
theorem GrS.t {F H F' H' F2 H2 : Hp} {S S' : Nat → List Addr} (a : GrS F H S F' H' S') (b : GrT F' H' S' F2 H2) : GrT F H S F2 H2 := by
  refine ⟨a.f.trans b.f, fun p o h n => b.keep p o (a.keep p o h n) fun i hi => ?_, b.fh, fun p h1 h2 => ?_⟩
  · rcases a.own i p hi with z | ⟨j, z⟩
    · rw [h] at z; cases z
    · exact n j z
  · cases q : F' p with
    | none => exact a.back (b.new p q h2)
    | some o => exact a.new p h1 (by rw [q]; exact fun z => nomatch z)
def PostS (G : GX) (W : WX) (F H : Hp) (S : Nat → List Addr) (D : Ends) : SR → Prop
  | .nx δ' => ∀ σ' F' H' S', GrS F H S F' H' S' → Ok G F' H' σ' δ' S' → D.nx σ' H'
  | .bk δ' => ∀ σ' F' H' S', GrS F H S F' H' S' → Ok G F' H' σ' δ' S' → D.bk σ' H'
  | .ct δ' => ∀ σ' F' H' S', GrS F H S F' H' S' → Ok G F' H' σ' δ' S' → D.ct σ' H'
  | .rt d => ∀ v F' H' T, GrT F H S F' H' → Rep G F' H' d v T → TOk H S T → D.rt v H'
  | .exc x δ' => ∀ c dx σ' F' H' S' T, GrS F H S F' H' S' → Ok G F' H' σ' δ' S' → XRep G F' H' x c dx T → W c dx σ' H'
  | .stuck => False
def DenS (G : GX) (W : WX) (t : TS) (g : List D → SR) : Prop :=
  ∀ σ F H δ S D, Ok G F H σ δ S → PostS G W F H S D (g δ) → t D σ H
section
variable {G : GX} {W : WX} {F H F' H' : Hp} {S S' : Nat → List Addr} {D : Ends}
theorem PostS.step {r : SR} (p : PostS G W F H S D r) (g : GrS F H S F' H' S') : PostS G W F' H' S' D r := by
  cases r with
  | nx δ => exact fun σ2 F2 H2 S2 g2 k => p σ2 F2 H2 S2 (g.trans g2) k
  | bk δ => exact fun σ2 F2 H2 S2 g2 k => p σ2 F2 H2 S2 (g.trans g2) k
  | ct δ => exact fun σ2 F2 H2 S2 g2 k => p σ2 F2 H2 S2 (g.trans g2) k
  | rt d => exact fun v F2 H2 T g2 r t => p v F2 H2 T (g.t g2) r ⟨t.1, fun q hq => g.back (t.2 q hq)⟩
  | exc x δ => exact fun c dx σ2 F2 H2 S2 T g2 k xr => p c dx σ2 F2 H2 S2 T (g.trans g2) k xr
  | stuck => exact p
theorem PostS.guard {b : Bool} {r : SR} (p : PostS G W F H S D (guardS b r)) : b = true ∧ PostS G W F H S D r := by
  cases b with
  | true => exact ⟨rfl, p⟩
  | false => exact p.elim
theorem PostS.nxt {δ : List MP.D} {σ : St} (p : PostS G W F H S D (.nx δ)) (k : Ok G F H σ δ S) : D.nx σ H := p σ F H S (.refl k.fh) k
end
section
variable {G : GX} {W : WX} {ta tb : TE} {φ ψ : List D → Res D} {fr fr2 : Bool} {ms ms2 : List Nat} {t u : TS} {f g : List D → SR}
/-- an expression's value, then the rest -/
theorem DenE.goS (h : DenE G W ta φ fr ms) {σ : St} {F H : Hp} {δ : List D} {S : Nat → List Addr} {E : Ends} {Q : VK} (k : Ok G F H σ δ S) {f : D → SR}
    (p : PostS G W F H S E (SR.of (φ δ) δ f)) (n : ∀ d v F' H' T, φ δ = .ok d → Gr F H F' H' → Ok G F' H' σ δ S → Rep G F' H' d v T → (fr = true → ms.Nodup → Fre H S ms T) → PostS G W F' H' S E (f d) → Q v H') : ta σ H Q := by
  refine h σ F H δ S Q k ?_
  cases e : φ δ with
  | ok d =>
    rw [e] at p
    exact fun v F' H' T g r q => n d v F' H' T e g (k.gr g) r q (p.step (.of g))
  | exc x => rw [e] at p; exact fun c dx F' H' T g xr => p c dx σ F' H' S T (.of g) (k.gr g) xr
  | stuck => rw [e] at p; exact p.elim
/-- .. taken -/
theorem DenE.goT (h : DenE G W ta φ fr ms) {σ : St} {F H : Hp} {δ : List D} {S : Nat → List Addr} {E : Ends} {Q : VK} (k : Ok G F H σ δ S) {f : D → SR}
    (p : PostS G W F H S E (SR.of (tkOk fr (φ δ)) δ f)) (n : ∀ d v F' H' T, φ δ = .ok d → Gr F H F' H' → Ok G F' H' σ δ S → Rep G F' H' d v T → (ms.Nodup → Fre H S ms T) → PostS G W F H S E (f d) → Q v H') : ta σ H Q := by
  refine h σ F H δ S Q k ?_
  cases e : φ δ with
  | ok d =>
    rw [e] at p
    have p : PostS G W F H S E (SR.of (guardR (fr || d.isSh) (.ok d)) δ f) := p
    cases hg : (fr || d.isSh) with
    | false => rw [hg] at p; exact p.elim
    | true =>
      rw [hg] at p
      intro v F' H' T g r q
      refine n d v F' H' T e g (k.gr g) r (fun nd => ?_) p
      cases hf : fr with
      | true => exact q hf nd
      | false =>
        rw [hf] at hg
        have z := Rep.shn _ r (by simpa using hg)
        subst z
        exact fre_nil
  | exc x => rw [e] at p; exact fun c dx F' H' T g xr => p c dx σ F' H' S T (.of g) (k.gr g) xr
  | stuck => rw [e] at p; exact p.elim
theorem DenL.goS {t : TA} {φ : List D → Res (List D)} (h : DenL G W t φ fr ms) {σ : St} {F H : Hp} {δ : List D} {S : Nat → List Addr} {E : Ends} {Q : List V → Hp → Prop} (k : Ok G F H σ δ S) {f : List D → SR}
    (p : PostS G W F H S E (SR.of (φ δ) δ f)) (n : ∀ d v F' H' T, φ δ = .ok d → Gr F H F' H' → Ok G F' H' σ δ S → Reps G F' H' d v T → (fr = true → ms.Nodup → Fre H S ms T) → PostS G W F' H' S E (f d) → Q v H') : t σ H Q := by
  refine h σ F H δ S Q k ?_
  cases e : φ δ with
  | ok d =>
    rw [e] at p
    exact fun v F' H' T g r q => n d v F' H' T e g (k.gr g) r q (p.step (.of g))
  | exc x => rw [e] at p; exact fun c dx F' H' T g xr => p c dx σ F' H' S T (.of g) (k.gr g) xr
  | stuck => rw [e] at p; exact p.elim
theorem nodup_of : ∀ {ms : List Nat}, nodupB ms = true → ms.Nodup
  | [], _ => List.nodup_nil
  | m :: r, h => by
    unfold nodupB at h
    rw [Bool.and_eq_true] at h
    exact List.nodup_cons.mpr ⟨by simpa using h.1, nodup_of h.2⟩
theorem den_nev : DenS G W tNever fun _ => .stuck := fun σ F H δ S E k p => p.elim
theorem den_skip : DenS G W tNext fun δ => .nx δ := fun σ F H δ S E k p => p.nxt k
theorem den_brk : DenS G W tBreak fun δ => .bk δ := fun σ F H δ S E k p => p σ F H S (.refl k.fh) k
theorem den_cnt : DenS G W tCont fun δ => .ct δ := fun σ F H δ S E k p => p σ F H S (.refl k.fh) k
theorem den_retN : DenS G W tRetN fun _ => .rt .non := fun σ F H δ S E k p => p .non F H [] ⟨Same.refl _, fun _ _ h _ => h, k.fh, fun p a b => absurd a b⟩ ⟨rfl, rfl⟩ ⟨List.nodup_nil, fun p hp => nomatch hp⟩
theorem dS_seq (ha : DenS G W t f) (hb : DenS G W u g) : DenS G W (tSeq t u) fun δ => match f δ with
    | .nx δ2 => g δ2
    | o => o := by
  intro σ F H δ S E k p
  refine ha σ F H δ S _ k ?_
  dsimp only at p
  cases e : f δ with
  | nx δ2 =>
    rw [e] at p
    exact fun σ2 F2 H2 S2 g2 k2 => hb σ2 F2 H2 δ2 S2 E k2 (p.step g2)
  | rt d => rw [e] at p; exact p
  | bk δ2 => rw [e] at p; exact p
  | ct δ2 => rw [e] at p; exact p
  | exc x δ2 => rw [e] at p; exact p
  | stuck => rw [e] at p; exact p
theorem den_if {c : TT} {φ : List D → Res D} (hc : DenT G W c φ) (ha : DenS G W t f) (hb : DenS G W u g) : DenS G W (tIfS c t u) fun δ => SR.of (φ δ) δ fun x => match x with
    | .bl true => f δ
    | .bl false => g δ
    | _ => .stuck := by
  intro σ F H δ S E k p
  refine hc σ F H δ S _ k ?_
  dsimp only at p
  cases e : φ δ with
  | stuck => rw [e] at p; exact p.elim
  | exc x => rw [e] at p; exact fun c dx F' H' T g xr => p c dx σ F' H' S T (.of g) (k.gr g) xr
  | ok d =>
    rw [e] at p
    cases d with
    | bl b =>
      intro F1 H1 g1
      cases b with
      | true => exact ha σ F1 H1 δ S E (k.gr g1) (PostS.step p (.of g1))
      | false => exact hb σ F1 H1 δ S E (k.gr g1) (PostS.step p (.of g1))
    | _ => exact p.elim
theorem den_ret (he : DenE G W ta φ fr ms) : DenS G W (tRet ta) fun δ => SR.of (tkOk fr (φ δ)) δ fun d => guardS (nodupB ms) (.rt d) := by
  intro σ F H δ S E k p
  refine he σ F H δ S _ k ?_
  cases e : φ δ with
  | ok d =>
    dsimp only at p
    rw [e] at p
    have p : PostS G W F H S E (SR.of (guardR (fr || d.isSh) (.ok d)) δ fun d => guardS (nodupB ms) (.rt d)) := p
    cases hg : (fr || d.isSh) with
    | false => rw [hg] at p; exact p.elim
    | true =>
      rw [hg] at p
      obtain ⟨hn, p⟩ := PostS.guard p
      intro v F' H' T g r q
      refine p v F' H' T ⟨g.f, fun p o h _ => g.h p o h, g.fh, fun p a b => .inl (g.new p a b)⟩ r ?_
      cases hf : fr with
      | true =>
        obtain ⟨n1, n2⟩ := q hf (nodup_of hn)
        exact ⟨n1, fun x hx => (n2 x hx).elim .inl fun ⟨i, _, h⟩ => .inr ⟨i, h⟩⟩
      | false =>
        rw [hf] at hg
        have z := Rep.shn _ r (by simpa using hg)
        subst z
        exact ⟨List.nodup_nil, fun p hp => nomatch hp⟩
  | exc x => dsimp only at p; rw [e] at p; exact fun c dx F' H' T g xr => p c dx σ F' H' S T (.of g) (k.gr g) xr
  | stuck => dsimp only at p; rw [e] at p; exact p.elim
/-! ### slots that are killed, set, changed -/
def killS (ms : List Nat) (S : Nat → List Addr) : Nat → List Addr := match ms with
  | [] => S
  | m :: r => setS (killS r S) m []
theorem killS_sub : ∀ {ms : List Nat} {S : Nat → List Addr} {i : Nat} {p : Addr}, p ∈ killS ms S i → p ∈ S i ∧ i ∉ ms
  | [], S, i, p, h => ⟨h, fun z => nomatch z⟩
  | m :: r, S, i, p, h => by
    unfold killS setS at h
    split at h
    · cases h
    · rename_i hne
      obtain ⟨a, b⟩ := killS_sub h
      exact ⟨a, fun z => (List.mem_cons.mp z).elim hne b⟩
theorem kill_len : ∀ {ms : List Nat} {δ : List D}, (kill ms δ).length = δ.length
  | [], δ => rfl
  | m :: r, δ => by
    unfold kill
    rw [List.length_set, kill_len]
theorem Ok.kills {F H : Hp} {σ : St} {δ : List D} {S : Nat → List Addr} (k : Ok G F H σ δ S) : ∀ ms : List Nat, Ok G F H σ (MP.kill ms δ) (killS ms S)
  | [] => k
  | m :: r => Ok.kill (k.kills r) m
/-- what is fresh is of no slot that is left -/
theorem fre_sep {F H F' H' : Hp} {σ : St} {δ : List D} {S : Nat → List Addr} {T : List Addr} (k : Ok G F H σ δ S) (f : Fre H S ms T) {j : Nat} {p : Addr} (hp : p ∈ T) : p ∉ killS ms S j := fun h => by
  obtain ⟨a, b⟩ := killS_sub h
  rcases f.2 p hp with z | ⟨i, hi, z⟩
  · exact (k.own a).2 z
  · have e := k.sep i j p z a
    subst e
    exact b hi
theorem Gr.set {F H F' H' : Hp} {S S' : Nat → List Addr} {i : Nat} {T : List Addr} (g : Gr F H F' H') (hS : ∀ j p, p ∈ S' j → p ∈ S j) (hT : ∀ p ∈ T, H p = none ∨ ∃ j, p ∈ S j) : GrS F H S F' H' (setS S' i T) :=
  ⟨g.f, fun p o h _ => g.h p o h, fun p h z => h (g.h.free z), fun p a b => .inl (g.new p a b), fun j p h => by
    unfold setS at h
    split at h
    · exact hT p h
    · exact .inr ⟨j, hS j p h⟩⟩
theorem Fre.sm {H : Hp} {S : Nat → List Addr} {T : List Addr} (f : Fre H S ms T) : ∀ p ∈ T, H p = none ∨ ∃ j, p ∈ S j := fun p hp => (f.2 p hp).elim .inl fun ⟨i, _, h⟩ => .inr ⟨i, h⟩
theorem den_asg {i : Nat} (he : DenE G W ta φ fr ms) : DenS G W (tAsg ta (gName i)) fun δ => SR.of (tkOk fr (φ δ)) δ fun d => guardS (decide (i < δ.length) && nodupB ms) (.nx ((kill ms δ).set i d)) := by
  intro σ F H δ S E k p
  refine he.goT k p fun d v F1 H1 T e1 g1 k1 r1 q1 p1 => ?_
  obtain ⟨hg, p1⟩ := PostS.guard p1
  rw [Bool.and_eq_true] at hg
  have f1 := q1 (nodup_of hg.2)
  have k2 := k1.kills ms
  have k3 := k2.set (by rw [kill_len]; exact of_decide_eq_true hg.1) r1 f1.1 fun j p _ hp => fre_sep (F' := F1) (H' := H1) k f1 hp
  exact p1 _ F1 H1 _ (g1.set (fun j p h => (killS_sub h).1) f1.sm) k3
end
end MP
set_option Elab.async false
set_option linter.all false
set_option maxRecDepth 100000
set_option maxHeartbeats 1000000
namespace MP
open PySem
open L2 hiding St
section
variable {G : GX} {W : WX} {ta tb : TE} {φ ψ : List D → Res D} {fr fr2 : Bool} {ms ms2 : List Nat} {t u : TS} {f g : List D → SR}
theorem den_asgT {tg : Tg} (he : DenE G W ta φ fr ms) : DenS G W (tAsg ta (tgR G.K tg)) fun δ => SR.of (tkOk fr (φ δ)) δ fun d => guardS (nodupB ms) (match tgSet tg d (kill ms δ) with
    | some δ2 => .nx δ2
    | none => .stuck) := by
  intro σ F H δ S E k p
  refine he.goT k p fun d v F1 H1 T e1 g1 k1 r1 q1 p1 => ?_
  obtain ⟨hg, p1⟩ := PostS.guard p1
  have f1 := q1 (nodup_of hg)
  cases e : tgSet tg d (kill ms δ) with
  | none => rw [e] at p1; exact p1.elim
  | some δ2 =>
    rw [e] at p1
    refine tg_ok tg (k1.kills ms) r1 f1.1 (fun i p hp => fre_sep (F' := F1) (H' := H1) k f1 hp) e fun σ2 S2 ⟨k2, m2, _⟩ => ?_
    exact p1 σ2 F1 H1 S2 ⟨g1.f, fun p o h _ => g1.h p o h, fun p h z => h (g1.h.free z), fun p a b => .inl (g1.new p a b), fun j p h => by
      rcases m2 j p h with z | z
      · exact .inr ⟨j, (killS_sub z).1⟩
      · exact f1.sm p z⟩ k2
theorem den_expr (he : DenE G W ta φ fr []) : DenS G W (tDrop ta) fun δ => SR.of (φ δ) δ fun _ => .nx δ := by
  intro σ F H δ S E k p
  exact he.goS k p fun d v F1 H1 T e1 g1 k1 r1 q1 p1 => p1.nxt k1
/-! ### loops -/
theorem den_for {k : IK} {wi : TI} {φs : List D → Res (List D)} {tg : Tg} {tb : TS} (hi : DenI G W k wi φs) (hb : DenS G W tb g) :
    DenS G W (tFor wi (tgR G.K tg) tb) fun δ => SR.of (φs δ) δ fun xs => guardS (D.isShL xs) (match itemsOf k (D.flatL xs) with
    | some ys => forL tg g ys δ
    | none => .stuck) := by
  intro σ F H δ S E k0 p
  refine hi σ F H δ S _ k0 ?_
  dsimp only at p
  cases e : φs δ with
  | stuck => rw [e] at p; exact p.elim
  | exc x => rw [e] at p; exact fun c dx F' H' T g xr => p c dx σ F' H' S T (.of g) (k0.gr g) xr
  | ok xs =>
    rw [e] at p
    obtain ⟨hs, p⟩ := PostS.guard p
    cases e2 : itemsOf k (D.flatL xs) with
    | none => rw [e2] at p; exact p.elim
    | some ys =>
      rw [e2] at p
      dsimp only at p
      refine ⟨hs, ys, e2, fun J F1 H1 g1 io => ?_⟩
      refine ⟨fun i m σi Hi => m = ys.length - i ∧ i ≤ ys.length ∧ ∃ Fi Si δi, Same F1 Fi ∧ Ok G Fi Hi σi δi Si ∧ PostS G W Fi Hi Si E (forL tg g (ys.drop i) δi),
        ⟨ys.length, rfl, Nat.zero_le _, F1, S, δ, Same.refl _, k0.gr g1, p.step (.of g1)⟩, ?_⟩
      rintro i m σi Hi ⟨rfl, hile, Fi, Si, δi, sF, ki, pi⟩
      by_cases hlt : i < ys.length
      · refine .inr ⟨io.go i Fi Hi hlt sF ki.fh, fun σ' H' => i + 1 ≤ ys.length ∧ ∃ Fi Si δi, Same F1 Fi ∧ Ok G Fi H' σ' δi Si ∧ PostS G W Fi H' Si E (forL tg g (ys.drop (i + 1)) δi),
          fun σ' H' h' => ⟨ys.length - (i + 1), by omega, rfl, h'.1, h'.2⟩, fun x H2 hy => ?_⟩
        obtain ⟨F2, d, g2, hd, rd⟩ := io.yld i Fi Hi x H2 hlt sF ki.fh hy
        rw [List.drop_eq_getElem_cons hlt] at pi
        rw [List.getElem?_eq_getElem hlt] at hd
        cases hd
        have pi := pi.step (.of g2)
        unfold forL at pi
        cases et : tgSet tg ys[i] δi with
        | none => rw [et] at pi; exact pi.elim
        | some δ1 =>
          rw [et] at pi
          dsimp only at pi
          refine tg_ok tg (ki.gr g2) rd List.nodup_nil (fun _ _ z => nomatch z) et fun σ2 S2 ⟨k2, m2, _⟩ => ?_
          have pi := pi.step (F' := F2) (H' := H2) (S' := S2) ⟨Same.refl _, fun _ _ h _ => h, fun _ h => h, fun p a b => absurd a b, fun j p h => (m2 j p h).elim (fun z => .inr ⟨j, z⟩) fun z => nomatch z⟩
          have s2 := sF.trans g2.f
          refine hb σ2 F2 H2 δ1 S2 _ k2 ?_
          cases eb : g δ1 with
          | stuck => rw [eb] at pi; exact pi.elim
          | exc x δ' => rw [eb] at pi; exact pi
          | rt d => rw [eb] at pi; exact pi
          | nx δ' => rw [eb] at pi; exact fun σ' F' H' S' g' k' => ⟨by omega, F', S', δ', s2.trans g'.f, k', PostS.step pi g'⟩
          | ct δ' => rw [eb] at pi; exact fun σ' F' H' S' g' k' => ⟨by omega, F', S', δ', s2.trans g'.f, k', PostS.step pi g'⟩
          | bk δ' => rw [eb] at pi; exact pi
      · have ei : i = ys.length := by omega
        subst ei
        rw [List.drop_length] at pi
        exact .inl ⟨io.stop Fi Hi sF ki.fh, PostS.nxt pi ki⟩
theorem den_while {c : TT} {tb : TS} {n : Nat} (hc : DenT G W c φ) (hb : DenS G W tb g) : DenS G W (tWhile c tb) fun δ => whileL φ g n δ := by
  intro σ F H δ S E k p
  refine ⟨fun m σi Hi => ∃ Fi Si δi, Ok G Fi Hi σi δi Si ∧ PostS G W Fi Hi Si E (whileL φ g m δi), ⟨n, F, S, δ, k, p⟩, ?_⟩
  rintro m σi Hi ⟨Fi, Si, δi, ki, pi⟩
  cases m with
  | zero => exact pi.elim
  | succ m =>
    refine hc σi Fi Hi δi Si _ ki ?_
    unfold whileL at pi
    cases e : φ δi with
    | stuck => rw [e] at pi; exact pi.elim
    | exc x => rw [e] at pi; exact fun c dx F' H' T g xr => pi c dx σi F' H' Si T (.of g) (ki.gr g) xr
    | ok d =>
      rw [e] at pi
      cases d with
      | bl b =>
        cases b with
        | false => exact fun F' H' g => PostS.nxt (PostS.step pi (.of g)) (ki.gr g)
        | true =>
          intro F2 H2 g2
          refine ⟨fun σ' H' => ∃ Fi Si δi, Ok G Fi H' σ' δi Si ∧ PostS G W Fi H' Si E (whileL φ g m δi), fun σ' H' h => ⟨m, Nat.lt_succ_self m, h⟩, ?_⟩
          refine hb σi F2 H2 δi Si _ (ki.gr g2) ?_
          have pi := PostS.step pi (.of g2)
          dsimp only at pi
          cases eb : g δi with
          | stuck => rw [eb] at pi; exact pi.elim
          | exc x δ' => rw [eb] at pi; exact pi
          | rt d => rw [eb] at pi; exact pi
          | nx δ' => rw [eb] at pi; exact fun σ' F' H' S' g' k' => ⟨F', S', δ', k', PostS.step pi g'⟩
          | ct δ' => rw [eb] at pi; exact fun σ' F' H' S' g' k' => ⟨F', S', δ', k', PostS.step pi g'⟩
          | bk δ' => rw [eb] at pi; exact pi
      | _ => exact pi.elim
/-! ### a slot's own datum changes in place -/
theorem Ok.mut {F H H2 : Hp} {σ : St} {δ : List D} {S : Nat → List Addr} {i : Nat} (k : Ok G F H σ δ S) (hi : i < δ.length) (hH : ∀ q, q ∉ S i → H2 q = H q ∨ H q = none) {d : D} {v : V} {T : List Addr} (hv : σ[i]? = some (some v)) (r : Rep G F H2 d v T) (nd : T.Nodup) (sp : ∀ j p, j ≠ i → p ∈ T → p ∉ S j) :
    Ok G F H2 σ (δ.set i d) (setS S i T) := by
  have fh : Same F H2 := fun b o e => by
    have hb : b ∉ S i := fun z => by
      have := (k.own z).1
      rw [e] at this; cases this
    have hF := k.fh b o e
    rcases hH b hb with z | z
    · rw [z]; exact hF
    · rw [hF] at z; cases z
  refine ⟨fh, by simp [k.len], fun j => ?_, fun j => ?_, fun a b p => ?_⟩
  · rw [gd_set hi]
    unfold setS
    by_cases e : j = i
    · subst e
      rw [if_pos rfl, if_pos rfl]
      exact .inr ⟨v, by unfold gv; rw [hv]; rfl, r⟩
    · rw [if_neg e, if_neg e]
      rcases k.slot j with z | ⟨w, e1, rw'⟩
      · exact .inl z
      · refine .inr ⟨w, e1, Rep.mono (Same.refl _) _ rw' fun p hp => ⟨(k.own hp).1, ?_⟩⟩
        rcases hH p (fun z => e (k.sep j i p hp z)) with z | z
        · exact z
        · exact absurd z (k.own hp).2
  · unfold setS
    split
    · exact nd
    · exact k.nd j
  · unfold setS
    intro ha hb
    split at ha
    · split at hb
      · omega
      · rename_i e1 e2
        exact absurd hb (sp b p e2 ha)
    · split at hb
      · rename_i e1 e2
        exact absurd ha (sp a p e1 hb)
      · exact k.sep a b p ha hb
theorem gd_lt {δ : List D} {i : Nat} {d : D} (e : gd δ i = d) (h : d ≠ .dead) : i < δ.length := by
  by_cases hi : i < δ.length
  · exact hi
  · refine absurd e fun z => h (z.symm.trans ?_)
    unfold gd
    rw [List.getD_eq_getElem?_getD, List.getElem?_eq_none (by omega)]
    rfl
/-- an own list -/
theorem Ok.olst {F H : Hp} {σ : St} {δ : List D} {S : Nat → List Addr} {i : Nat} {xs : List D} (k : Ok G F H σ δ S) (e : gd δ i = .lst true xs) :
    ∃ l vs T, σ[i]? = some (some (.ref l)) ∧ H l = some (.lst vs) ∧ F l = none ∧ Reps G F H xs vs T ∧ S i = l :: T ∧ l ∉ T ∧ T.Nodup ∧ i < δ.length := by
  obtain ⟨v, hv, p, vs, T, rfl, hr, ha⟩ := k.get e (fun z => nomatch z)
  have nd := k.nd i
  rw [ha.2.2] at nd
  exact ⟨p, vs, T, hv, ha.1, ha.2.1, hr, ha.2.2, (List.nodup_cons.mp nd).1, (List.nodup_cons.mp nd).2, gd_lt e (fun z => nomatch z)⟩
/-- .. gets other contents -/
theorem Ok.putL {F H : Hp} {σ : St} {δ : List D} {S : Nat → List Addr} {i : Nat} {l : Addr} {T : List Addr} (k : Ok G F H σ δ S) (hi : i < δ.length) (hv : σ[i]? = some (some (.ref l))) (hl : F l = none) (hL : H l ≠ none) (hS : S i = l :: T) {ys : List D} {ws : List V} {U : List Addr} (r : Reps G F H ys ws U) (nl : l ∉ U) (nd : U.Nodup)
    (sp : ∀ j p, j ≠ i → p ∈ U → p ∉ S j) : Ok G F (upd H l (.lst ws)) σ (δ.set i (.lst true ys)) (setS S i (l :: U)) := by
  refine k.mut (H2 := upd H l (.lst ws)) hi (fun q hq => .inl (upd_ne fun z => hq (by rw [hS, z]; exact List.mem_cons_self))) hv ⟨l, ws, U, rfl, ?_, upd_same, hl, rfl⟩ (List.nodup_cons.mpr ⟨nl, nd⟩) fun j p hj hp => ?_
  · exact Reps.mono (Same.refl _) _ r fun p hp => ⟨(Reps.own _ r p hp).1, upd_ne fun z => nl (z ▸ hp)⟩
  · rcases List.mem_cons.mp hp with rfl | hp
    · exact fun z => hj (k.sep j i p z (by rw [hS]; exact List.mem_cons_self))
    · exact sp j p hj hp
/-- the step of a statement that changes an own node -/
theorem Gr.put {F H F1 H1 : Hp} {S S1 : Nat → List Addr} {i : Nat} {l : Addr} {o : HO} {U : List Addr} (g : Gr F H F1 H1) (hl : ∃ j, l ∈ S j) (hS : ∀ j p, p ∈ S1 j → p ∈ S j) (hU : ∀ p ∈ U, H p = none ∨ ∃ j, p ∈ S j) : GrS F H S F1 (upd H1 l o) (setS S1 i U) :=
  ⟨g.f, fun p o' h n => by
      rw [upd_ne fun z => by
        obtain ⟨j, hj⟩ := hl
        exact n j (z ▸ hj)]
      exact g.h p o' h, fun p h => by
      by_cases e : p = l
      · rw [e, upd_same]; exact fun z => nomatch z
      · rw [upd_ne e]; exact fun z => h (g.h.free z), fun p a b => .inl (g.new p a b), fun j p h => by
    unfold setS at h
    split at h
    · exact hU p h
    · exact .inr ⟨j, hS j p h⟩⟩
theorem gd_kill : ∀ {ms : List Nat} {δ : List D} {i : Nat}, i ∉ ms → gd (kill ms δ) i = gd δ i
  | [], δ, i, h => rfl
  | m :: r, δ, i, h => by
    have hne : i ≠ m := fun z => h (z ▸ List.mem_cons_self)
    have ih := gd_kill (δ := δ) (fun z => h (List.mem_cons_of_mem _ z))
    unfold kill
    by_cases hm : m < (kill r δ).length
    · rw [gd_set hm, if_neg hne, ih]
    · rw [List.set_eq_of_length_le (by omega), ih]
theorem killS_same : ∀ {ms : List Nat} {S : Nat → List Addr} {i : Nat}, i ∉ ms → killS ms S i = S i
  | [], S, i, h => rfl
  | m :: r, S, i, h => by
    unfold killS setS
    rw [if_neg fun z : i = m => h (z ▸ List.mem_cons_self)]
    exact killS_same fun z => h (List.mem_cons_of_mem _ z)
/-- xs.append(e) -/
theorem Ok.ext {F H : Hp} {σ : St} {δ : List D} {S : Nat → List Addr} {T : List Addr} (k : Ok G F H σ δ S) (hn : ∀ p ∈ T, F p = none) (sp : ∀ j p, p ∈ T → p ∉ S j) : Ok G (MP.ext F H T) H σ δ S := by
  refine ⟨ext_sub k.fh, k.len, fun j => ?_, k.nd, k.sep⟩
  rcases k.slot j with z | ⟨v, e1, r⟩
  · exact .inl z
  · refine .inr ⟨v, e1, Rep.mono (ext_same hn) _ r fun p hp => ⟨?_, rfl⟩⟩
    unfold MP.ext
    rw [if_neg fun z => sp j p z hp]
    exact (k.own hp).1
theorem den_app {i : Nat} (he : DenE G W ta φ fr ms) : DenS G W (tDrop (tBM G.K "list" rAppend (tVar i) (tCons ta tNil))) fun δ => match gd δ i with
    | .lst true xs => SR.of (tkOk fr (φ δ)) δ fun d => guardS (nodupB (i :: ms) && decide (xs.length < 100000)) (.nx ((kill ms δ).set i (.lst true (xs ++ [d.flat]))))
    | _ => .stuck := by
  intro σ F H δ S E k p
  dsimp only at p
  have hx : ∃ xs, gd δ i = .lst true xs := by
    cases q : gd δ i with
    | lst o xs => cases o with
      | true => exact ⟨xs, rfl⟩
      | false => rw [q] at p; exact p.elim
    | _ => rw [q] at p; exact p.elim
  obtain ⟨xs, e⟩ := hx
  rw [e] at p
  dsimp only at p
  obtain ⟨l, vs, T, hv, hl, _⟩ := k.olst e
  refine ⟨.ref l, hv, .inl ⟨rfl, vs, SqL.of hl⟩, ?_⟩
  refine he.goT k p fun d v F1 H1 T1 e1 g1 k1 r1 q1 p1 => ?_
  obtain ⟨hg, p1⟩ := PostS.guard p1
  rw [Bool.and_eq_true] at hg
  have hnd := List.nodup_cons.mp (nodup_of hg.1)
  have f1 := q1 hnd.2
  have hlen : xs.length < 100000 := of_decide_eq_true hg.2
  have hsep0 : ∀ j p, p ∈ T1 → p ∉ killS ms S j := fun j p hp => fre_sep (F' := F1) (H' := H1) k f1 hp
  have k2 := (k1.kills ms).ext (T := T1) (fun p hp => (Rep.own d r1 p hp).1) hsep0
  have r1' := r1
  have r1 := r1.frozen
  have e2 : gd (kill ms δ) i = .lst true xs := by rw [gd_kill hnd.1]; exact e
  obtain ⟨l2, vs2, T2, hv2, hl2, nl, hr, hS, hlT, ndT, hi⟩ := k2.olst e2
  rw [hv] at hv2
  cases hv2
  have ra := hr.app (Reps.cons r1 Reps.nil)
  rw [List.append_nil, List.append_nil] at ra
  refine ⟨l, vs2, v, rfl, rfl, hl2, lim_lt (by rw [hr.len]; exact hlen), ?_⟩
  have k3 := k2.putL hi hv nl (by rw [hl2]; exact fun z => nomatch z) hS ra hlT ndT fun j p hj hp y => hj (k2.sep j i p y (by rw [hS]; exact List.mem_cons_of_mem _ hp))
  have hlK : l ∈ killS ms S i := by rw [hS]; exact List.mem_cons_self
  have ga : GrS F H S (ext F1 H1 T1) H1 (killS ms S) := ⟨g1.f.trans (ext_same fun p hp => (Rep.own d r1' p hp).1), fun p o h _ => g1.h p o h, fun p h z => h (g1.h.free z), fun p x y => by
    unfold ext at y
    split at y
    · rename_i hp
      exact f1.sm p hp
    · exact .inl (g1.new p x y), fun j p h => .inr ⟨j, (killS_sub h).1⟩⟩
  refine p1 σ _ _ _ (ga.trans ((Gr.refl k2.fh).put ⟨i, hlK⟩ (fun _ _ h => h) fun p hp => .inr ⟨i, by rw [hS]; exact hp⟩)) k3
end
end MP
set_option Elab.async false
set_option linter.all false
set_option maxRecDepth 100000
set_option maxHeartbeats 1000000
namespace MP
open PySem
open L2 hiding St
section
variable {G : GX} {W : WX} {ta tb : TE} {tr : TA} {φ ψ : List D → Res D} {φs : List D → Res (List D)} {fr fr2 : Bool} {ms ms2 : List Nat} {t u : TS} {f g : List D → SR}
/-- an own list of shared parts, rewritten with shared parts: at once -/
theorem putSh {F H : Hp} {σ : St} {δ : List D} {S : Nat → List Addr} {E : Ends} {i : Nat} {l : Addr} {T : List Addr} (k : Ok G F H σ δ S) (hi : i < δ.length) (hv : σ[i]? = some (some (.ref l))) (hl : F l = none) (hL : H l ≠ none) (hS : S i = l :: T) {ys : List D} {ws : List V} (r : Reps G F H ys ws [])
    (p : PostS G W F H S E (.nx (δ.set i (.lst true ys)))) : E.nx σ (upd H l (.lst ws)) := by
  have k3 := k.putL hi hv hl hL hS r (fun z => nomatch z) List.nodup_nil fun _ _ _ z => nomatch z
  have hlS : l ∈ S i := by rw [hS]; exact List.mem_cons_self
  exact p σ F _ _ ((Gr.refl k.fh).put ⟨i, hlS⟩ (fun _ _ h => h) fun p hp => by
    rcases List.mem_cons.mp hp with rfl | hp
    · exact .inr ⟨i, hlS⟩
    · cases hp) k3
def orS (t u : TS) : TS := fun D σ H => t D σ H ∨ u D σ H
theorem ps_or {X : Cx} {st : Stmt} (h1 : PS X st t) (h2 : PS X st u) : PS X st (orS t u) := ⟨fun pins s σ H D I h => h.elim (h1.run pins s σ H D I) (h2.run pins s σ H D I)⟩
theorem DenS.inl (h : DenS G W t g) : DenS G W (orS t u) g := fun σ F H δ S E k p => .inl (h σ F H δ S E k p)
theorem DenS.inr (h : DenS G W u g) : DenS G W (orS t u) g := fun σ F H δ S E k p => .inr (h σ F H δ S E k p)
theorem DenE.goU (h : DenE G W ta φ fr ms) {σ : St} {F0 H0 F H : Hp} {δ : List D} {S : Nat → List Addr} {E : Ends} {Q : VK} (k : Ok G F H σ δ S) (g0 : Gr F0 H0 F H) {f : D → SR}
    (p : PostS G W F0 H0 S E (SR.of (φ δ) δ f)) (n : ∀ d v F' H' T, φ δ = .ok d → Gr F H F' H' → Ok G F' H' σ δ S → Rep G F' H' d v T → (fr = true → ms.Nodup → Fre H S ms T) → PostS G W F0 H0 S E (f d) → Q v H') : ta σ H Q := by
  refine h σ F H δ S Q k ?_
  cases e : φ δ with
  | ok d =>
    rw [e] at p
    exact fun v F' H' T g r q => n d v F' H' T e g (k.gr g) r q p
  | exc x => rw [e] at p; exact fun c dx F' H' T g xr => p c dx σ F' H' S T (.of (g0.trans g)) (k.gr g) xr
  | stuck => rw [e] at p; exact p.elim
/-! ### calls of a list's own methods, as statements -/
theorem mth_or {i : Nat} {δ : List D} {g : List D → SR} {F H : Hp} {S : Nat → List Addr} {E : Ends} (p : PostS G W F H S E (match gd δ i with | .lst true xs => g xs | _ => .stuck)) : ∃ xs, gd δ i = .lst true xs ∧ PostS G W F H S E (g xs) := by
  cases q : gd δ i with
  | lst o xs => cases o with
    | true => rw [q] at p; exact ⟨xs, rfl, p⟩
    | false => rw [q] at p; exact p.elim
  | _ => rw [q] at p; exact p.elim
theorem den_reverse {i : Nat} : DenS G W (tDrop (tBM G.K "list" rReverse (tVar i) tNil)) fun δ => match gd δ i with
    | .lst true ys => guardS (D.isShL ys) (.nx (δ.set i (.lst true ys.reverse)))
    | _ => .stuck := by
  intro σ F H δ S E k p
  obtain ⟨xs, e, p⟩ := mth_or (g := fun ys => guardS (D.isShL ys) (.nx (δ.set i (.lst true ys.reverse)))) p
  obtain ⟨hs, p⟩ := PostS.guard p
  obtain ⟨l, vs, T, hv, hl, nl, hr, hS, hlT, ndT, hi⟩ := k.olst e
  have z := Reps.shn _ hr hs
  subst z
  exact ⟨.ref l, hv, .inl ⟨rfl, vs, SqL.of hl⟩, l, vs, rfl, rfl, hl, putSh k hi hv nl (by rw [hl]; exact fun z => nomatch z) hS hr.reverse p⟩
theorem den_clear {i : Nat} : DenS G W (tDrop (tBM G.K "list" rClear (tVar i) tNil)) fun δ => match gd δ i with
    | .lst true ys => .nx (δ.set i (.lst true []))
    | _ => .stuck := by
  intro σ F H δ S E k p
  obtain ⟨xs, e, p⟩ := mth_or (g := fun ys => .nx (δ.set i (.lst true []))) p
  obtain ⟨l, vs, T, hv, hl, nl, hr, hS, hlT, ndT, hi⟩ := k.olst e
  exact ⟨.ref l, hv, .inl ⟨rfl, vs, SqL.of hl⟩, l, vs, rfl, rfl, hl, putSh k hi hv nl (by rw [hl]; exact fun z => nomatch z) hS Reps.nil p⟩
abbrev rInsert : V → List V → Hp → VK → Prop := fun x vs H Q => ∃ (l : Addr) (xs : List V) (i : Int) (y : V), x = .ref l ∧ vs = [.int i, y] ∧ H l = some (.lst xs) ∧ xs.length < sizeLine ∧ 0 ≤ i ∧ i < 2 ^ 63 ∧
    Q .non (upd H l (.lst (xs.take i.toNat ++ [y] ++ xs.drop i.toNat)))
/-- the int's text is read, the item is taken (it is new or shared) -/
theorem den_insert {i : Nat} (ha : DenE G W ta φ fr []) (hb : DenE G W tb ψ fr2 []) : DenS G W (tDrop (tBM G.K "list" rInsert (tVar i) (tCons ta (tCons tb tNil)))) fun δ => match gd δ i with
    | .lst true ys => SR.of (φ δ) δ fun a => SR.of (tkOk fr2 (ψ δ)) δ fun b => match a with
      | .int n => guardS (D.isShL ys && decide (0 ≤ n) && decide (n ≤ 100000) && decide (ys.length < 100000)) (.nx (δ.set i (.lst true (ys.take n.toNat ++ (b.flat :: ys.drop n.toNat)))))
      | _ => .stuck
    | _ => .stuck := by
  intro σ F H δ S E k p
  obtain ⟨xs, e, p⟩ := mth_or (g := fun ys => SR.of (φ δ) δ fun a => SR.of (tkOk fr2 (ψ δ)) δ fun b => match a with
      | .int n => guardS (D.isShL ys && decide (0 ≤ n) && decide (n ≤ 100000) && decide (ys.length < 100000)) (.nx (δ.set i (.lst true (ys.take n.toNat ++ (b.flat :: ys.drop n.toNat)))))
      | _ => .stuck) p
  obtain ⟨l, vs, T, hv, hl, nl, hr, hS, hlT, ndT, hi⟩ := k.olst e
  refine ⟨.ref l, hv, .inl ⟨rfl, vs, SqL.of hl⟩, ?_⟩
  refine ha.goS k p fun a v F1 H1 T1 e1 g1 k1 r1 q1 p1 => ?_
  refine hb.goT k1 p1 fun b w F2 H2 T2 e2 g2 k2 r2 q2 p2 => ?_
  cases a with
  | int n =>
    dsimp only at p2
    obtain ⟨hg, p2⟩ := PostS.guard p2
    simp only [Bool.and_eq_true, decide_eq_true_eq] at hg
    obtain ⟨⟨⟨h1, h2⟩, h3⟩, h4⟩ := hg
    obtain rfl : v = .int n := r1.1
    obtain ⟨F3, g3, r3⟩ := fz_of (fr := true) (d := b) g2 r2 (fun _ nd => q2 nd) (flat_sh b)
    have k3 := k1.gr g3
    obtain ⟨l', vs', T', hv', hl', nl', hr', hS', _, _, _⟩ := k3.olst e
    rw [hv] at hv'
    cases hv'
    have z := Reps.shn _ hr' h1
    subst z
    refine ⟨l, vs', n, w, rfl, rfl, hl', lim_lt (by rw [hr'.len]; exact h4), h2, by omega, ?_⟩
    have hr3 : Reps G F3 H2 (xs.take n.toNat ++ (b.flat :: xs.drop n.toNat)) (vs'.take n.toNat ++ [w] ++ vs'.drop n.toNat) [] := by
      rw [List.append_assoc]
      exact (hr'.take _).app0 (Reps.cons r3 (hr'.drop _))
    exact putSh k3 hi hv nl' (by rw [hl']; exact fun z => nomatch z) hS' hr3 (PostS.step p2 (.of g3))
  | _ => exact p2.elim
/-- xs[k] = e -/
theorem den_setL {i : Nat} (he : DenE G W ta φ fr ms) (hk : DenE G W tb ψ fr2 ms2) : DenS G W (tAsg ta (gSub (tVar i) tb rSetL)) fun δ => SR.of (φ δ) δ fun d => match gd δ i with
    | .lst true xs => SR.of (ψ δ) δ fun x => match x with
      | .int n => match ixN xs.length n with
        | some j => guardS ((bif fr then ms.isEmpty else d.isSh) && D.isShL xs) (.nx (δ.set i (.lst true (xs.set j (bif fr then d.flat else d)))))
        | none => .stuck
      | _ => .stuck
    | _ => .stuck := by
  intro σ F H δ S E k p
  refine he.goU k (.refl k.fh) p fun d v F1 H1 T1 e1 g1 k1 r1 q1 p1 => ?_
  obtain ⟨xs, e, p1⟩ := mth_or (g := fun xs => SR.of (ψ δ) δ fun x => match x with
      | .int n => match ixN xs.length n with
        | some j => guardS ((bif fr then ms.isEmpty else d.isSh) && D.isShL xs) (.nx (δ.set i (.lst true (xs.set j (bif fr then d.flat else d)))))
        | none => .stuck
      | _ => .stuck) p1
  obtain ⟨l, vs, T, hv, hl, nl, hr, hS, hlT, ndT, hi⟩ := k1.olst e
  refine ⟨.ref l, hv, ?_⟩
  refine hk.goU k1 g1 p1 fun x w F2 H2 T2 e2 g2 k2 r2 q2 p2 => ?_
  cases x with
  | int n =>
    dsimp only at p2
    cases ej : ixN xs.length n with
    | none => rw [ej] at p2; exact p2.elim
    | some j =>
      rw [ej] at p2
      obtain ⟨hg, p2⟩ := PostS.guard p2
      rw [Bool.and_eq_true] at hg
      obtain rfl : w = .int n := r2.1
      -- the item as it is stored
      have hst : ∃ F3, Gr F H F3 H2 ∧ Rep G F3 H2 (bif fr then d.flat else d) v [] := by
        cases fr with
        | true =>
          have hm : ms = [] := List.isEmpty_iff.mp hg.1
          subst hm
          have f1 := q1 rfl List.nodup_nil
          have hn : ∀ x ∈ T1, H x = none := fun x hx => (f1.2 x hx).elim id fun ⟨i, hi, _⟩ => nomatch hi
          exact ⟨_, (g1.trans g2).frz (fun x hx => (Rep.own d (r1.gr g2) x hx).1) hn, (r1.gr g2).frozen⟩
        | false =>
          have z := Rep.shn _ r1 hg.1
          subst z
          exact ⟨F2, g1.trans g2, r1.gr g2⟩
      obtain ⟨F3, g3, r3⟩ := hst
      have k3 := k.gr g3
      obtain ⟨l', vs', T', hv', hl', nl', hr', hS', _, _, _⟩ := k3.olst e
      rw [hv] at hv'
      cases hv'
      have z := Reps.shn _ hr' hg.2
      subst z
      refine ⟨l, vs', n, j, rfl, rfl, hl', by rw [hr'.len]; exact ej, ?_⟩
      exact putSh k3 hi hv nl' (by rw [hl']; exact fun z => nomatch z) hS' (Reps.set r3 j hr') (PostS.step p2 (.of g3))
  | _ => exact p2.elim
end
end MP
set_option Elab.async false
set_option linter.all false
set_option maxRecDepth 100000
set_option maxHeartbeats 1000000
namespace MP
open PySem
open L2 hiding St
section
variable {G : GX} {W : WX} {ta tb : TE} {tr : TA} {φ ψ : List D → Res D} {φs : List D → Res (List D)} {fr fr2 : Bool} {ms ms2 : List Nat} {t u : TS} {f g : List D → SR}
abbrev ipAdd : TIp := fun x y H Q => ipI (fun i j => i + j) x y H Q ∨ rExt2 x y H Q
theorem ip_addA {X : Cx} : PIp X .Add ipAdd := fun pins s σ H x y v u Q I r1 r2 h => h.elim (ip_add pins s σ H x y v u Q I r1 r2) (iop_ext pins s σ H x y v u Q I r1 r2)
def ipOf : Op2 → TIp
  | .add => ipAdd
  | .sub => ipI fun i j => i - j
  | _ => fun _ _ _ _ => False
theorem den_aug {i : Nat} {o : Op2} (he : DenE G W ta φ fr ms) : DenS G W (tAug i ta (ipOf o)) fun δ => match gd δ i with
    | .int a => SR.of (φ δ) δ fun y => match o, y with
      | .add, .int b => .nx (δ.set i (.int (a + b)))
      | .sub, .int b => .nx (δ.set i (.int (a - b)))
      | _, _ => .stuck
    | .lst true xs => SR.of (φ δ) δ fun y => match o, y with
      | .add, .lst _ ys => guardS (decide (xs.length + ys.length ≤ 100000) && D.isShL xs && D.isShL ys) (.nx (δ.set i (.lst true (xs ++ ys))))
      | _, _ => .stuck
    | _ => .stuck := by
  intro σ F H δ S E k p
  dsimp only at p
  have hx : (∃ a, gd δ i = .int a) ∨ ∃ xs, gd δ i = .lst true xs := by
    cases q : gd δ i with
    | int a => exact .inl ⟨a, rfl⟩
    | lst o xs => cases o with
      | true => exact .inr ⟨xs, rfl⟩
      | false => rw [q] at p; exact p.elim
    | _ => rw [q] at p; exact p.elim
  rcases hx with ⟨a, e⟩ | ⟨xs, e⟩
  · rw [e] at p
    dsimp only at p
    obtain ⟨v, hv, rv⟩ := k.get e (fun z => nomatch z)
    obtain rfl : v = .int a := rv.1
    have hi := gd_lt e (fun z => nomatch z)
    refine ⟨.int a, hv, ?_⟩
    refine he.goS k p fun d w F1 H1 T1 e1 g1 k1 r1 q1 p1 => ?_
    have out : ∀ c : Int, PostS G W F1 H1 S E (.nx (δ.set i (.int c))) → E.nx (σ.set i (some (.int c))) H1 := fun c p2 => by
      have k3 := k1.set (i := i) (d := .int c) (v := .int c) (T := []) hi ⟨rfl, rfl⟩ List.nodup_nil fun _ _ _ z => nomatch z
      exact p2 _ F1 H1 _ ((Gr.refl k1.fh).set (T := []) (fun _ _ h => h) fun _ z => nomatch z) k3
    cases d with
    | int b =>
      obtain rfl : w = .int b := r1.1
      cases o with
      | add => exact .inl ⟨a, b, rfl, rfl, out _ p1⟩
      | sub => exact ⟨a, b, rfl, rfl, out _ p1⟩
      | _ => exact p1.elim
    | _ => cases o <;> exact p1.elim
  · rw [e] at p
    dsimp only at p
    obtain ⟨l, vs, T, hv, hl, _⟩ := k.olst e
    refine ⟨.ref l, hv, ?_⟩
    refine he.goS k p fun d w F1 H1 T1 e1 g1 k1 r1 q1 p1 => ?_
    have ho : o = .add := by
      cases o <;> first | rfl | (cases d <;> exact p1.elim)
    subst ho
    · cases d with
      | lst o ys =>
        dsimp only at p1
        obtain ⟨hg, p1⟩ := PostS.guard p1
        simp only [Bool.and_eq_true, decide_eq_true_eq] at hg
        obtain ⟨⟨h1, h2⟩, h3⟩ := hg
        obtain ⟨b, us, S', rfl, hb, hr⟩ := rep_lst g1.fh r1
        have z := Reps.shn _ hr h3
        subst z
        obtain ⟨l', vs', T', hv', hl', nl', hr', hS', _, _, hi⟩ := k1.olst e
        rw [hv] at hv'
        cases hv'
        have z := Reps.shn _ hr' h2
        subst z
        refine .inr ⟨l, b, vs', us, rfl, rfl, hl', hb, ?_, ?_⟩
        · have := lim_le h1
          rw [hr'.len, hr.len]; exact this
        · have q := putSh k1 hi hv nl' (by rw [hl']; exact fun z => nomatch z) hS' (hr'.app0 hr) p1
          have es : σ.set i (some (.ref l)) = σ := by
            apply List.ext_getElem?
            intro j
            rw [List.getElem?_set]
            split
            · rename_i hj
              subst hj
              split
              · exact hv.symm
              · rename_i h; rw [List.getElem?_eq_none (by omega)]
            · rfl
          show E.nx (σ.set i (some (.ref l))) _
          rw [es]
          exact q
      | _ => exact p1.elim
/-- xs.pop(k), its value dropped -/
theorem den_popD {i : Nat} (hk : DenE G W ta φ fr ms) : DenS G W (tDrop (tBM G.K "list" rPopAt (tVar i) (tCons ta tNil))) fun δ => match gd δ i with
    | .lst true xs => SR.of (φ δ) δ fun y => match y with
      | .int n => guardS (D.isShL xs && decide (0 ≤ n) && decide (n ≤ 100000) && decide (n.toNat < xs.length)) (.nx (δ.set i (.lst true (xs.eraseIdx n.toNat))))
      | _ => .stuck
    | _ => .stuck := by
  intro σ F H δ S E k p
  obtain ⟨xs, e, p⟩ := mth_or (g := fun xs => SR.of (φ δ) δ fun y => match y with
      | .int n => guardS (D.isShL xs && decide (0 ≤ n) && decide (n ≤ 100000) && decide (n.toNat < xs.length)) (.nx (δ.set i (.lst true (xs.eraseIdx n.toNat))))
      | _ => .stuck) p
  obtain ⟨l, vs, T, hv, hl, _⟩ := k.olst e
  refine ⟨.ref l, hv, .inl ⟨rfl, vs, SqL.of hl⟩, ?_⟩
  refine hk.goS k p fun d w F1 H1 T1 e1 g1 k1 r1 q1 p1 => ?_
  cases d with
  | int n =>
    dsimp only at p1
    obtain ⟨hg, p1⟩ := PostS.guard p1
    simp only [Bool.and_eq_true, decide_eq_true_eq] at hg
    obtain ⟨⟨⟨h1, h2⟩, h3⟩, h4⟩ := hg
    obtain rfl : w = .int n := r1.1
    obtain ⟨l', vs', T', hv', hl', nl', hr', hS', _, _, hi⟩ := k1.olst e
    rw [hv] at hv'
    cases hv'
    have z := Reps.shn _ hr' h1
    subst z
    have hlt : n.toNat < vs'.length := by rw [hr'.len]; exact h4
    refine ⟨l, vs', n, n.toNat, vs'[n.toNat], rfl, rfl, hl', by omega, by omega, seqIndex_of h2 (by omega), List.getElem?_eq_getElem hlt, ?_⟩
    exact putSh k1 hi hv nl' (by rw [hl']; exact fun z => nomatch z) hS' (Reps.eraseIdx _ hr') p1
  | _ => exact p1.elim
/-- ys.append(xs.pop(k)) -/
theorem den_appPop {i j : Nat} (hk : DenE G W ta φ fr ms) : DenS G W (tDrop (tBM G.K "list" rAppend (tVar j) (tCons (tBM G.K "list" rPopAt (tVar i) (tCons ta tNil)) tNil))) fun δ => match gd δ j, gd δ i with
    | .lst true ys, .lst true xs => SR.of (φ δ) δ fun y => match y with
      | .int n => match xs[n.toNat]? with
        | some d => guardS (decide (i ≠ j) && D.isShL xs && decide (0 ≤ n) && decide (n ≤ 100000) && decide (ys.length < 100000)) (.nx ((δ.set i (.lst true (xs.eraseIdx n.toNat))).set j (.lst true (ys ++ [d]))))
        | none => .stuck
      | _ => .stuck
    | _, _ => .stuck := by
  intro σ F H δ S E k p
  dsimp only at p
  have hx : ∃ ys xs, gd δ j = .lst true ys ∧ gd δ i = .lst true xs := by
    cases q : gd δ j with
    | lst o ys => cases o with
      | true =>
        cases q2 : gd δ i with
        | lst o xs => cases o with
          | true => exact ⟨ys, xs, rfl, rfl⟩
          | false => rw [q, q2] at p; exact p.elim
        | _ => rw [q, q2] at p; exact p.elim
      | false => rw [q] at p; exact p.elim
    | _ => rw [q] at p; exact p.elim
  obtain ⟨ys, xs, ey, ex⟩ := hx
  rw [ey, ex] at p
  dsimp only at p
  obtain ⟨m, us, U, hw, hm, _⟩ := k.olst ey
  obtain ⟨l, vs, T, hv, hl, _⟩ := k.olst ex
  refine ⟨.ref m, hw, .inl ⟨rfl, us, SqL.of hm⟩, ?_⟩
  refine ⟨.ref l, hv, .inl ⟨rfl, vs, SqL.of hl⟩, ?_⟩
  refine hk.goS k p fun d w F1 H1 T1 e1 g1 k1 r1 q1 p1 => ?_
  cases d with
  | int n =>
    dsimp only at p1
    cases en : xs[n.toNat]? with
    | none => rw [en] at p1; exact p1.elim
    | some d =>
      rw [en] at p1
      obtain ⟨hg, p1⟩ := PostS.guard p1
      simp only [Bool.and_eq_true, decide_eq_true_eq] at hg
      obtain ⟨⟨⟨⟨h0, h1⟩, h2⟩, h3⟩, h4⟩ := hg
      obtain rfl : w = .int n := r1.1
      obtain ⟨l', vs', T', hv', hl', nl', hr', hS', _, _, hi⟩ := k1.olst ex
      obtain ⟨m', us', U', hw', hm', nm', hu', hSm', hmU, ndU, hj⟩ := k1.olst ey
      rw [hv] at hv'
      cases hv'
      rw [hw] at hw'
      cases hw'
      have z := Reps.shn _ hr' h1
      subst z
      obtain ⟨vd, hvd, rd⟩ := hr'.sh_get en
      have hlm : m ≠ l := fun z => h0 (k1.sep i j l (by rw [hS']; exact List.mem_cons_self) (by rw [hSm', z]; exact List.mem_cons_self))
      have hlt : n.toNat < vs'.length := (List.getElem?_eq_some_iff.mp hvd).1
      refine ⟨l, vs', n, n.toNat, vd, rfl, rfl, hl', by omega, by omega, seqIndex_of h2 (by omega), hvd, ?_⟩
      have hm2 : (upd H1 l (.lst (vs'.eraseIdx n.toNat))) m = some (.lst us') := by rw [upd_ne hlm]; exact hm'
      refine ⟨m, us', vd, rfl, rfl, hm2, lim_lt (by rw [hu'.len]; exact h4), ?_⟩
      have k3 := k1.putL hi hv nl' (by rw [hl']; exact fun z => nomatch z) hS' (Reps.eraseIdx n.toNat hr') (fun z => nomatch z) List.nodup_nil fun _ _ _ z => nomatch z
      have ey3 : gd (δ.set i (.lst true (xs.eraseIdx n.toNat))) j = .lst true ys := by rw [gd_set hi, if_neg (fun z => h0 z.symm)]; exact ey
      obtain ⟨m3, us3, U3, hw3, hm3, nm3, hu3, hSm3, hmU3, ndU3, hj3⟩ := k3.olst ey3
      rw [hw] at hw3
      cases hw3
      rw [hm2] at hm3
      cases hm3
      have ra := hu3.app (Reps.cons (Rep.mono (Same.refl _) _ rd fun p hp => nomatch hp) Reps.nil)
      rw [List.append_nil, List.append_nil] at ra
      have k4 := k3.putL hj3 hw nm3 (by rw [hm2]; exact fun z => nomatch z) hSm3 ra hmU3 ndU3 fun a p ha hp z => ha (k3.sep a j p z (by rw [hSm3]; exact List.mem_cons_of_mem _ hp))
      have hlS : l ∈ S i := by rw [hS']; exact List.mem_cons_self
      have hmS : m ∈ S j := by rw [hSm']; exact List.mem_cons_self
      have sub3 : ∀ a p, p ∈ setS S i [l] a → p ∈ S a := fun a p h => by
        unfold setS at h
        split at h
        · rename_i ha
          subst ha
          rw [List.mem_singleton.mp h]
          exact hlS
        · exact h
      have g3 : GrS F1 H1 S F1 (upd H1 l (.lst (vs'.eraseIdx n.toNat))) (setS S i [l]) := (Gr.refl k1.fh).put ⟨i, hlS⟩ (fun _ _ h => h) fun p hp => .inr ⟨i, by rw [List.mem_singleton.mp hp]; exact hlS⟩
      have hmS3 : m ∈ setS S i [l] j := by rw [hSm3]; exact List.mem_cons_self
      exact p1 _ F1 _ _ (g3.trans ((Gr.refl k3.fh).put ⟨j, hmS3⟩ (fun _ _ h => h) fun p hp => .inr ⟨j, by rw [hSm3]; exact hp⟩)) k4
  | _ => exact p1.elim
end
end MP
set_option Elab.async false
set_option linter.all false
set_option maxRecDepth 100000
set_option maxHeartbeats 1000000
namespace MP
open PySem
open L2 hiding St
theorem sameKey_k {x : D} {k k' : Key} (hx : x.key = some k) : D.sameKey false (keyD k') x = decide (k' = k) := by
  unfold D.sameKey
  rw [keyD_key, hx]
  by_cases q : k' = k
  · simp [q]
  · simp [q]
theorem sameKey_t {x : D} {k k' : List Key} (hx : x.keyT = some k) : D.sameKey true (D.tup false (k'.map keyD)) x = decide (k' = k) := by
  obtain ⟨i, rr, rfl, hk⟩ := keyT_shape hx
  show (decide ((D.tup false (k'.map keyD)).keyT = (D.tup false (.int i :: rr)).keyT) && (D.tup false (.int i :: rr)).keyT.isSome) = _
  rw [hx]
  show (decide ((D.tup false (k'.map keyD)).keyT = some k) && true) = _
  rw [Bool.and_true]
  by_cases q : k' = k
  · rw [decide_eq_true q]
    apply decide_eq_true
    have hk0 : ∃ kr, k = .inl i :: kr := by
      unfold keysOf at hk
      split at hk
      · rename_i a b ha hb
        cases ha
        exact ⟨b, (Option.some.inj hk).symm⟩
      · cases hk
    obtain ⟨kr, rfl⟩ := hk0
    rw [q]
    show keysOf ((Sum.inl i :: kr : List Key).map keyD) = _
    exact keysOf_map _
  · rw [decide_eq_false q]
    apply decide_eq_false
    intro z
    obtain ⟨j, r2, z1, z2⟩ := keyT_shape z
    injection z1 with _ z1
    rw [← z1, keysOf_map] at z2
    exact q (Option.some.inj z2)
section
variable {G : GX} {F H : Hp}
/-- a store, by any kind of keys -/
theorem put_any {κ : Type} [DecidableEq κ] {t : Bool} {kd : κ → D} {x d : D} {v : V} {k : κ} (hs : ∀ k', D.sameKey t (kd k') x = decide (k' = k)) (hx : x = kd k) (rd : Rep G F H d v []) : ∀ {kvs : List (κ × V)} {vs : List D}, Reps G F H vs (kvs.map (·.2)) [] →
    (dput t x d (kvs.map fun kv => kd kv.1) vs).1 = (putK kvs k v).map (fun kv => kd kv.1) ∧ Reps G F H (dput t x d (kvs.map fun kv => kd kv.1) vs).2 ((putK kvs k v).map (·.2)) [] := by
  have look : ∀ {kvs : List (κ × V)} {vs : List D}, Reps G F H vs (kvs.map (·.2)) [] → (dlook t x (kvs.map fun kv => kd kv.1) vs).isSome = (kvs.any fun kv => decide (kv.1 = k)) := fun {kvs} => by
    induction kvs with
    | nil => intro vs r; cases vs <;> rfl
    | cons p r ih =>
      intro vs rs
      cases vs with
      | nil => exact absurd rs.1 (by simp)
      | cons d' vs =>
        obtain ⟨v', vr, S1, S2, e1, e2, h1, h2⟩ := rs
        injection e1 with ea eb
        subst ea eb
        obtain ⟨rfl, rfl⟩ := List.append_eq_nil_iff.mp e2.symm
        show (if D.sameKey t (kd p.1) x = true then some d' else dlook t x (r.map fun kv => kd kv.1) vs).isSome = _
        rw [hs, List.any_cons, ← ih h2]
        by_cases q : p.1 = k
        · simp [q]
        · simp [q]
  have rep : ∀ {kvs : List (κ × V)} {vs : List D}, Reps G F H vs (kvs.map (·.2)) [] → Reps G F H (dputV t x d (kvs.map fun kv => kd kv.1) vs) ((kvs.map (fun kv => if kv.1 = k then (kv.1, v) else kv)).map (·.2)) [] := fun {kvs} => by
    induction kvs with
    | nil => intro vs r; cases vs <;> exact Reps.nil
    | cons p r ih =>
      intro vs rs
      cases vs with
      | nil => exact absurd rs.1 (by simp)
      | cons d' vs =>
        obtain ⟨v', vr, S1, S2, e1, e2, h1, h2⟩ := rs
        injection e1 with ea eb
        subst ea eb
        obtain ⟨rfl, rfl⟩ := List.append_eq_nil_iff.mp e2.symm
        show Reps G F H ((if D.sameKey t (kd p.1) x = true then d else d') :: dputV t x d (r.map fun kv => kd kv.1) vs) ((if p.1 = k then (p.1, v) else p).2 :: (r.map (fun kv => if kv.1 = k then (kv.1, v) else kv)).map (·.2)) []
        rw [hs]
        by_cases q : p.1 = k
        · rw [decide_eq_true q, if_pos rfl, if_pos q]
          exact Reps.cons (S := []) rd (ih h2)
        · rw [decide_eq_false q, if_neg Bool.false_ne_true, if_neg q]
          exact Reps.cons (S := []) h1 (ih h2)
  have keys : ∀ kvs : List (κ × V), (kvs.map (fun kv => if kv.1 = k then (kv.1, v) else kv)).map (fun kv => kd kv.1) = kvs.map fun kv => kd kv.1 := fun kvs => by
    rw [List.map_map]
    apply List.map_congr_left
    intro p _
    show kd (if p.1 = k then (p.1, v) else p).1 = kd p.1
    split <;> rfl
  intro kvs vs r
  have hl := look r
  unfold dput putK
  cases e : dlook t x (kvs.map fun kv => kd kv.1) vs with
  | some d0 =>
    rw [e] at hl
    rw [if_pos (show _ = true from hl.symm)]
    exact ⟨(keys kvs).symm, rep r⟩
  | none =>
    rw [e] at hl
    rw [if_neg (by rw [← hl]; simp)]
    refine ⟨by rw [List.map_append, hx]; rfl, ?_⟩
    rw [List.map_append]
    exact Reps.app0 r (Reps.cons (S := []) rd Reps.nil)
theorem key_eq {x : D} {k : Key} (h : x.key = some k) : x = keyD k := by
  cases x <;> first | cases h | skip
  all_goals rfl
theorem keys_eq : ∀ {xs : List D} {ks : List Key}, keysOf xs = some ks → xs = ks.map keyD
  | [], ks, h => by cases h; rfl
  | d :: r, ks, h => by
    unfold keysOf at h
    split at h
    · rename_i a b ha hb
      cases h
      rw [key_eq ha, keys_eq hb]
      rfl
    · cases h
theorem keyT_eq {x : D} {ks : List Key} (h : x.keyT = some ks) : x = D.tup false (ks.map keyD) := by
  obtain ⟨i, r, rfl, hk⟩ := keyT_shape h
  rw [← keys_eq hk]
/-- an own dict whose values are shared: a store -/
theorem put_own {t : Bool} {ks vs : List D} {x d : D} {v y : V} {w : V} {T U : List Addr} (e : Same F H) (r : Rep G F H (.dct true t ks vs) v T) (rx : Rep G F H x y U) (hx : x.okKey t = true) (hs : D.isShL vs = true) (hl : ks.length < 100000) (rd : Rep G F H d w []) :
    ∃ l o, v = .ref l ∧ T = [l] ∧ H l ≠ none ∧ F l = none ∧ DPut H l y w (upd H l o) ∧ Rep G F (upd H l o) (.dct true t (dput t x d ks vs).1 (dput t x d ks vs).2) (.ref l) [l] := by
  cases t with
  | false =>
    obtain ⟨k, hk⟩ := Option.isSome_iff_exists.mp (show x.key.isSome = true from hx)
    obtain ⟨p, kvs, T1, hv, hr, hks, ha⟩ := r
    have z := Reps.shn _ hr hs
    subst z
    obtain ⟨h1, h2, h3⟩ := ha
    have hlen : kvs.length < 100000 := by rw [hks, List.length_map] at hl; exact hl
    obtain ⟨p1, p2⟩ := put_any (G := G) (t := false) (kd := keyD) (fun k' => sameKey_k (k' := k') hk) (key_eq hk) rd hr
    rw [← hks] at p1 p2
    refine ⟨p, .dK (putK kvs k w), hv, h3, by rw [h1]; exact fun z => (nomatch z), h2, ?_, ⟨p, putK kvs k w, [], rfl, Reps.mono (Same.refl _) _ p2 (fun p hp => nomatch hp), p1, upd_same, h2, rfl⟩⟩
    rw [key_val rx hk]
    exact DPut.k h1 (lim_lt hlen)
  | true =>
    obtain ⟨k, hk⟩ := Option.isSome_iff_exists.mp (show x.keyT.isSome = true from hx)
    obtain ⟨p, kvs, T1, hv, hr, hks, ha⟩ := r
    have z := Reps.shn _ hr hs
    subst z
    obtain ⟨h1, h2, h3⟩ := ha
    have hlen : kvs.length < 100000 := by rw [hks, List.length_map] at hl; exact hl
    obtain ⟨b, rfl, hb⟩ := keyT_val e rx hk
    obtain ⟨p1, p2⟩ := put_any (G := G) (t := true) (kd := fun k => D.tup false (k.map keyD)) (fun k' => sameKey_t (k' := k') hk) (keyT_eq hk) rd hr
    rw [← hks] at p1 p2
    exact ⟨p, .dT (putK kvs k w), hv, h3, by rw [h1]; exact fun z => (nomatch z), h2, DPut.t h1 hb (lim_lt hlen), ⟨p, putK kvs k w, [], rfl, Reps.mono (Same.refl _) _ p2 (fun p hp => nomatch hp), p1, upd_same, h2, rfl⟩⟩
end
section
variable {G : GX} {W : WX} {ta tb : TE} {φ ψ : List D → Res D} {fr fr2 : Bool} {ms ms2 : List Nat} {t u : TS} {g : List D → SR}
/-! ### reversed(range(n)) -/
theorem den_revr (h : DenE G W ta φ fr []) : DenI G W .revr (iRevR (tRg1 ta)) (one fr φ) := by
  intro σ F H δ S R k p
  refine one_go h k p fun d v F' H' ys e g r hy q => ?_
  have hd : ∃ j, (bif fr then d.flat else d) = .int j ∧ (-100000 ≤ j ∧ j ≤ 100000) ∧ ys = (rngD 0 j.toNat).reverse := by
    revert hy
    generalize (bif fr then d.flat else d) = d'
    intro hy
    cases d' <;> first | (cases hy; done) | skip
    rename_i j
    have hy : (if -100000 ≤ j ∧ j ≤ 100000 then some (rngD 0 j.toNat).reverse else none) = some ys := hy
    split at hy
    · cases hy; exact ⟨j, rfl, by assumption, rfl⟩
    · cases hy
  obtain ⟨j, ej, hj, rfl⟩ := hd
  rw [ej] at r
  refine ⟨j, r.1, by omega, by omega, by omega, by omega, q _ F' H' (.refl g.fh) ?_⟩
  have hl : (rngD 0 j.toNat).reverse.length = j.toNat := by simp [rngD]
  rw [show (j - 0).toNat = j.toNat by omega]
  refine ⟨fun i F1 H1 hi _ _ => by rw [hl] at hi; exact hi, fun F1 H1 _ _ => by rw [hl]; exact Nat.le_refl _, fun i F1 H1 y H2 hi e1 e2 hy => ?_⟩
  obtain ⟨rfl, rfl⟩ := hy
  rw [hl] at hi
  refine ⟨F1, .int (0 + ((j.toNat : Nat) : Int) - 1 + (i : Nat) * (-1)), .refl e2, ?_, rfl, rfl⟩
  rw [List.getElem?_reverse (by simp [rngD]; omega)]
  simp [rngD]
  rw [List.getElem?_range (by omega)]
  simp
  omega
/-- a new value, frozen at once (no code) -/
theorem den_fz (ha : DenE G W ta φ true []) : DenE G W ta (fun δ => (φ δ).bind fun x => .ok x.flat) true [] := by
  intro σ F H δ S Q k p
  refine ha σ F H δ S Q k ?_
  dsimp only at p
  cases e : φ δ with
  | stuck => rw [e] at p; exact p.elim
  | exc x => rw [e] at p; exact p
  | ok d =>
    rw [e] at p
    intro v F' H' T g r q
    have f1 := q rfl List.nodup_nil
    exact p v _ H' [] (g.frz (fun x hx => (Rep.own d r x hx).1) (fun x hx => (f1.2 x hx).elim id fun ⟨i, hi, _⟩ => nomatch hi)) r.frozen fun _ _ => fre_nil
/-! ### {k: v} -/
theorem den_dict1 (ha : DenE G W ta φ fr []) (hb : DenE G W tb ψ fr2 []) :
    DenE G W (tDisp [(ta, tb)]) (fun δ => (φ δ).bind fun x => (ψ δ).bind fun y => guardR (x.okKey false && y.isSh) (.ok (.dct true false [x] [y]))) true [] := by
  intro σ F H δ S Q k p l hl
  have k0 : Ok G F (upd H l (.dK [])) σ δ S := k.gr (.new1 k.fh hl)
  have nF : F l = none := k.fh.free hl
  have p0 := p.step (Gr.new1 (o := .dK []) k.fh hl)
  refine ha.go k0 p0 fun x v F1 H1 T1 e1 g1 k1 r1 _ p1 => ?_
  refine hb.go k1 (p1.step g1) fun y u F2 H2 T2 e2 g2 k2 r2 _ p2 => ?_
  obtain ⟨hg, p2⟩ := PostE.guard (p2.step g2)
  have p3 : PostE G W F H σ S true [] (.ok (.dct true false [x] [y])) Q := by
    have p' := p
    dsimp only at p'
    rw [e1] at p'
    have p' : PostE G W F H σ S true [] ((ψ δ).bind fun y => guardR (x.okKey false && y.isSh) (.ok (.dct true false [x] [y]))) Q := p'
    rw [e2] at p'
    exact (PostE.guard (show PostE G W F H σ S true [] (guardR (x.okKey false && y.isSh) (.ok (.dct true false [x] [y]))) Q from p')).2
  rw [Bool.and_eq_true] at hg
  obtain ⟨key, hk⟩ := Option.isSome_iff_exists.mp (show x.key.isSome = true from hg.1)
  have z := Rep.shn _ r2 hg.2
  subst z
  have g12 := g1.trans g2
  have hl2 : H2 l = some (.dK []) := g12.h _ _ upd_same
  have nF2 : F2 l = none := by
    cases q : F2 l with
    | none => rfl
    | some o =>
      have := g12.new l nF (by rw [q]; exact fun z => nomatch z)
      rw [upd_same] at this
      cases this
  refine ⟨hl2, [(key, u)], ?_, by simp, ?_⟩
  · rw [key_val r1 hk]; rfl
  · have em : mergeK [] [(key, u)] = [(key, u)] := rfl
    rw [em]
    have ga : Gr F H F2 H2 := (Gr.new1 k.fh hl).trans g12
    have r2' := r2.gr (.refl g2.fh)
    have sm : ∀ {o}, Same F2 (upd H2 l o) := fun b o hb' => by
      rw [upd_ne (ne_of_none hb' nF2)]
      exact ga.fh b o hb'
    refine p3 (.ref l) F2 _ [l] ⟨ga.f, fun b o hb' => ?_, sm, ga.new⟩ ⟨l, [(key, u)], [], rfl, ?_, ?_, upd_same, nF2, rfl⟩ (fun _ _ => ⟨by simp, fun q hq => ?_⟩)
    · rw [upd_ne (ne_of_none hb' hl)]
      exact ga.h b o hb'
    · exact Reps.cons (S := []) (Rep.mono (Same.refl _) _ r2 fun p hp => nomatch hp) Reps.nil
    · rw [key_eq hk]; rfl
    · rw [List.mem_singleton.mp hq]
      exact .inl hl
/-! ### dict comprehensions -/
theorem compD_inv {tg : Tg} {δ : List D} {t a b : List D → Res D} {x : D} {r ks vs : List D} {zs : List D × List D} (h : compD tg δ t a b (x :: r) ks vs = .ok zs) :
    ∃ δ1, tgSet tg x δ = some δ1 ∧ ((t δ1 = .ok (.bl true) ∧ ∃ y z, a δ1 = .ok y ∧ b δ1 = .ok z ∧ y.okKey false = true ∧ z.isSh = true ∧ compD tg δ t a b r (dput false y z ks vs).1 (dput false y z ks vs).2 = .ok zs) ∨ (t δ1 = .ok (.bl false) ∧ compD tg δ t a b r ks vs = .ok zs)) := by
  unfold compD at h
  cases e : tgSet tg x δ with
  | none => rw [e] at h; cases h
  | some δ1 =>
    rw [e] at h
    dsimp only at h
    refine ⟨δ1, rfl, ?_⟩
    split at h
    · rename_i q
      refine .inl ⟨q, ?_⟩
      split at h
      · rename_i y q2
        split at h
        · rename_i z q3
          split at h
          · rename_i q4
            rw [Bool.and_eq_true] at q4
            exact ⟨y, z, by first | rfl | assumption, by first | rfl | assumption, q4.1, q4.2, h⟩
          · cases h
        · cases h
      · cases h
    · rename_i q
      exact .inr ⟨q, h⟩
    · cases h
theorem dput_len {t : Bool} {x y : D} {ks vs : List D} : (dput t x y ks vs).1.length ≤ ks.length + 1 := by
  unfold dput
  split <;> simp
def CID (G : GX) (F1 H1 : Hp) (L : Addr) (ks vs : List D) (Hi : Hp) : Prop :=
  ∃ Fi kvs, Gr F1 H1 Fi Hi ∧ Hi L = some (.dK kvs) ∧ Fi L = none ∧ ks = kvs.map (fun kv => keyD kv.1) ∧ Reps G Fi Hi vs (kvs.map (·.2)) []
theorem den_dcomp {wi : TI} {k : IK} {φs : List D → Res (List D)} {tg : Tg} {own : List Nat} {tt : TT} {tk tv : TE} {φt φa φb : List D → Res D}
    (hi : DenC G W k wi φs) (ht : DenT G W0 tt φt) (ha : DenE G W0 tk φa fr ms) (hb : DenE G W0 tv φb fr2 ms2) (hown : ∀ j ∈ tgSlots tg, j ∈ own) :
    DenE G W (tDc wi (tgR G.K tg) tt tk tv own) (fun δ => (φs δ).bind fun xs => guardR (srcSh k xs) (match itemsOf k (D.flatL xs) with
      | some ys => match compD tg (wipeD δ own) φt φa φb ys [] [] with
        | .ok zs => guardR (decide (ys.length ≤ 100000)) (.ok (.dct true false zs.1 zs.2))
        | _ => .stuck
      | none => .stuck)) true [] := by
  intro σ F H δ S Q k0 p
  refine hi σ F H δ S _ k0 ?_
  dsimp only at p
  cases e : φs δ with
  | stuck => rw [e] at p; exact p.elim
  | exc x => rw [e] at p; exact p
  | ok xs =>
    rw [e] at p
    obtain ⟨hs, p⟩ := PostE.guard p
    cases e2 : itemsOf k (D.flatL xs) with
    | none => rw [e2] at p; exact p.elim
    | some ys =>
      rw [e2] at p
      dsimp only at p
      refine ⟨hs, ys, e2, fun J F1 H1 g1 io L hL => ?_⟩
      cases e3 : compD tg (wipeD δ own) φt φa φb ys [] [] with
      | stuck => rw [e3] at p; exact p.elim
      | exc x => rw [e3] at p; exact p.elim
      | ok zs =>
        rw [e3] at p
        obtain ⟨hlen, p⟩ := PostE.guard p
        have hlen : ys.length ≤ 100000 := of_decide_eq_true hlen
        have nF1 : F1 L = none := g1.fh.free hL
        refine ⟨fun i m Hi => m = ys.length - i ∧ i ≤ ys.length ∧ ∃ ks vs, ks.length ≤ i ∧ compD tg (wipeD δ own) φt φa φb (ys.drop i) ks vs = .ok zs ∧ CID G F1 H1 L ks vs Hi,
          ⟨ys.length, rfl, Nat.zero_le _, [], [], Nat.le_refl _, e3, F1, [], .new1 g1.fh hL, upd_same, nF1, rfl, Reps.nil⟩, ?_⟩
        rintro i m Hi ⟨rfl, hile, ks, vs, hdl, hc, Fi, kvs, gi, hLi, nLi, hks, ri⟩
        by_cases hlt : i < ys.length
        · refine .inr ⟨io.go i Fi Hi hlt gi, fun H' => i + 1 ≤ ys.length ∧ ∃ ks vs, ks.length ≤ i + 1 ∧ compD tg (wipeD δ own) φt φa φb (ys.drop (i + 1)) ks vs = .ok zs ∧ CID G F1 H1 L ks vs H',
            fun H' h' => ⟨ys.length - (i + 1), by omega, rfl, h'.1, h'.2⟩, fun x H2 hy => ?_⟩
          obtain ⟨F2, d, g2, hd, rd⟩ := io.yld i Fi Hi x H2 hlt gi hy
          rw [List.drop_eq_getElem_cons hlt] at hc
          rw [List.getElem?_eq_getElem hlt] at hd
          cases hd
          obtain ⟨δ1, et, hc⟩ := compD_inv hc
          have kw := ((k0.gr g1).gr gi).gr g2
          obtain ⟨S', k', _⟩ := kw.wipe own
          refine tg_ok tg k' rd List.nodup_nil (fun _ _ z => nomatch z) et fun σ2 S2 ⟨k2, m2, f2⟩ => ?_
          refine ⟨wipe_eq (by rw [k2.len, ← wipe_length σ own, k'.len]; exact tgSet_len tg et) fun j hj => f2 j fun z => hj (hown j z), ?_⟩
          have hLi2 : H2 L = some (.dK kvs) := g2.h _ _ hLi
          rcases hc with ⟨etrue, y, z, ea, eb, hky, hzs, hc'⟩ | ⟨efalse, hc'⟩
          · refine ht σ2 F2 H2 δ1 S2 _ k2 ?_
            rw [etrue]
            intro F3 H3 g3
            show tk σ2 H3 fun y H4 => _
            have k3 := k2.gr g3
            refine ha σ2 F3 H3 δ1 S2 _ k3 ?_
            rw [ea]
            intro yv F4 H4 T4 g4 r4 _
            refine hb σ2 F4 H4 δ1 S2 _ (k3.gr g4) ?_
            rw [eb]
            intro zv F5 H5 T5 g5 r5 _
            have zz := Rep.shn _ r5 hzs
            subst zz
            obtain ⟨key, hk⟩ := Option.isSome_iff_exists.mp (show y.key.isSome = true from hky)
            have gall := g2.trans (g3.trans (g4.trans g5))
            have hL5 : H5 L = some (.dK kvs) := gall.h _ _ hLi
            have nL5 : F5 L = none := by
              cases q : F5 L with
              | none => rfl
              | some o =>
                have := gall.new L nLi (by rw [q]; exact fun z => nomatch z)
                rw [hLi] at this
                cases this
            have hkl : kvs.length < 100000 := by
              rw [hks, List.length_map] at hdl
              omega
            obtain ⟨p1, p2⟩ := put_any (G := G) (t := false) (kd := keyD) (fun k' => sameKey_k (k' := k') hk) (key_eq hk) r5 (ri.gr gall)
            rw [← hks] at p1 p2
            refine ⟨kvs, key, key_val r4 hk, hL5, lim_lt hkl, by omega, (dput false y z ks vs).1, (dput false y z ks vs).2, by have := dput_len (t := false) (x := y) (y := z) (ks := ks) (vs := vs); omega, hc', F5, putK kvs key zv, ?_, upd_same, nL5, p1, ?_⟩
            · have ga := gi.trans gall
              refine ⟨ga.f, fun b o hb' => ?_, fun b o hb' => ?_, ga.new⟩
              · rw [upd_ne (ne_of_none hb' hL)]
                exact ga.h b o hb'
              · rw [upd_ne (ne_of_none hb' nL5)]
                exact ga.fh b o hb'
            · exact Reps.mono (Same.refl _) _ p2 fun p hp => nomatch hp
          · refine ht σ2 F2 H2 δ1 S2 _ k2 ?_
            rw [efalse]
            intro F3 H3 g3
            show _ ∧ _
            have g23 := g2.trans g3
            refine ⟨by omega, ks, vs, by omega, hc', F3, kvs, gi.trans g23, g23.h _ _ hLi, ?_, hks, ri.gr g23⟩
            cases q : F3 L with
            | none => rfl
            | some o =>
              have := g23.new L nLi (by rw [q]; exact fun z => nomatch z)
              rw [hLi] at this
              cases this
        · have ei : i = ys.length := by omega
          subst ei
          refine .inl ⟨io.stop Fi Hi gi, ?_⟩
          rw [List.drop_length] at hc
          have er : (ks, vs) = zs := Res.ok.inj hc
          subst er
          exact p (.ref L) Fi Hi [L] (g1.trans gi) ⟨L, kvs, [], rfl, ri, hks, hLi, nLi, rfl⟩ fun _ _ => ⟨by simp, fun q hq => by
            rw [List.mem_singleton.mp hq]
            exact .inl (g1.h.free hL)⟩
end
end MP
set_option Elab.async false
set_option linter.all false
set_option maxRecDepth 100000
set_option maxHeartbeats 1000000
namespace MP
open PySem PyProof.Rows
open L2 hiding St
/-! ### a caught exception in its suite: its fields, its class -/
/-- isinstance(e, c), e the exception that the suite holds -/
def rIsX (K : PySem.W.Frag) (D a : Addr) (d : Option Addr) : List V → Hp → VK → Prop := fun xs H Q => ∃ (c : V) (cv : Value) (b : Bool), xs = [.ref a, c] ∧ (∀ u, RelV c u → u = cv) ∧ PySem.W.kitOne K (.ref D) cv = some b ∧ (d = none ∨ ∃ dd fs, d = some dd ∧ H dd = some (.xd fs)) ∧ Q (.bl b) H
theorem call_isX {X : Cx} {a D : Addr} {oe : Obj} {d : Option Addr} {pn : List (Addr × Obj)} (C : L2.ExcC X.K D) (hz : Zc (.ref D) d oe) (hf : ∃ vs, oe.data = .fields vs) : CallR (X.suite a ((a, oe) :: pn)) (.builtin "isinstance") (rIsX X.K D a d) := by
  intro pins s σ H xs us Q I r h
  obtain ⟨c, cv, b, rfl, hcv, e, hd, q⟩ := h
  rcases r with _ | ⟨rx, _ | ⟨rt, rr⟩⟩
  cases rr
  cases rx
  have ec := hcv _ rt
  subst ec
  obtain ⟨hget, _⟩ := I.pin (a, oe) (List.mem_append.mpr (.inl List.mem_cons_self))
  obtain ⟨vs, hv⟩ := hf
  have J : ∃ od, PySem.W.InstAt s.heap a oe D od := by
    rcases hd with rfl | ⟨dd, fs, rfl, hx⟩
    · exact ⟨none, hget, hz.1, by unfold PySem.W.notCls; rw [hv] <;> rfl, by rw [hz.2]; trivial⟩
    · have hx : ObjOk X.prog X.w H s.heap dd (.xd fs) := I.hok dd _ hx
      obtain ⟨mA, hns, hr⟩ := hx
      obtain ⟨od, ho, hl⟩ := lookIn_ns hns
      exact ⟨some od, hget, hz.1, by unfold PySem.W.notCls; rw [hv] <;> rfl, by rw [hz.2]; exact ho⟩
  obtain ⟨od, J⟩ := J
  have hcl : (PySem.W.clsIn X.K D).isSome = true := by
    have h0 := C.hd
    unfold PySem.W.hasDictIn at h0
    cases z : PySem.W.clsIn X.K D with
    | none => rw [z] at h0; cases h0
    | some cd => rfl
  exact PySem.W.kia_one (PySem.W.kitx_exc hcl C.hg C.hk C.hs C.ha C.hn C.ht C.hm) I.kIn J e (fun z => nomatch z) fun tk => ⟨.bl b, H, I.kept (t' := tk) fun _ _ z => z, rfl, q⟩
def tXis (K : PySem.W.Frag) (D a : Addr) (d : Option Addr) (te : TE) (c : V) : TE := tCB (rIsX K D a d) (tCons te (tCons (tC c) tNil))
section
variable {G : GX} {W : WX} {a : Addr} {c : Nat} {o : Option Addr}
theorem rep_exn {F H : Hp} {c' : Nat} {ns : List Str} {vs : List D} {v : V} {S : List Addr} (hG : G.ex = some (a, c, o)) (r : Rep G F H (.exn c' ns vs) v S) : c' = c ∧ v = .ref a ∧ S = [] ∧ ((o = none ∧ ns = [] ∧ vs = []) ∨ ∃ dd fs, o = some dd ∧ F dd = some (.xd fs) ∧ fs.map (·.1) = ns ∧ Reps G F H vs (fs.map (·.2)) []) := by
  obtain ⟨a', o', h1, h2, h3, h4⟩ := r
  rw [hG] at h1
  injection h1 with h1
  injection h1 with e1 h1
  injection h1 with e2 e3
  subst e1 e2 e3
  exact ⟨rfl, h2, h3, h4⟩
/-- where no exception is held -/
theorem den_noexn {t : TE} {i : Nat} (hG : G.ex = none) (f : Nat → List Str → List D → Res D) {fr : Bool} {ms : List Nat} : DenE G W t (fun δ => match gd δ i with
    | .exn c ns vs => f c ns vs
    | _ => .stuck) fr ms := by
  intro σ F H δ S Q k p
  dsimp only at p
  cases e : gd δ i with
  | exn c' ns vs =>
    exfalso
    obtain ⟨v, hv, a', o', h1, _⟩ := k.get e (fun z => nomatch z)
    rw [hG] at h1
    cases h1
  | _ => rw [e] at p; exact p.elim
theorem den_xfld {i : Nat} {f : Str} (hG : G.ex = some (a, c, o)) : DenE G W (tXf a (.ref (G.cls c)) o (G.cls c) f (tVar i)) (fun δ => match gd δ i with
    | .exn _ ns vs => match (ns.zip vs).lookup f with
      | some d => guardR d.isSh (.ok d)
      | none => .stuck
    | _ => .stuck) false [] := by
  intro σ F H δ S Q k p
  dsimp only at p
  cases e : gd δ i with
  | exn c' ns vs =>
    rw [e] at p
    dsimp only at p
    obtain ⟨v, hv, r⟩ := k.get e (fun z => nomatch z)
    obtain ⟨rfl, rfl, _, hh⟩ := rep_exn hG r
    cases e2 : (ns.zip vs).lookup f with
    | none => rw [e2] at p; exact p.elim
    | some d =>
      rw [e2] at p
      obtain ⟨hs, p⟩ := PostE.guard p
      rcases hh with ⟨_, rfl, rfl⟩ | ⟨dd, fs, rfl, hF, rfl, hr⟩
      · cases e2
      · obtain ⟨v', S', h1, h2⟩ := rep_field hr e2
        have z := Rep.shn _ h2 hs
        subst z
        exact ⟨_, hv, rfl, rfl, dd, fs, v', rfl, k.fh _ _ hF, h1, p.val k.fh h2⟩
  | _ => rw [e] at p; exact p.elim
theorem den_xis {i : Nat} {cv : V} {b : Nat → Option Bool} {u : Value} (hG : G.ex = some (a, c, o)) (hu : ∀ x, RelV cv x → x = u) (hb : ∀ z, b c = some z → PySem.W.kitOne G.K (.ref (G.cls c)) u = some z) : DenE G W (tXis G.K (G.cls c) a o (tVar i) cv) (fun δ => match gd δ i with
    | .exn c' _ _ => match b c' with
      | some z => .ok (.bl z)
      | none => .stuck
    | _ => .stuck) true [] := by
  intro σ F H δ S Q k p
  dsimp only at p
  cases e : gd δ i with
  | exn c' ns vs =>
    rw [e] at p
    dsimp only at p
    obtain ⟨v, hv, r⟩ := k.get e (fun z => nomatch z)
    obtain ⟨rfl, rfl, _, hh⟩ := rep_exn hG r
    cases e2 : b c' with
    | none => rw [e2] at p; exact p.elim
    | some z =>
      rw [e2] at p
      refine ⟨_, hv, cv, u, z, rfl, hu, hb z e2, ?_, p.val k.fh ⟨rfl, rfl⟩⟩
      rcases hh with ⟨rfl, _⟩ | ⟨dd, fs, rfl, hF, _⟩
      · exact .inl rfl
      · exact .inr ⟨dd, fs, rfl, k.fh _ _ hF⟩
  | _ => rw [e] at p; exact p.elim
end
end MP
set_option Elab.async false
set_option linter.all false
set_option maxRecDepth 100000
set_option maxHeartbeats 1000000
namespace MP
open PySem
open L2 hiding St
/-- the world of a row's readings: its classes, its defs' tables, its global values -/
structure GE where
  G : GX
  Φ : Tab
  gv : Nat → V
  flds : List Str
  exm : List (Nat × Nat) := []
  xfs : List (Nat × Str) := []
  xcs : List Nat := []
  xc : Option Nat := none
structure GOk (Γ : GE) : Prop where
  kin : KindI Γ.G
  cls : ∀ c ∈ Γ.G.cs, Cls Γ.G.K (Γ.G.cls c)
  noa : ∀ f ∈ Γ.flds, ∀ c ∈ Γ.G.cs, NoAttr Γ.G.K (Γ.G.cls c) f
  gl : ∀ n F H, Rep Γ.G F H (Γ.Φ.gl n) (Γ.gv n) []
  exm : ∀ p ∈ Γ.exm, PySem.W.exmOne Γ.G.K (.ref (Γ.G.cls p.1)) (.ref (Γ.G.cls p.2)) = some true
  xfs : ∀ p ∈ Γ.xfs, XfC Γ.G.K (Γ.G.cls p.1) ∧ PySem.W.findIn Γ.G.K (.ref (Γ.G.cls p.1)) p.2 = some none
  isx : ∀ c k b, Γ.Φ.isx c k = some b → PySem.W.kitOne Γ.G.K (.ref (Γ.G.cls c)) (.ref (Γ.G.cls k)) = some b
  xcs : ∀ c ∈ Γ.xcs, L2.ExcC Γ.G.K (Γ.G.cls c) ∧ PySem.W.kitOne Γ.G.K (.ref (Γ.G.cls c)) (.type "ValueError") = some true
  exc : ∀ a c o, Γ.G.ex = some (a, c, o) → Γ.xc = some c
def orE (t u : TE) : TE := fun σ H Q => t σ H Q ∨ u σ H Q
theorem pe_orE {X : Cx} {e : Expr} {t u : TE} (h : PE X e t) (k : PE X e u) : PE X e (orE t u) := ⟨fun pins s σ H Q I q => q.elim (h.run pins s σ H Q I) (k.run pins s σ H Q I)⟩
def tNo : TE := fun _ _ _ => False
def litV : D → V
  | .int i => .int i
  | .str x => .str x
  | .bl b => .bl b
  | _ => .non
def litOk : D → Bool
  | .int _ | .str _ | .bl _ | .non => true
  | _ => false
abbrev rMax2 : R1L := fun xs H Q => ∃ i j, xs = [.int i, .int j] ∧ Q (.int (if j > i then j else i)) H
abbrev rMin2 : R1L := fun xs H Q => ∃ i j, xs = [.int i, .int j] ∧ Q (.int (if j < i then j else i)) H
abbrev rAbs1 : R1L := fun xs H Q => ∃ i, xs = [.int i] ∧ Q (.int (if i < 0 then -i else i)) H
abbrev rInt1 : R1L := fun xs H Q => (∃ i, xs = [.int i] ∧ Q (.int i) H) ∨ ∃ k, xs = [.bl k] ∧ Q (.int (if k then 1 else 0)) H
abbrev rTuple1 (K : PySem.W.Frag) : R1L := fun xs H Q => ∃ p ys, xs = [.ref p] ∧ ((SqL K H p ys ∧ ∀ l, H l = none → Q (.ref l) (upd H l (.tup ys))) ∨ (SqT K H p ys ∧ Q (.ref p) H))
abbrev rIsN1 : R2 := fun x y H Q => y = .non ∧ Q (.bl (decide (x = .non))) H
abbrev rNotN1 : R2 := fun x y H Q => y = .non ∧ Q (.bl (!decide (x = .non))) H
abbrev rIsB1 : R2 := fun x y H Q => ∃ a b, x = .bl a ∧ y = .bl b ∧ Q (.bl (decide (a = b))) H
abbrev rNotB1 : R2 := fun x y H Q => ∃ a b, x = .bl a ∧ y = .bl b ∧ Q (.bl (!decide (a = b))) H
def rd1 (G : GX) : Op1 → TE → TE
  | .neg, t => tUn (rU fun i => .int (-i)) t
  | .not, t => tNotV t
  | .len, t => tCB (rLenA G.K) (tCons t tNil)
  | .abs, t => tCB rAbs1 (tCons t tNil)
  | .int, t => tCB rInt1 (tCons t tNil)
  | .list, t => tCB (rListA G.K) (tCons t tNil)
  | .tuple, t => tCB (rTuple1 G.K) (tCons t tNil)
  | .sorted, t => tCB (rSortA G.K) (tCons t tNil)
  | .all, t => tCB (rAll G.K) (tCons t tNil)
  | .any, t => tCB (rAny G.K) (tCons t tNil)
  | .isN, t => tOp rIsN1 t (tC .non)
  | .notN, t => tOp rNotN1 t (tC .non)
  | .isB b, t => tOp rIsB1 t (tC (.bl b))
  | .notB b, t => tOp rNotB1 t (tC (.bl b))
  | .isI k, t => tCB (rIsi G.K) (tCons t (tCons (tC (kindV G k)) tNil))
  | .rev, t => tRevL G.K t
  | .lrg, t => tLstRg (tRg1 t)
def rd2 (G : GX) : Op2 → TE → TE → TE
  | .add, t, u => tOp rAddA t u
  | .sub, t, u => tOp (rI0 fun i j => .int (i - j)) t u
  | .mul, t, u => tOp rMulA t u
  | .fdiv, t, u => tOp (rI CDiv fun i j => .int (i / j)) t u
  | .mod, t, u => tOp (rI (fun _ j => 0 < j) fun i j => .int (i % j)) t u
  | .pow, t, u => tOp (rI CPow fun i j => .int (i ^ j.toNat)) t u
  | .lt, t, u => tOp (rCmp .lt) t u
  | .le, t, u => tOp (rCmp .le) t u
  | .gt, t, u => tOp (rCmp .gt) t u
  | .ge, t, u => tOp (rCmp .ge) t u
  | .eq, t, u => tOp (rEqD G.K) t u
  | .ne, t, u => tOp (rNeD G.K) t u
  | .isin, t, u => tOp (rInA G.K) t u
  | .nin, t, u => tOp (rNiA G.K) t u
  | .max, t, u => tCB rMax2 (tCons t (tCons u tNil))
  | .min, t, u => tCB rMin2 (tCons t (tCons u tNil))
  | .ix, t, u => orE (tOp (rIx G.K) t u) (tOp rDG t u)
  | .lrg2, t, u => tLstRg (tRg2 t u)
  | .join, t, u => tM1 (rJoinA G.K) t u
  | .index, t, u => tBM G.K "list" (rIndex G.K) t (tCons u tNil)
def meth2 : Op2 → Bool
  | .join | .index => true
  | _ => false
theorem den_isN {G : GX} {W : WX} {ta : TE} {φ : List D → Res D} {fr : Bool} {ms : List Nat} (ha : DenE G W ta φ fr ms) : DenE G W (tOp rIsN1 ta (tC .non)) (fun δ => (φ δ).bind (sem1 .isN)) true [] := by
  intro σ F H δ S Q k p
  refine ha.go k p fun x v F1 H1 T1 e1 g1 k1 r1 _ p1 => ?_
  have p1 := p1.step g1
  refine ⟨rfl, ?_⟩
  have go : ∀ b : Bool, sem1 .isN x = .ok (.bl b) → decide (v = .non) = b → Q (.bl (decide (v = .non))) H1 := fun b h1 h2 => by
    rw [h1] at p1
    rw [h2]
    exact p1.val g1.fh ⟨rfl, rfl⟩
  cases x with
  | dead => exact p1.elim
  | non => exact go true rfl (by rw [show v = .non from r1.1]; rfl)
  | bl b => exact go false rfl (by rw [show v = .bl b from r1.1]; rfl)
  | int b => exact go false rfl (by rw [show v = .int b from r1.1]; rfl)
  | str b => exact go false rfl (by rw [show v = .str b from r1.1]; rfl)
  | lst o xs => obtain ⟨p, vs, S', rfl, _⟩ := r1; exact go false rfl rfl
  | tup o xs => obtain ⟨p, vs, S', rfl, _⟩ := r1; exact go false rfl rfl
  | dct o t ks vs => cases t <;> (obtain ⟨p, kvs, S', rfl, _⟩ := r1; exact go false rfl rfl)
  | obj o c ns vs => obtain ⟨p, dx, fs, S', rfl, _⟩ := r1; exact go false rfl rfl
  | scr ns => obtain ⟨p, rfl, _⟩ := r1; exact go false rfl rfl
  | exn c ns vs => obtain ⟨p, o, _, rfl, _⟩ := r1; exact go false rfl rfl
theorem den_isB {G : GX} {W : WX} {ta : TE} {φ : List D → Res D} {fr : Bool} {ms : List Nat} (b : Bool) (ha : DenE G W ta φ fr ms) : DenE G W (tOp rIsB1 ta (tC (.bl b))) (fun δ => (φ δ).bind (sem1 (.isB b))) true [] := by
  intro σ F H δ S Q k p
  refine ha.go k p fun x v F1 H1 T1 e1 g1 k1 r1 _ p1 => ?_
  have p1 := p1.step g1
  cases x with
  | bl a => exact ⟨a, b, r1.1, rfl, p1.val g1.fh ⟨rfl, rfl⟩⟩
  | _ => exact p1.elim
theorem den_notB {G : GX} {W : WX} {ta : TE} {φ : List D → Res D} {fr : Bool} {ms : List Nat} (b : Bool) (ha : DenE G W ta φ fr ms) : DenE G W (tOp rNotB1 ta (tC (.bl b))) (fun δ => (φ δ).bind (sem1 (.notB b))) true [] := by
  intro σ F H δ S Q k p
  refine ha.go k p fun x v F1 H1 T1 e1 g1 k1 r1 _ p1 => ?_
  have p1 := p1.step g1
  cases x with
  | bl a => exact ⟨a, b, r1.1, rfl, p1.val g1.fh ⟨rfl, rfl⟩⟩
  | _ => exact p1.elim
theorem den_notN {G : GX} {W : WX} {ta : TE} {φ : List D → Res D} {fr : Bool} {ms : List Nat} (ha : DenE G W ta φ fr ms) : DenE G W (tOp rNotN1 ta (tC .non)) (fun δ => (φ δ).bind (sem1 .notN)) true [] := by
  intro σ F H δ S Q k p
  refine ha.go k p fun x v F1 H1 T1 e1 g1 k1 r1 _ p1 => ?_
  have p1 := p1.step g1
  refine ⟨rfl, ?_⟩
  have go : ∀ b : Bool, sem1 .notN x = .ok (.bl b) → (!decide (v = .non)) = b → Q (.bl (!decide (v = .non))) H1 := fun b h1 h2 => by
    rw [h1] at p1
    rw [h2]
    exact p1.val g1.fh ⟨rfl, rfl⟩
  cases x with
  | dead => exact p1.elim
  | non => exact go false rfl (by rw [show v = .non from r1.1]; rfl)
  | bl b => exact go true rfl (by rw [show v = .bl b from r1.1]; rfl)
  | int b => exact go true rfl (by rw [show v = .int b from r1.1]; rfl)
  | str b => exact go true rfl (by rw [show v = .str b from r1.1]; rfl)
  | lst o xs => obtain ⟨p, vs, S', rfl, _⟩ := r1; exact go true rfl rfl
  | tup o xs => obtain ⟨p, vs, S', rfl, _⟩ := r1; exact go true rfl rfl
  | dct o t ks vs => cases t <;> (obtain ⟨p, kvs, S', rfl, _⟩ := r1; exact go true rfl rfl)
  | obj o c ns vs => obtain ⟨p, dx, fs, S', rfl, _⟩ := r1; exact go true rfl rfl
  | scr ns => obtain ⟨p, rfl, _⟩ := r1; exact go true rfl rfl
  | exn c ns vs => obtain ⟨p, o, _, rfl, _⟩ := r1; exact go true rfl rfl
theorem den_isi {G : GX} {W : WX} {k : Kind} (I : KindI G) (hk : kindIn G.cs k = true) {ta : TE} {φ : List D → Res D} {fr : Bool} {ms : List Nat} (ha : DenE G W ta φ fr ms) : DenE G W (tCB (rIsi G.K) (tCons ta (tCons (tC (kindV G k)) tNil))) (fun δ => (φ δ).bind (sem1 (.isI k))) true [] := by
  intro σ F H δ S Q k0 p
  refine ha.go k0 p fun x v F1 H1 T1 e1 g1 k1 r1 _ p1 => ?_
  exact dn_isi I hk F1 H1 x v T1 Q g1.fh r1 (post_to (p1.step g1) (quiet1 (.isI k) x))
theorem shL_all : ∀ l : List D, D.isShL l = l.all D.isSh
  | [] => rfl
  | d :: r => by
    show (D.isSh d && D.isShL r) = _
    rw [shL_all r, List.all_cons]
theorem den_rev {G : GX} {W : WX} {ta : TE} {φ : List D → Res D} {fr : Bool} {ms : List Nat} (ha : DenE G W ta φ fr ms) : DenE G W (tRevL G.K ta) (fun δ => (φ δ).bind (sem1 .rev)) true [] := by
  intro σ F H δ S Q k p
  refine ha.go k p fun x v F1 H1 T1 e1 g1 k1 r1 _ p1 => ?_
  cases x with
  | lst o xs =>
    have p2 := post_to (p1.step g1) (quiet1 .rev _)
    obtain ⟨a, vs, S', rfl, hp, hr⟩ := rep_lst g1.fh r1
    obtain ⟨z, q⟩ := PostV.lst (xs := xs.reverse) (vs := vs.reverse) p2 g1.fh (fun z => by
      have z2 : D.isShL xs = true := by
        rw [shL_all] at z ⊢
        rw [List.all_reverse] at z
        exact z
      have := Reps.shn _ hr z2
      subst this
      exact hr.reverse) (by simp [hr.len])
    exact ⟨a, vs, rfl, SqL.of hp, q⟩
  | _ => exact (p1 : False).elim
theorem reps_intsF {G : GX} {F H : Hp} (f : Nat → Int) : ∀ l : List Nat, Reps G F H (l.map fun i => D.int (f i)) (l.map fun i => V.int (f i)) []
  | [] => Reps.nil
  | i :: r => Reps.cons (S := []) ⟨rfl, rfl⟩ (reps_intsF f r)
theorem lrg_go {G : GX} {F1 H1 : Hp} {Q : VK} {a b : Int} {n : Nat} (e : Same F1 H1) (hn : (b - a).toNat = n) (p : PostV G F1 H1 (.ok (.lst true (rngD a n))) Q) : ∀ q, H1 q = none → Q (.ref q) (upd H1 q (.lst (rgV a b))) := fun q hq => by
  have g : Gr F1 H1 F1 (upd H1 q (.lst (rgV a b))) := .new1 e hq
  refine p (.ref q) F1 _ [q] g ⟨q, _, [], rfl, ?_, upd_same, e.free hq, rfl⟩ (by simp) fun x hx => by rw [List.mem_singleton.mp hx]; exact hq
  unfold rngD rgV
  rw [hn]
  exact reps_intsF _ _
theorem den_lrg {G : GX} {W : WX} {ta : TE} {φ : List D → Res D} {fr : Bool} {ms : List Nat} (ha : DenE G W ta φ fr ms) : DenE G W (tLstRg (tRg1 ta)) (fun δ => (φ δ).bind (sem1 .lrg)) true [] := by
  intro σ F H δ S Q k p
  refine ha.go k p fun x v F1 H1 T1 e1 g1 k1 r1 _ p1 => ?_
  cases x with
  | int j =>
    have p2 := post_to (p1.step g1) (quiet1 .lrg _)
    obtain ⟨hb, p2⟩ := PostV.guard p2
    simp only [Bool.and_eq_true, decide_eq_true_eq] at hb
    exact ⟨j, r1.1, ⟨by omega, by omega, by omega, by omega, by omega⟩, lrg_go g1.fh (by omega) p2⟩
  | _ => exact (p1 : False).elim
theorem den_lrg2 {G : GX} {W : WX} {ta tb : TE} {φ ψ : List D → Res D} {fr fr2 : Bool} {ms ms2 : List Nat} (ha : DenE G W ta φ fr ms) (hb : DenE G W tb ψ fr2 ms2) : DenE G W (tLstRg (tRg2 ta tb)) (fun δ => (φ δ).bind fun x => (ψ δ).bind fun y => sem2 .lrg2 x y) true [] := by
  intro σ F H δ S Q k p
  refine ha.go k p fun x v F1 H1 T1 e1 g1 k1 r1 _ p1 => ?_
  refine hb.go k1 (p1.step g1) fun y u F2 H2 T2 e2 g2 k2 r2 _ p2 => ?_
  have p3 := post_to (p2.step g2) (quiet2 .lrg2 x y)
  cases x with
  | int i =>
    cases y with
    | int j =>
      obtain ⟨hb, p3⟩ := PostV.guard p3
      simp only [Bool.and_eq_true, decide_eq_true_eq] at hb
      exact ⟨i, j, r1.1, r2.1, ⟨by omega, by omega, by omega, by omega, by omega⟩, lrg_go g2.fh rfl p3⟩
    | _ => exact (p3 : False).elim
  | _ => exact (p3 : False).elim
theorem den_rd1 {Γ : GE} (ok : GOk Γ) {W : WX} {ta : TE} {φ : List D → Res D} {fr : Bool} {ms : List Nat} (ha : DenE Γ.G W ta φ fr ms) (o : Op1) (hk : ∀ k, o = .isI k → kindIn Γ.G.cs k = true) : DenE Γ.G W (rd1 Γ.G o ta) (fun δ => (φ δ).bind (sem1 o)) true [] := by
  cases o with
  | neg => exact den_op1 (ta := ta) ha dn_neg (quiet1 _)
  | not => exact den_notV ha
  | len => exact den_c1 ha dn_len (quiet1 _)
  | abs => exact den_c1 ha dn_abs (quiet1 _)
  | int => exact den_c1 ha dn_int (quiet1 _)
  | list => exact den_c1 ha dn_list (quiet1 _)
  | tuple => exact den_c1 ha dn_tuple (quiet1 _)
  | sorted => exact den_c1 ha dn_sorted (quiet1 _)
  | all => exact den_c1 ha dn_all (quiet1 _)
  | any => exact den_c1 ha dn_any (quiet1 _)
  | isN => exact den_isN ha
  | notN => exact den_notN ha
  | isB b => exact den_isB b ha
  | notB b => exact den_notB b ha
  | isI k => exact den_isi ok.kin (hk k rfl) ha
  | rev => exact den_rev ha
  | lrg => exact den_lrg ha
theorem den_ix {G : GX} {W : WX} {ta tb : TE} {φ ψ : List D → Res D} {fr fr2 : Bool} {ms ms2 : List Nat} (ha : DenE G W ta φ fr ms) (hb : DenE G W tb ψ fr2 ms2) : DenE G W (orE (tOp (rIx G.K) ta tb) (tOp rDG ta tb)) (fun δ => (φ δ).bind fun x => (ψ δ).bind fun y => sem2 .ix x y) true [] := by
  intro σ F H δ S Q k p
  have hd : (∃ o t ks vs, φ δ = .ok (.dct o t ks vs)) ∨ ∀ o t ks vs, φ δ ≠ .ok (.dct o t ks vs) := by
    cases e : φ δ with
    | ok d => cases d <;> first | exact .inl ⟨_, _, _, _, rfl⟩ | exact .inr fun o t ks vs z => by cases z
    | _ => exact .inr fun o t ks vs z => by cases z
  rcases hd with ⟨o, t, ks, vs, hd⟩ | hd
  · refine .inr (ha.go k p fun x v F1 H1 T1 e1 g1 k1 r1 _ p1 => ?_)
    refine hb.go k1 (p1.step g1) fun y u F2 H2 T2 e2 g2 k2 r2 _ p2 => ?_
    rw [hd] at e1
    cases e1
    exact dn_ix F2 H2 _ y v u T1 T2 Q g2.fh (r1.gr g2) r2 (post_to (p2.step g2) (quiet2 .ix _ y))
  · refine .inl (ha.go k p fun x v F1 H1 T1 e1 g1 k1 r1 _ p1 => ?_)
    refine hb.go k1 (p1.step g1) fun y u F2 H2 T2 e2 g2 k2 r2 _ p2 => ?_
    have q := dn_ix F2 H2 x y v u T1 T2 Q g2.fh (r1.gr g2) r2 (post_to (p2.step g2) (quiet2 .ix x y))
    cases x <;> first | exact q | exact absurd e1 (hd _ _ _ _)
theorem den_rd2 {Γ : GE} (ok : GOk Γ) {W : WX} {ta tb : TE} {φ ψ : List D → Res D} {fr fr2 : Bool} {ms ms2 : List Nat} (ha : DenE Γ.G W ta φ fr ms) (hb : DenE Γ.G W tb ψ fr2 ms2) (o : Op2) (ho : meth2 o = false) : DenE Γ.G W (rd2 Γ.G o ta tb) (fun δ => (φ δ).bind fun x => (ψ δ).bind fun y => sem2 o x y) true [] := by
  cases o with
  | add => exact den_op2 ha hb dn_add (quiet2 _)
  | sub => exact den_op2 ha hb dn_sub (quiet2 _)
  | mul => exact den_op2 ha hb dn_mul (quiet2 _)
  | fdiv => exact den_op2 ha hb dn_fdiv (quiet2 _)
  | mod => exact den_op2 ha hb dn_mod (quiet2 _)
  | pow => exact den_op2 ha hb dn_pow (quiet2 _)
  | lt => exact den_op2 ha hb (dn_cmpR (o := .lt) rfl) (quiet2 _)
  | le => exact den_op2 ha hb (dn_cmpR (o := .le) rfl) (quiet2 _)
  | gt => exact den_op2 ha hb (dn_cmpR (o := .gt) rfl) (quiet2 _)
  | ge => exact den_op2 ha hb (dn_cmpR (o := .ge) rfl) (quiet2 _)
  | eq => exact den_op2 ha hb dn_eq (quiet2 _)
  | ne => exact den_op2 ha hb dn_ne (quiet2 _)
  | isin => exact den_op2 ha hb dn_in (quiet2 _)
  | nin => exact den_op2 ha hb dn_ni (quiet2 _)
  | max => exact den_c2 ha hb dn_max (quiet2 _)
  | min => exact den_c2 ha hb dn_min (quiet2 _)
  | ix => exact den_ix ha hb
  | lrg2 => exact den_lrg2 ha hb
  | join => cases ho
  | index => cases ho
end MP
set_option Elab.async false
set_option linter.all false
set_option maxRecDepth 100000
set_option maxHeartbeats 1000000
namespace MP
open PySem
open L2 hiding St
def DE.cnt : DE → Nat
  | .cons _ r => r.cnt + 1
  | _ => 0
structure RD where
  e : TE
  t : TT
  a : TA
  h : TE
def RD.of (e : TE) : RD := ⟨e, tB e, fun _ _ _ => False, tNo⟩
def RD.op (e : TE) (t : TT) : RD := ⟨e, t, fun _ _ _ => False, tNo⟩
def rdIt (G : GX) (k : IK) (s : RD) : TI := match k with
  | .seq => iSeq G.K s.h
  | .str => iStr s.h
  | .enum => iEnumA G.K s.a
  | .rng1 => iRng1 s.a
  | .rng2 => iRng2 s.a
  | .zip => fun _ _ _ => False
  | .revr => iRevR (tRg1 s.h)
def DE.noIf : DE → Bool
  | .lit (.bl true) => true
  | _ => false
def rd (Γ : GE) : DE → WX → RD
  | .lit d, W => .of (tC (litV d))
  | .gl n, W => .of (tC (Γ.gv n))
  | .pk i, W => .of (tVar i)
  | .mv i, W => .of (tVar i)
  | .o1 o a, W => match o with
    | .not => .op (tNotV (rd Γ a W).e) (tNot (rd Γ a W).t)
    | o => .of (rd1 Γ.G o (rd Γ a W).e)
  | .o2 o a b, W => .of (rd2 Γ.G o (rd Γ a W).e (rd Γ b W).e)
  | .mt o a b, W => .of (rd2 Γ.G o (rd Γ a W).e (rd Γ b W).e)
  | .o3 o a b c, W => .of (tDGet2 (rd Γ a W).e (rd Γ b W).e (rd Γ c W).e)
  | .ch2 o p a b c, W => .of (tChain (rCmp o) (rCmp p) (rd Γ a W).e (rd Γ b W).e (rd Γ c W).e)
  | .ch3 o p q a b c d, W => .of (tChain3 (rCmp o) (rCmp p) (rCmp q) (rd Γ a W).e (rd Γ b W).e (rd Γ c W).e (rd Γ d W).e)
  | .sl a lo hi, W => .of (tSl (rSlL Γ.G.K) (rd Γ a W).e (bif lo.noPart then tNoPart else tPart (rd Γ lo W).e) (bif hi.noPart then tNoPart else tPart (rd Γ hi W).e))
  | .and a b, W => .op (tAndV (rd Γ a W).e (rd Γ b W).e) (tAnd (rd Γ a W).t (rd Γ b W).t)
  | .or a b, W => .op (tOrV (rd Γ a W).e (rd Γ b W).e) (tOr (rd Γ a W).t (rd Γ b W).t)
  | .ite c a b, W => .of (tIf (rd Γ c W).t (rd Γ a W).e (rd Γ b W).e)
  | .edict t, W => .of (bif t then tDNewT else tDNewK)
  | .nil, W => ⟨tNo, fun _ _ _ => False, tNil, tNo⟩
  | .cons a r, W => ⟨tNo, fun _ _ _ => False, tCons (rd Γ a W).e (rd Γ r W).a, (rd Γ a W).e⟩
  | .lst as, W => .of (tLst (rd Γ as W).a)
  | .tup as, W => .of (tTup (rd Γ as W).a)
  | .call f as, W => .of (tCallU (spD Γ.G as.cnt (Γ.Φ.fn f)) W (rd Γ as W).a)
  | .fld a f, W => .of (tFld Γ.G.K (rd Γ a W).e f)
  | .comp k src tg own c b, W => .of (tLc (rdIt Γ.G k (rd Γ src W)) (tgR Γ.G.K tg) (bif c.noIf then tYes else (rd Γ c W0).t) (rd Γ b W0).e own)
  | .fz a, W => .of (rd Γ a W).e
  | .dict1 a b, W => .of (tDisp [((rd Γ a W).e, (rd Γ b W).e)])
  | .xfld i f, W => .of (match Γ.G.ex with
    | some (a, c, o) => tXf a (.ref (Γ.G.cls c)) o (Γ.G.cls c) f (tVar i)
    | none => tNo)
  | .xis i k, W => .of (match Γ.G.ex with
    | some (a, c, o) => tXis Γ.G.K (Γ.G.cls c) a o (tVar i) (.ref (Γ.G.cls k))
    | none => tNo)
  | .xisV i, W => .of (match Γ.G.ex with
    | some (a, c, o) => tXis Γ.G.K (Γ.G.cls c) a o (tVar i) (.ty "ValueError")
    | none => tNo)
  | .dcomp k src tg own c a b, W => .of (tDc (rdIt Γ.G k (rd Γ src W)) (tgR Γ.G.K tg) (bif c.noIf then tYes else (rd Γ c W0).t) (rd Γ a W0).e (rd Γ b W0).e own)
def srcOk (k : IK) (s : DE) : Bool := match k, s with
  | .seq, .cons a .nil => a.movs.isEmpty
  | .str, .cons a .nil => a.movs.isEmpty
  | .enum, .cons a .nil => a.movs.isEmpty
  | .revr, .cons a .nil => a.movs.isEmpty
  | .rng1, s => s.movs.isEmpty
  | .rng2, s => s.movs.isEmpty
  | _, _ => false
def o1Ok (cs : List Nat) : Op1 → Bool
  | .isI k => kindIn cs k
  | _ => true
def wf (Γ : GE) : Bool → DE → Bool
  | true, .nil => true
  | true, .cons a r => wf Γ false a && wf Γ true r
  | true, _ => false
  | false, .lit d => litOk d
  | false, .gl n => true
  | false, .pk i => true
  | false, .mv i => true
  | false, .o1 o a => wf Γ false a && o1Ok Γ.G.cs o
  | false, .o2 o a b => wf Γ false a && wf Γ false b && !meth2 o
  | false, .mt o a b => wf Γ false a && wf Γ false b && meth2 o
  | false, .o3 o a b c => wf Γ false a && wf Γ false b && wf Γ false c && c.movs.isEmpty
  | false, .ch2 o p a b c => wf Γ false a && wf Γ false b && wf Γ false c && cmpR o && cmpR p
  | false, .ch3 o p q a b c d => wf Γ false a && wf Γ false b && wf Γ false c && wf Γ false d && cmpR o && cmpR p && cmpR q
  | false, .sl a lo hi => wf Γ false a && wf Γ false lo && wf Γ false hi
  | false, .and a b => wf Γ false a && wf Γ false b
  | false, .or a b => wf Γ false a && wf Γ false b
  | false, .ite c a b => wf Γ false c && wf Γ false a && wf Γ false b
  | false, .edict t => true
  | false, .nil => false
  | false, .cons a r => false
  | false, .lst as => wf Γ true as
  | false, .tup as => wf Γ true as
  | false, .call f as => wf Γ true as && as.movs.isEmpty
  | false, .fld a f => wf Γ false a && Γ.flds.contains f
  | false, .comp k src tg own c b => wf Γ true src && wf Γ false c && wf Γ false b && srcOk k src && (tgSlots tg).all fun j => own.contains j
  | false, .fz a => wf Γ false a && a.fr && a.movs.isEmpty
  | false, .dict1 a b => wf Γ false a && wf Γ false b && a.movs.isEmpty && b.movs.isEmpty
  | false, .xfld i f => (match Γ.xc with | some c => Γ.xfs.contains (c, f) | none => false)
  | false, .xis i k => (match Γ.xc with | some c => Γ.xcs.contains c | none => false)
  | false, .xisV i => (match Γ.xc with | some c => Γ.xcs.contains c | none => false)
  | false, .dcomp k src tg own c a b => wf Γ true src && wf Γ false c && wf Γ false a && wf Γ false b && srcOk k src && (tgSlots tg).all fun j => own.contains j
theorem evalL_len (Φ : Tab) : ∀ (as : DE) {δ : List D} {ds : List D}, evalL Φ as δ = .ok ds → ds.length = as.cnt := fun as => by
  induction as with
  | nil => intro δ ds h; cases h; rfl
  | cons a r _ ih =>
    intro δ ds h
    have h : ((evalE Φ a δ).bind fun x => (evalL Φ r δ).bind fun xs => .ok ((bif a.fr then x.flat else x) :: xs)) = .ok ds := h
    cases e : evalE Φ a δ with
    | ok x =>
      rw [e] at h
      have h : ((evalL Φ r δ).bind fun xs => .ok ((bif a.fr then x.flat else x) :: xs)) = .ok ds := h
      cases e2 : evalL Φ r δ with
      | ok xs =>
        rw [e2] at h
        cases h
        show xs.length + 1 = _
        rw [ih e2]
        rfl
      | exc x => rw [e2] at h; cases h
      | stuck => rw [e2] at h; cases h
    | exc x => rw [e] at h; cases h
    | stuck => rw [e] at h; cases h
  | _ => intro δ ds h; cases h
structure DenOk (Γ : GE) (d : DE) : Prop where
  e : ∀ W, wf Γ false d = true → DenE Γ.G W (rd Γ d W).e (evalE Γ.Φ d) d.fr d.movs ∧ DenT Γ.G W (rd Γ d W).t (evalE Γ.Φ d)
  l : ∀ W, wf Γ true d = true → DenL Γ.G W (rd Γ d W).a (evalT Γ.Φ d) true d.movs ∧ (d.movs = [] → DenL Γ.G W (rd Γ d W).a (evalL Γ.Φ d) false [])
  h : ∀ W a, d = .cons a .nil → wf Γ true d = true → DenE Γ.G W (rd Γ a W).e (evalE Γ.Φ a) a.fr a.movs
theorem both {G : GX} {W : WX} {t : TE} {φ : List D → Res D} {fr : Bool} {ms : List Nat} (h : DenE G W t φ fr ms) : DenE G W (RD.of t).e φ fr ms ∧ DenT G W (RD.of t).t φ := ⟨h, den_tB h⟩
theorem DenOk.e' {Γ : GE} {d : DE} (h : ∀ W, wf Γ false d = true → DenE Γ.G W (rd Γ d W).e (evalE Γ.Φ d) d.fr d.movs ∧ DenT Γ.G W (rd Γ d W).t (evalE Γ.Φ d)) (n : wf Γ true d = false) : DenOk Γ d :=
  ⟨h, (fun W z => nomatch n.symm.trans z), (fun W a e z => nomatch n.symm.trans z)⟩
theorem den_src {Γ : GE} {W : WX} {k : IK} {s : DE} (ih : DenOk Γ s) (hs : srcOk k s = true) (hw : wf Γ true s = true) : DenI Γ.G W k (rdIt Γ.G k (rd Γ s W)) (evalL Γ.Φ s) := by
  have one_case : ∀ a, s = .cons a .nil → a.movs.isEmpty = true → DenE Γ.G W (rd Γ a W).e (evalE Γ.Φ a) a.fr [] := fun a e h => by
    have q := ih.h W a e hw
    rw [List.isEmpty_iff.mp h] at q
    exact q
  cases k with
  | seq =>
    cases s with
    | cons a r => cases r with
      | nil => exact den_seq (one_case a rfl hs)
      | _ => cases hs
    | _ => cases hs
  | str =>
    cases s with
    | cons a r => cases r with
      | nil => exact den_str (one_case a rfl hs)
      | _ => cases hs
    | _ => cases hs
  | enum =>
    cases s with
    | cons a r => cases r with
      | nil => exact den_enum (one_case a rfl hs)
      | _ => cases hs
    | _ => cases hs
  | rng1 => exact den_rng1 ((ih.l W hw).2 (List.isEmpty_iff.mp hs))
  | rng2 => exact den_rng2 ((ih.l W hw).2 (List.isEmpty_iff.mp hs))
  | zip => cases s <;> cases hs
  | revr =>
    cases s with
    | cons a r => cases r with
      | nil => exact den_revr (one_case a rfl hs)
      | _ => cases hs
    | _ => cases hs
theorem den_srcC {Γ : GE} {W : WX} {k : IK} {s : DE} (ih : DenOk Γ s) (hs : srcOk k s = true) (hw : wf Γ true s = true) : DenC Γ.G W k (rdIt Γ.G k (rd Γ s W)) (evalL Γ.Φ s) := by
  by_cases hk : k = .seq
  · subst hk
    cases s <;> first | cases hs | skip
    rename_i a r
    cases r <;> first | cases hs | skip
    have q := ih.h W a rfl hw
    have hm : a.movs.isEmpty = true := hs
    rw [List.isEmpty_iff.mp hm] at q
    exact den_seqC q
  · exact (den_src ih hs hw).c hk
theorem den_yes {G : GX} {W : WX} : DenT G W tYes (fun _ => .ok (.bl true)) := fun σ F H δ S Q k p => p F H (.refl k.fh)
theorem den_edict {G : GX} {W : WX} (t : Bool) : DenE G W (bif t then tDNewT else tDNewK) (fun _ => .ok (.dct true t [] [])) true [] := by
  intro σ F H δ S Q k p
  cases t with
  | true =>
    intro q hq
    have g : Gr F H F (upd H q (.dT [])) := .new1 k.fh hq
    exact p (.ref q) F _ [q] g ⟨q, [], [], rfl, Reps.nil, rfl, upd_same, k.fh.free hq, rfl⟩ fun _ _ => ⟨by simp, fun x hx => .inl (by rw [List.mem_singleton.mp hx]; exact hq)⟩
  | false =>
    intro q hq
    have g : Gr F H F (upd H q (.dK [])) := .new1 k.fh hq
    exact p (.ref q) F _ [q] g ⟨q, [], [], rfl, Reps.nil, rfl, upd_same, k.fh.free hq, rfl⟩ fun _ _ => ⟨by simp, fun x hx => .inl (by rw [List.mem_singleton.mp hx]; exact hq)⟩
theorem den_all (Γ : GE) (ok : GOk Γ) : ∀ d : DE, DenOk Γ d := fun d => by
  induction d with
  | lit d =>
    refine .e' (fun W h => ?_) rfl
    have : ∀ F H, Rep Γ.G F H d (litV d) [] := fun F H => by
      cases d <;> first | exact ⟨rfl, rfl⟩ | cases h
    exact both (den_const this)
  | gl n => exact .e' (fun W h => both (den_const (ok.gl n))) rfl
  | pk i => exact .e' (fun W h => both (den_pk i id _ (fun δ => rfl) false [] (fun z => nomatch z))) rfl
  | mv i => exact .e' (fun W h => both (den_pk i id _ (fun δ => rfl) true [i] (fun _ => List.mem_singleton.mpr rfl))) rfl
  | o1 o a ih =>
    refine .e' (fun W h => ?_) rfl
    have h : (wf Γ false a && o1Ok Γ.G.cs o) = true := h
    rw [Bool.and_eq_true] at h
    obtain ⟨h1, h2⟩ := ih.e W h.1
    have q := den_rd1 ok h1 o (fun k e => by subst e; exact h.2)
    cases o <;> first | exact both q | exact ⟨q, den_notT h2⟩
  | o2 o a b iha ihb =>
    refine .e' (fun W h => ?_) rfl
    have h : (wf Γ false a && wf Γ false b && !meth2 o) = true := h
    simp only [Bool.and_eq_true, Bool.not_eq_true'] at h
    exact both (den_rd2 ok (iha.e W h.1.1).1 (ihb.e W h.1.2).1 o h.2)
  | mt o a b iha ihb =>
    refine .e' (fun W h => ?_) rfl
    have h : (wf Γ false a && wf Γ false b && meth2 o) = true := h
    simp only [Bool.and_eq_true] at h
    have q1 := (iha.e W h.1.1).1
    have q2 := (ihb.e W h.1.2).1
    cases o <;> first | exact both (den_join q1 q2) | exact both (den_index q1 q2) | cases h.2
  | o3 o a b c iha ihb ihc =>
    refine .e' (fun W h => ?_) rfl
    have h : (wf Γ false a && wf Γ false b && wf Γ false c && c.movs.isEmpty) = true := h
    simp only [Bool.and_eq_true] at h
    obtain ⟨⟨⟨h1, h2⟩, h3⟩, h4⟩ := h
    cases o
    have q3 := (ihc.e W h3).1
    rw [List.isEmpty_iff.mp h4] at q3
    exact both (den_get2 (iha.e W h1).1 (ihb.e W h2).1 q3)
  | ch2 o p a b c iha ihb ihc =>
    refine .e' (fun W h => ?_) rfl
    have h : (wf Γ false a && wf Γ false b && wf Γ false c && cmpR o && cmpR p) = true := h
    simp only [Bool.and_eq_true] at h
    exact both (den_ch2 h.1.2 h.2 (iha.e W h.1.1.1.1).1 (ihb.e W h.1.1.1.2).1 (ihc.e W h.1.1.2).1)
  | ch3 o p q a b c d iha ihb ihc ihd =>
    refine .e' (fun W h => ?_) rfl
    have h : (wf Γ false a && wf Γ false b && wf Γ false c && wf Γ false d && cmpR o && cmpR p && cmpR q) = true := h
    simp only [Bool.and_eq_true] at h
    exact both (den_ch3 h.1.1.2 h.1.2 h.2 (iha.e W h.1.1.1.1.1.1).1 (ihb.e W h.1.1.1.1.1.2).1 (ihc.e W h.1.1.1.1.2).1 (ihd.e W h.1.1.1.2).1)
  | sl a lo hi iha ihl ihh =>
    refine .e' (fun W h => ?_) rfl
    have h : (wf Γ false a && wf Γ false lo && wf Γ false hi) = true := h
    simp only [Bool.and_eq_true] at h
    have part : ∀ d : DE, DenE Γ.G W (rd Γ d W).e (evalE Γ.Φ d) d.fr d.movs → DenO Γ.G W d.noPart (bif d.noPart then tNoPart else tPart (rd Γ d W).e) (evalE Γ.Φ d) := fun d hd => by
      cases e : d.noPart with
      | false => exact den_part hd
      | true =>
        have : d = .lit .non := by
          unfold DE.noPart at e
          split at e
          · rfl
          · cases e
        subst this
        exact den_noPart
    exact both (den_sl (iha.e W h.1.1).1 (part lo (ihl.e W h.1.2).1) (part hi (ihh.e W h.2).1))
  | and a b iha ihb =>
    refine .e' (fun W h => ?_) rfl
    have h : (wf Γ false a && wf Γ false b) = true := h
    simp only [Bool.and_eq_true] at h
    exact ⟨den_and (iha.e W h.1).1 (ihb.e W h.2).1, den_andT (iha.e W h.1).2 (ihb.e W h.2).2⟩
  | or a b iha ihb =>
    refine .e' (fun W h => ?_) rfl
    have h : (wf Γ false a && wf Γ false b) = true := h
    simp only [Bool.and_eq_true] at h
    exact ⟨den_or (iha.e W h.1).1 (ihb.e W h.2).1, den_orT (iha.e W h.1).2 (ihb.e W h.2).2⟩
  | ite c a b ihc iha ihb =>
    refine .e' (fun W h => ?_) rfl
    have h : (wf Γ false c && wf Γ false a && wf Γ false b) = true := h
    simp only [Bool.and_eq_true] at h
    exact both (den_ite (ihc.e W h.1.1).2 (iha.e W h.1.2).1 (ihb.e W h.2).1)
  | edict t => exact .e' (fun W h => both (den_edict t)) rfl
  | nil => exact ⟨(fun W h => nomatch h), (fun W h => ⟨den_nil, fun _ σ F H δ S Q k p => p [] F H [] (.refl k.fh) Reps.nil fun z => nomatch z⟩), (fun W a e => nomatch e)⟩
  | cons a r iha ihr =>
    refine ⟨(fun W h => nomatch h), (fun W h => ?_), (fun W a' e h => ?_)⟩
    · have h : (wf Γ false a && wf Γ true r) = true := h
      rw [Bool.and_eq_true] at h
      refine ⟨den_consT (iha.e W h.1).1 (ihr.l W h.2).1, fun hm => ?_⟩
      have hm : a.movs ++ r.movs = [] := hm
      rw [List.append_eq_nil_iff] at hm
      have q := (iha.e W h.1).1
      rw [hm.1] at q
      exact den_consL q ((ihr.l W h.2).2 hm.2)
    · cases e
      have h : (wf Γ false a && wf Γ true .nil) = true := h
      rw [Bool.and_eq_true] at h
      exact (iha.e W h.1).1
  | lst as ih => exact .e' (fun W h => both (den_lst (ih.l W h).1)) rfl
  | tup as ih => exact .e' (fun W h => both (den_tup (ih.l W h).1)) rfl
  | call f as ih =>
    refine .e' (fun W h => ?_) rfl
    have h : (wf Γ true as && as.movs.isEmpty) = true := h
    rw [Bool.and_eq_true] at h
    exact both (den_call ((ih.l W h.1).2 (List.isEmpty_iff.mp h.2)) fun δ ds e => evalL_len _ as e)
  | xfld i f =>
    refine .e' (fun W h => ?_) rfl
    cases hG : Γ.G.ex with
    | none => exact both (by
        show DenE Γ.G W (match Γ.G.ex with | some (a, c, o) => tXf a (.ref (Γ.G.cls c)) o (Γ.G.cls c) f (tVar i) | none => tNo) _ _ _
        rw [hG]
        exact den_noexn hG fun c ns vs => match (ns.zip vs).lookup f with | some d => guardR d.isSh (.ok d) | none => .stuck)
    | some q =>
      obtain ⟨a, c, o⟩ := q
      exact both (by
        show DenE Γ.G W (match Γ.G.ex with | some (a, c, o) => tXf a (.ref (Γ.G.cls c)) o (Γ.G.cls c) f (tVar i) | none => tNo) _ _ _
        rw [hG]
        exact den_xfld hG)
  | xis i k =>
    refine .e' (fun W h => ?_) rfl
    cases hG : Γ.G.ex with
    | none => exact both (by
        show DenE Γ.G W (match Γ.G.ex with | some (a, c, o) => tXis Γ.G.K (Γ.G.cls c) a o (tVar i) (.ref (Γ.G.cls k)) | none => tNo) _ _ _
        rw [hG]
        exact den_noexn hG fun c ns vs => match Γ.Φ.isx c k with | some b => .ok (.bl b) | none => .stuck)
    | some q =>
      obtain ⟨a, c, o⟩ := q
      exact both (by
        show DenE Γ.G W (match Γ.G.ex with | some (a, c, o) => tXis Γ.G.K (Γ.G.cls c) a o (tVar i) (.ref (Γ.G.cls k)) | none => tNo) _ _ _
        rw [hG]
        exact den_xis (b := fun c => Γ.Φ.isx c k) (u := .ref (Γ.G.cls k)) hG (fun x hx => hx) fun z hz => ok.isx c k z hz)
  | xisV i =>
    refine .e' (fun W h => ?_) rfl
    cases hG : Γ.G.ex with
    | none => exact both (by
        show DenE Γ.G W (match Γ.G.ex with | some (a, c, o) => tXis Γ.G.K (Γ.G.cls c) a o (tVar i) (.ty "ValueError") | none => tNo) _ _ _
        rw [hG]
        exact den_noexn hG fun c ns vs => .ok (.bl true))
    | some q =>
      obtain ⟨a, c, o⟩ := q
      have h : (match Γ.xc with | some c => Γ.xcs.contains c | none => false) = true := h
      rw [ok.exc a c o hG] at h
      exact both (by
        show DenE Γ.G W (match Γ.G.ex with | some (a, c, o) => tXis Γ.G.K (Γ.G.cls c) a o (tVar i) (.ty "ValueError") | none => tNo) _ _ _
        rw [hG]
        exact den_xis (b := fun _ => some true) (u := .type "ValueError") hG (fun x hx => hx) fun z hz => by
          injection hz with hz
          rw [← hz]
          exact (ok.xcs c (by simpa using h)).2)
  | fld a f ih =>
    refine .e' (fun W h => ?_) rfl
    have h : (wf Γ false a && Γ.flds.contains f) = true := h
    rw [Bool.and_eq_true] at h
    exact both (den_fld ok.cls (ok.noa f (by simpa using h.2)) (ih.e W h.1).1)
  | comp k src tg own c b ihs ihc ihb =>
    refine .e' (fun W h => ?_) rfl
    have h : (wf Γ true src && wf Γ false c && wf Γ false b && srcOk k src && (tgSlots tg).all fun j => own.contains j) = true := h
    simp only [Bool.and_eq_true] at h
    have ht : DenT Γ.G W0 (bif c.noIf then tYes else (rd Γ c W0).t) (evalE Γ.Φ c) := by
      cases e : c.noIf with
      | false => exact (ihc.e W0 h.1.1.1.2).2
      | true =>
        have : c = .lit (.bl true) := by
          unfold DE.noIf at e
          split at e
          · rfl
          · cases e
        subst this
        exact den_yes
    exact both (den_comp (den_srcC ihs h.1.2 h.1.1.1.1) ht (ihb.e W0 h.1.1.2).1 fun j hj => by simpa using List.all_eq_true.mp h.2 j hj)
  | fz a ih =>
    refine .e' (fun W h => ?_) rfl
    have h : (wf Γ false a && a.fr && a.movs.isEmpty) = true := h
    simp only [Bool.and_eq_true] at h
    have qa := (ih.e W h.1.1).1
    rw [List.isEmpty_iff.mp h.2, h.1.2] at qa
    exact both (den_fz qa)
  | dict1 a b iha ihb =>
    refine .e' (fun W h => ?_) rfl
    have h : (wf Γ false a && wf Γ false b && a.movs.isEmpty && b.movs.isEmpty) = true := h
    simp only [Bool.and_eq_true] at h
    have qa := (iha.e W h.1.1.1).1
    have qb := (ihb.e W h.1.1.2).1
    rw [List.isEmpty_iff.mp h.1.2] at qa
    rw [List.isEmpty_iff.mp h.2] at qb
    exact both (den_dict1 qa qb)
  | dcomp k src tg own c a b ihs ihc iha ihb =>
    refine .e' (fun W h => ?_) rfl
    have h : (wf Γ true src && wf Γ false c && wf Γ false a && wf Γ false b && srcOk k src && (tgSlots tg).all fun j => own.contains j) = true := h
    simp only [Bool.and_eq_true] at h
    have ht : DenT Γ.G W0 (bif c.noIf then tYes else (rd Γ c W0).t) (evalE Γ.Φ c) := by
      cases e : c.noIf with
      | false => exact (ihc.e W0 h.1.1.1.1.2).2
      | true =>
        have : c = .lit (.bl true) := by
          unfold DE.noIf at e
          split at e
          · rfl
          · cases e
        subst this
        exact den_yes
    exact both (den_dcomp (den_srcC ihs h.1.2 h.1.1.1.1.1) ht (iha.e W0 h.1.1.1.2).1 (ihb.e W0 h.1.1.2).1 fun j hj => by simpa using List.all_eq_true.mp h.2 j hj)
end MP
set_option Elab.async false
set_option linter.all false
set_option maxRecDepth 100000
set_option maxHeartbeats 1000000
namespace MP
open PySem
open L2 hiding St
/-! ### stores into dicts -/
section
variable {G : GX} {W : WX} {ta tb : TE} {φ ψ : List D → Res D} {fr fr2 : Bool} {ms ms2 : List Nat}
theorem Ok.odct {F H : Hp} {σ : St} {δ : List D} {S : Nat → List Addr} {i : Nat} {t : Bool} {ks vs : List D} (k : Ok G F H σ δ S) (e : gd δ i = .dct true t ks vs) :
    ∃ v, σ[i]? = some (some v) ∧ Rep G F H (.dct true t ks vs) v (S i) ∧ i < δ.length := by
  obtain ⟨v, hv, r⟩ := k.get e (fun z => nomatch z)
  exact ⟨v, hv, r, gd_lt e (fun z => nomatch z)⟩
/-- an own node's new contents -/
theorem put1 {F H : Hp} {σ : St} {δ : List D} {S : Nat → List Addr} {E : Ends} {i : Nat} {l : Addr} {o : HO} {d : D} (k : Ok G F H σ δ S) (hi : i < δ.length) (hv : σ[i]? = some (some (.ref l))) (hS : S i = [l]) (r : Rep G F (upd H l o) d (.ref l) [l])
    (p : PostS G W F H S E (.nx (δ.set i d))) : E.nx σ (upd H l o) := by
  have hlS : l ∈ S i := by rw [hS]; exact List.mem_cons_self
  have k3 := k.mut (H2 := upd H l o) hi (fun q hq => .inl (upd_ne fun z => hq (by rw [hS, z]; exact List.mem_cons_self))) hv r (by simp) fun j p hj hp => by
    rw [List.mem_singleton.mp hp]
    exact fun z => hj (k.sep j i l z hlS)
  exact p σ F _ _ ((Gr.refl k.fh).put ⟨i, hlS⟩ (fun _ _ h => h) fun p hp => .inr ⟨i, by rw [List.mem_singleton.mp hp]; exact hlS⟩) k3
/-- d[k] = e -/
theorem den_setD {i : Nat} (he : DenE G W ta φ fr ms) (hk : DenE G W tb ψ fr2 ms2) : DenS G W (sDPut (tVar i) tb ta) fun δ => SR.of (φ δ) δ fun d => match gd δ i with
    | .dct true t ks vs => SR.of (ψ δ) δ fun x => guardS (d.isSh && D.isShL vs && x.okKey t && x.isSh && decide (ks.length < 100000)) (.nx (δ.set i (.dct true t (dput t x d ks vs).1 (dput t x d ks vs).2)))
    | _ => .stuck := by
  intro σ F H δ S E k p
  refine he.goU k (.refl k.fh) p fun d v F1 H1 T1 e1 g1 k1 r1 q1 p1 => ?_
  have hx : ∃ t ks vs, gd δ i = .dct true t ks vs := by
    cases q : gd δ i with
    | dct o t ks vs => cases o with
      | true => exact ⟨t, ks, vs, rfl⟩
      | false => rw [q] at p1; exact p1.elim
    | _ => rw [q] at p1; exact p1.elim
  obtain ⟨t, ks, vs, e⟩ := hx
  rw [e] at p1
  dsimp only at p1
  obtain ⟨u, hv, _⟩ := k1.odct e
  refine ⟨u, hv, ?_⟩
  refine hk.goU k1 g1 p1 fun x w F2 H2 T2 e2 g2 k2 r2 q2 p2 => ?_
  obtain ⟨hg, p2⟩ := PostS.guard p2
  simp only [Bool.and_eq_true, decide_eq_true_eq] at hg
  obtain ⟨⟨⟨⟨a1, a2⟩, a3⟩, a4⟩, a5⟩ := hg
  have z := Rep.shn _ r1 a1
  subst z
  obtain ⟨u', hv', ru, hi⟩ := k2.odct e
  rw [hv] at hv'
  cases hv'
  obtain ⟨l, o, rfl, hS, _, _, hp, hr⟩ := put_own k2.fh ru r2 a3 a2 a5 (r1.gr g2)
  exact ⟨l, upd H2 l o, rfl, hp, put1 k2 hi hv hS hr (PostS.step p2 (.of (g1.trans g2)))⟩
end
end MP
set_option Elab.async false
set_option linter.all false
set_option maxRecDepth 100000
set_option maxHeartbeats 1000000
namespace MP
open PySem
open L2 hiding St
section
variable {G : GX} {W : WX} {ta tb : TE} {φ ψ : List D → Res D} {fr fr2 : Bool} {ms ms2 : List Nat} {t u : TS} {g : List D → SR}
/-- xs.pop(), its value dropped -/
theorem den_popL {i : Nat} : DenS G W (tDrop (tBM G.K "list" rPop (tVar i) tNil)) fun δ => match gd δ i with
    | .lst true ys => guardS (D.isShL ys && !ys.isEmpty) (.nx (δ.set i (.lst true ys.dropLast)))
    | _ => .stuck := by
  intro σ F H δ S E k p
  obtain ⟨xs, e, p⟩ := mth_or (g := fun ys => guardS (D.isShL ys && !ys.isEmpty) (.nx (δ.set i (.lst true ys.dropLast)))) p
  obtain ⟨hs, p⟩ := PostS.guard p
  rw [Bool.and_eq_true] at hs
  obtain ⟨l, vs, T, hv, hl, nl, hr, hS, hlT, ndT, hi⟩ := k.olst e
  have z := Reps.shn _ hr hs.1
  subst z
  have hx : 0 < xs.length := by
    cases xs with
    | nil => cases hs.2
    | cons _ _ => simp
  have hlen := hr.len
  have hd : Reps G F H xs.dropLast vs.dropLast [] := by
    rw [List.dropLast_eq_take, List.dropLast_eq_take, hlen]
    exact hr.take _
  exact ⟨.ref l, hv, .inl ⟨rfl, vs, SqL.of hl⟩, l, vs, vs[vs.length - 1]'(by omega), rfl, rfl, hl, List.getElem?_eq_getElem (by omega), putSh k hi hv nl (by rw [hl]; exact fun z => nomatch z) hS hd p⟩
/-! ### d[k] += e -/
def rAug2 : Op2 → V → V → Hp → VK → Prop
  | .add => rAdd
  | .sub => rSub
  | _ => fun _ _ _ _ => False
theorem den_augD {i : Nat} {o : Op2} (hk : DenE G W tb ψ fr2 ms2) (he : DenE G W ta φ fr ms) : DenS G W (sDAug (tVar i) tb ta (rAug2 o)) fun δ => match gd δ i with
    | .dct true t ks vs => SR.of (ψ δ) δ fun x => match dlook t x ks vs with
      | some (.int a) => guardS (D.isShL vs && x.okKey t && x.isSh && decide (ks.length < 100000)) (SR.of (φ δ) δ fun y => match o, y with
        | .add, .int b => .nx (δ.set i (.dct true t (dput t x (.int (a + b)) ks vs).1 (dput t x (.int (a + b)) ks vs).2))
        | .sub, .int b => .nx (δ.set i (.dct true t (dput t x (.int (a - b)) ks vs).1 (dput t x (.int (a - b)) ks vs).2))
        | _, _ => .stuck)
      | _ => .stuck
    | _ => .stuck := by
  intro σ F H δ S E k p
  dsimp only at p
  have hx : ∃ t ks vs, gd δ i = .dct true t ks vs := by
    cases q : gd δ i with
    | dct o t ks vs => cases o with
      | true => exact ⟨t, ks, vs, rfl⟩
      | false => rw [q] at p; exact p.elim
    | _ => rw [q] at p; exact p.elim
  obtain ⟨t, ks, vs, e⟩ := hx
  rw [e] at p
  dsimp only at p
  obtain ⟨u, hv, _⟩ := k.odct e
  refine ⟨u, hv, ?_⟩
  refine hk.goU k (.refl k.fh) p fun x w F1 H1 T1 e1 g1 k1 r1 q1 p1 => ?_
  have hl : ∃ a, dlook t x ks vs = some (.int a) := by
    cases q : dlook t x ks vs with
    | none => rw [q] at p1; exact p1.elim
    | some d => cases d <;> first | exact ⟨_, rfl⟩ | (rw [q] at p1; exact p1.elim)
  obtain ⟨a, ha⟩ := hl
  rw [ha] at p1
  dsimp only at p1
  obtain ⟨hg, p1⟩ := PostS.guard p1
  simp only [Bool.and_eq_true, decide_eq_true_eq] at hg
  obtain ⟨⟨⟨h1, h2⟩, h3⟩, h4⟩ := hg
  obtain ⟨u', hv', ru, hi⟩ := k1.odct e
  rw [hv] at hv'
  cases hv'
  obtain ⟨l, rfl, _, hget, _⟩ := rep_dget k1.fh ru r1 h2
  obtain ⟨v', T', hget, rv⟩ := hget _ ha
  obtain rfl : v' = .int a := rv.1
  refine ⟨l, .int a, rfl, hget, ?_⟩
  refine he.goU k1 g1 p1 fun y z F2 H2 T2 e2 g2 k2 r2 q2 p2 => ?_
  have fin : ∀ c : Int, PostS G W F H S E (.nx (δ.set i (.dct true t (dput t x (.int c) ks vs).1 (dput t x (.int c) ks vs).2))) → ∃ H5, DPut H2 l w (.int c) H5 ∧ E.nx σ H5 := fun c p3 => by
    obtain ⟨u2, hv2, ru2, hi2⟩ := k2.odct e
    rw [hv] at hv2
    cases hv2
    obtain ⟨l', o', el, hS, _, _, hp, hr⟩ := put_own k2.fh ru2 (r1.gr g2) h2 h1 h4 (show Rep G F2 H2 (.int c) (.int c) [] from ⟨rfl, rfl⟩)
    cases el
    exact ⟨upd H2 l o', hp, put1 k2 hi2 hv hS hr (PostS.step p3 (.of (g1.trans g2)))⟩
  cases o <;> first | (cases y <;> exact p2.elim) | skip
  · cases y <;> first | exact p2.elim | skip
    rename_i b
    obtain rfl : z = .int b := r2.1
    exact ⟨a, b, rfl, rfl, fin _ p2⟩
  · cases y <;> first | exact p2.elim | skip
    rename_i b
    obtain rfl : z = .int b := r2.1
    exact ⟨a, b, rfl, rfl, fin _ p2⟩
/-- an own node's contents change: at once -/
theorem putG {F H : Hp} {σ : St} {δ : List D} {S : Nat → List Addr} {E : Ends} {i : Nat} {l : Addr} {H2 : Hp} {d : D} {T : List Addr} (k : Ok G F H σ δ S) (hi : i < δ.length) (hv : σ[i]? = some (some (.ref l))) (hH : ∀ q, q ∉ S i → H2 q = H q ∨ H q = none) (hl : ∀ q, H q ≠ none → H2 q ≠ none)
    (r : Rep G F H2 d (.ref l) T) (nd : T.Nodup) (hT : ∀ q ∈ T, q ∈ S i ∨ H q = none) (p : PostS G W F H S E (.nx (δ.set i d))) : E.nx σ H2 := by
  have sp : ∀ j q, j ≠ i → q ∈ T → q ∉ S j := fun j q hj hq hs => by
    rcases hT q hq with z | z
    · exact hj (k.sep j i q hs z)
    · exact (k.own hs).2 z
  have k3 := k.mut (H2 := H2) hi hH hv r nd sp
  refine p σ F H2 _ ⟨Same.refl _, fun q o h hs => ?_, hl, fun q a b => absurd a b, fun j q h => ?_⟩ k3
  · rcases hH q (hs i) with z | z
    · rw [z]; exact h
    · rw [h] at z; cases z
  · unfold setS at h
    split at h
    · exact (hT q h).elim (fun z => .inr ⟨i, z⟩) .inl
    · exact .inr ⟨j, h⟩
theorem flat_any {F H F' H' : Hp} {d : D} {v : V} {T : List Addr} (r : Rep G F H d v T) (h : flatD d = true) : Rep G F' H' d v [] := by
  cases d <;> first | cases h | skip
  all_goals exact ⟨r.1, rfl⟩
theorem sdOne_inv {y d d2 : D} (h : sdOne y d = some d2) : ∃ xs, d = .lst true xs ∧ (xs.length < 100000 ∧ D.isShL xs = true) ∧ d2 = .lst true (xs ++ [y]) := by
  unfold sdOne at h
  split at h
  · split at h
    · rename_i xs hh
      cases h
      exact ⟨_, rfl, hh, rfl⟩
    · cases h
  · cases h
/-- the list that a key's entry holds grows -/
theorem sd_own {F H : Hp} {x y : D} {k : Key} (hx : x.key = some k) : ∀ {kvs : List (Key × V)} {vs vs' : List D} {T : List Addr}, Reps G F H vs (kvs.map (·.2)) T → T.Nodup → sdAdd false x y (kvs.map fun kv => keyD kv.1) vs = some vs' →
    ∃ p us, valV kvs k = some (.ref p) ∧ H p = some (.lst us) ∧ us.length < 100000 ∧ p ∈ T ∧ ∀ (w : V) (H2 : Hp), (∀ F' H', Rep G F' H' y w []) → H2 p = some (.lst (us ++ [w])) → (∀ q ∈ T, q ≠ p → H2 q = H q) → Reps G F H2 vs' (kvs.map (·.2)) T
  | [], vs, vs', T, r, nd, h => by simp [sdAdd] at h
  | (k', v') :: rest, vs, vs', T, r, nd, h => by
    cases vs with
    | nil => exact absurd r.1 (by simp)
    | cons d' vs =>
      obtain ⟨v, vr, S1, S2, e1, e2, h1, h2⟩ := r
      injection e1 with ea eb
      subst ea eb
      rw [e2] at nd
      have nd' := List.nodup_append.mp nd
      have hs : D.sameKey false (keyD k') x = decide (k' = k) := sameKey_k hx
      have h : (if D.sameKey false (keyD k') x = true then (sdOne y d').map (· :: vs) else (sdAdd false x y (rest.map fun kv => keyD kv.1) vs).map (d' :: ·)) = some vs' := h
      rw [hs] at h
      by_cases q : k' = k
      · rw [decide_eq_true q, if_pos rfl] at h
        cases ed : sdOne y d' with
        | none => rw [ed] at h; cases h
        | some d2 =>
          rw [ed] at h
          obtain ⟨xs, rfl, hh, rfl⟩ := sdOne_inv ed
          cases h
          obtain ⟨p, us, T1, rfl, hr, ha, hb, hc⟩ := h1
          have z := Reps.shn _ hr hh.2
          subst z
          subst hc
          refine ⟨p, us, valV_pos q, ha, by rw [hr.len]; exact hh.1, by rw [e2]; simp, fun w H2 hw hp ho => ?_⟩
          have hp2 : ∀ b ∈ S2, b ≠ p := fun b hb' z => nd'.2.2 p (by simp) b hb' z.symm
          refine ⟨.ref p, rest.map (·.2), [p], S2, rfl, e2, ⟨p, us ++ [w], [], rfl, ?_, hp, hb, rfl⟩, ?_⟩
          · exact Reps.app0 (Reps.mono (Same.refl _) _ hr fun b hb' => nomatch hb') (Reps.cons (S := []) (hw _ _) Reps.nil)
          · exact Reps.mono (Same.refl _) _ h2 fun b hb' => ⟨(Reps.own _ h2 b hb').1, ho b (by rw [e2]; simp [hb']) (hp2 b hb')⟩
      · rw [decide_eq_false q, if_neg Bool.false_ne_true] at h
        cases e3 : sdAdd false x y (rest.map fun kv => keyD kv.1) vs with
        | none => rw [e3] at h; cases h
        | some vs2 =>
          rw [e3] at h
          cases h
          obtain ⟨p, us, a1, a2, a3, a4, a5⟩ := sd_own hx h2 nd'.2.1 e3
          refine ⟨p, us, by rw [valV_neg q]; exact a1, a2, a3, by rw [e2]; exact List.mem_append_right _ a4, fun w H2 hw hp ho => ?_⟩
          have hp1 : ∀ b ∈ S1, b ≠ p := fun b hb' z => nd'.2.2 b hb' p a4 z
          refine ⟨v', rest.map (·.2), S1, S2, rfl, e2, ?_, a5 w H2 hw hp fun b hb' hne => ho b (by rw [e2]; exact List.mem_append_right _ hb') hne⟩
          exact Rep.mono (Same.refl _) _ h1 fun b hb' => ⟨(Rep.own _ h1 b hb').1, ho b (by rw [e2]; exact List.mem_append_left _ hb') (hp1 b hb')⟩
def pkE (j : Nat) : List D → Res D := fun δ => match gd δ j with
  | .dead => .stuck
  | d => .ok d
theorem pkE_ok {j : Nat} {δ : List D} {y : D} (h : pkE j δ = .ok y) : gd δ j = y ∧ y ≠ .dead := by
  unfold pkE at h
  cases q : gd δ j <;> rw [q] at h <;> first | (cases h; done) | (cases h; exact ⟨rfl, fun z => nomatch z⟩)
/-- v.setdefault(k, []).append(x) -/
theorem den_sdApp {i j : Nat} (hij : i ≠ j) (hk : DenE G W tb ψ fr2 ms2) : DenS G W (tDrop (tBM G.K "list" rAppend (tDSetd (tVar i) tb (tLst tNil)) (tCons (tVar j) tNil))) fun δ => match gd δ i with
    | .dct true t ks vs => SR.of (ψ δ) δ fun x => match pkE j (δ.set i .dead) with
      | .ok y => guardS (!t && x.okKey t && flatD y && decide (ks.length < 100000)) (match dlook t x ks vs with
        | some _ => match sdAdd t x y ks vs with
          | some vs' => .nx (δ.set i (.dct true t ks vs'))
          | none => .stuck
        | none => .nx (δ.set i (.dct true t (ks ++ [x]) (vs ++ [.lst true [y]]))))
      | _ => .stuck
    | _ => .stuck := by
  intro σ F H δ S E k p
  dsimp only at p
  have hx : ∃ t ks vs, gd δ i = .dct true t ks vs := by
    cases q : gd δ i with
    | dct o t ks vs => cases o with
      | true => exact ⟨t, ks, vs, rfl⟩
      | false => rw [q] at p; exact p.elim
    | _ => rw [q] at p; exact p.elim
  obtain ⟨t, ks, vs, e⟩ := hx
  rw [e] at p
  dsimp only at p
  obtain ⟨u, hv, ru0, _⟩ := k.odct e
  have isd : ∃ a, u = .ref a ∧ IsD H a := by
    cases t with
    | false => obtain ⟨a, kvs, T, rfl, hr, hks, ha⟩ := ru0; exact ⟨a, rfl, .inl ⟨kvs, .inl ha.1⟩⟩
    | true => obtain ⟨a, kvs, T, rfl, hr, hks, ha⟩ := ru0; exact ⟨a, rfl, .inr ⟨kvs, .inl ha.1⟩⟩
  obtain ⟨a, rfl, ia⟩ := isd
  refine ⟨.ref a, hv, a, rfl, ia, ?_⟩
  refine hk.goU k (.refl k.fh) p fun x w F1 H1 T1 e1 g1 k1 r1 q1 p1 => ?_
  have p1 := PostS.step p1 (.of g1)
  cases ey : pkE j (δ.set i .dead) with
  | stuck => rw [ey] at p1; exact p1.elim
  | exc z => rw [ey] at p1; exact p1.elim
  | ok y =>
    rw [ey] at p1
    dsimp only at p1
    obtain ⟨hg, p1⟩ := PostS.guard p1
    simp only [Bool.and_eq_true, decide_eq_true_eq, Bool.not_eq_true'] at hg
    obtain ⟨⟨⟨rfl, h2⟩, h3⟩, h4⟩ := hg
    obtain ⟨key, hkey⟩ := Option.isSome_iff_exists.mp (show x.key.isSome = true from h2)
    obtain ⟨gy, ynd⟩ := pkE_ok ey
    have gy' : gd δ j = y := by rw [← gy]; unfold gd; rw [List.getD_eq_getElem?_getD, List.getD_eq_getElem?_getD, List.getElem?_set_ne hij]
    obtain ⟨yv, hyv, ry⟩ := k1.get gy' ynd
    have ryy : ∀ F' H', Rep G F' H' y yv [] := fun F' H' => flat_any ry h3
    obtain ⟨u', hv', ru, hi⟩ := k1.odct e
    rw [hv] at hv'
    cases hv'
    obtain ⟨a', kvs, T, ea, hr, hks, ha1, ha2, ha3⟩ := ru
    cases ea
    have ndS := k1.nd i
    rw [ha3] at ndS
    have ndT := (List.nodup_cons.mp ndS)
    refine ⟨by show (0 : Nat) ≤ sizeLine; exact Nat.zero_le _, fun pn hpn => ?_⟩
    have hpa : pn ≠ a := fun z => by rw [z, ha1] at hpn; cases hpn
    have hlen : kvs.length < 100000 := by rw [hks, List.length_map] at h4; exact h4
    refine ⟨kvs, key, by rw [upd_ne (fun z => hpa z.symm)]; exact ha1, key_val r1 hkey, lim_lt hlen, fun v hvv => ?_, fun hnone => ?_⟩
    · cases el : dlook false x ks vs with
      | none =>
        rw [hks] at el
        have := (look_k (G := G) hkey hr).2 el
        rw [this] at hvv
        cases hvv
      | some d0 =>
        rw [el] at p1
        dsimp only at p1
        cases es : sdAdd false x y ks vs with
        | none => rw [es] at p1; exact p1.elim
        | some vs' =>
          rw [es] at p1
          rw [hks] at es
          obtain ⟨pj, us, a1, a2, a3, a4, a5⟩ := sd_own hkey hr ndT.2 es
          rw [a1] at hvv
          cases hvv
          have hpj : pj ≠ pn := fun z => by rw [z] at a2; rw [a2] at hpn; cases hpn
          have hpjS : pj ∈ S i := by rw [ha3]; exact List.mem_cons_of_mem _ a4
          have haj : a ≠ pj := fun z => ndT.1 (z ▸ a4)
          have hl3 : upd H1 pn (.lst []) pj = some (.lst us) := by rw [upd_ne hpj]; exact a2
          refine ⟨.inl ⟨rfl, us, SqL.of hl3⟩, yv, hyv, pj, us, yv, rfl, rfl, hl3, lim_lt a3, ?_⟩
          refine putG (d := .dct true false ks vs') k1 hi hv (T := a :: T) (fun q hq => ?_) (fun q hq => ?_) ⟨a, kvs, T, rfl, ?_, hks, ?_, ha2, rfl⟩ ndS (fun q hq => .inl (by rw [ha3]; exact hq)) p1
          · have hqj : q ≠ pj := fun z => hq (z ▸ hpjS)
            rw [upd_ne hqj]
            by_cases z : q = pn
            · right; rw [z]; exact hpn
            · left; rw [upd_ne z]
          · by_cases z : q = pj
            · rw [z, upd_same]; exact fun z => nomatch z
            · rw [upd_ne z]
              by_cases z2 : q = pn
              · rw [z2, upd_same]; exact fun z => nomatch z
              · rw [upd_ne z2]; exact hq
          · refine a5 yv _ ryy upd_same fun q hq hne => ?_
            rw [upd_ne hne, upd_ne fun z => ?_]
            have := (Reps.own _ hr q hq).2
            rw [z, hpn] at this
            exact this rfl
          · rw [upd_ne haj, upd_ne (fun z => hpa z.symm)]
            exact ha1
    · cases el : dlook false x ks vs with
      | some d0 =>
        rw [hks] at el
        obtain ⟨v, T', b1, _⟩ := (look_k (G := G) hkey hr).1 d0 el
        rw [hnone] at b1
        cases b1
      | none =>
        rw [el] at p1
        dsimp only at p1
        have hput : putK kvs key (.ref pn) = kvs ++ [(key, .ref pn)] := by
          have hany := valV_any key kvs
          rw [hnone] at hany
          unfold putK
          rw [if_neg]
          intro z
          have := hany.symm.trans z
          cases this
        have hl3 : upd (upd H1 pn (.lst [])) a (.dK (putK kvs key (.ref pn))) pn = some (.lst []) := by rw [upd_ne hpa, upd_same]
        refine ⟨.inl ⟨rfl, [], SqL.of hl3⟩, yv, hyv, pn, [], yv, rfl, rfl, hl3, lim_lt (by decide), ?_⟩
        have nF : F1 pn = none := k1.fh.free hpn
        have hnT : ∀ q ∈ T, q ≠ pn := fun q hq z => by
          have := (Reps.own _ hr q hq).2
          rw [z, hpn] at this
          exact this rfl
        refine putG (d := .dct true false (ks ++ [x]) (vs ++ [.lst true [y]])) k1 hi hv (T := a :: (T ++ [pn])) (fun q hq => ?_) (fun q hq => ?_) ⟨a, kvs ++ [(key, .ref pn)], T ++ [pn], rfl, ?_, ?_, ?_, ha2, rfl⟩ ?_ (fun q hq => ?_) p1
        · have hqa : q ≠ a := fun z => hq (by rw [ha3, z]; exact List.mem_cons_self)
          by_cases z : q = pn
          · right; rw [z]; exact hpn
          · left; rw [upd_ne z, upd_ne hqa, upd_ne z]
        · by_cases z : q = pn
          · rw [z, upd_same]; exact fun z => nomatch z
          · rw [upd_ne z]
            by_cases z2 : q = a
            · rw [z2, upd_same]; exact fun z => nomatch z
            · rw [upd_ne z2, upd_ne z]; exact hq
        · rw [List.map_append]
          refine Reps.app (Reps.mono (Same.refl _) _ hr fun q hq => ⟨(Reps.own _ hr q hq).1, ?_⟩) (Reps.cons (S := [pn]) (T := []) ⟨pn, [yv], [], rfl, Reps.cons (S := []) (ryy _ _) Reps.nil, upd_same, nF, rfl⟩ Reps.nil)
          rw [upd_ne (hnT q hq), upd_ne (fun z : q = a => ndT.1 (by rw [← z]; exact hq)), upd_ne (hnT q hq)]
        · rw [List.map_append, hks, key_eq hkey]; rfl
        · rw [upd_ne (fun z => hpa z.symm), upd_same, hput]
        · refine List.nodup_cons.mpr ⟨fun z => ?_, List.nodup_append.mpr ⟨ndT.2, by simp, fun q hq b hb z => ?_⟩⟩
          · rcases List.mem_append.mp z with z | z
            · exact ndT.1 z
            · exact hpa (List.mem_singleton.mp z).symm
          · rw [List.mem_singleton.mp hb] at z
            exact hnT q hq z
        · rcases List.mem_cons.mp hq with rfl | hq
          · exact .inl (by rw [ha3]; exact List.mem_cons_self)
          · rcases List.mem_append.mp hq with hq | hq
            · exact .inl (by rw [ha3]; exact List.mem_cons_of_mem _ hq)
            · exact .inr (by rw [List.mem_singleton.mp hq]; exact hpn)
/-- while (x := e) is not None: .. -/
theorem den_whlN {i : Nat} {tb : TS} {g : List D → SR} {n : Nat} (he : DenE G W ta φ fr ms) (hb : DenS G W tb g) : DenS G W (tWhileW (wCmp rNotN1 (wNm (wE ta) i) (tC .non)) tb tNext) fun δ => whileN i fr ms φ g n δ := by
  intro σ F H δ S E k p
  refine ⟨fun m σi Hi => ∃ Fi Si δi, Ok G Fi Hi σi δi Si ∧ PostS G W Fi Hi Si E (whileN i fr ms φ g m δi), ⟨n, F, S, δ, k, p⟩, ?_⟩
  rintro m σi Hi ⟨Fi, Si, δi, ki, pi⟩
  cases m with
  | zero => exact pi.elim
  | succ m =>
    unfold whileN at pi
    show ta σi Hi fun x H1 => _
    refine he.goT ki pi fun d v F1 H1 T1 e1 g1 k1 r1 q1 p1 => ?_
    obtain ⟨hg, p1⟩ := PostS.guard p1
    rw [Bool.and_eq_true] at hg
    have f1 := q1 (nodup_of hg.2)
    have k2 := k1.kills ms
    have k3 := k2.set (by rw [kill_len]; exact of_decide_eq_true hg.1) r1 f1.1 fun j p _ hp => fre_sep (F' := F1) (H' := H1) ki f1 hp
    have gs : GrS Fi Hi Si F1 H1 (setS (killS ms Si) i T1) := g1.set (fun j p h => (killS_sub h).1) f1.sm
    have p2 := PostS.step p1 gs
    show rNotN1 v .non H1 fun z H3 => ∃ k, z = .bl k ∧ (if k = true then ∃ N : L2.St → Hp → Prop, (∀ σ' H', N σ' H' → ∃ m', m' < m + 1 ∧ ∃ Fi Si δi, Ok G Fi H' σ' δi Si ∧ PostS G W Fi H' Si E (whileN i fr ms φ g m' δi)) ∧ tb { E with nx := N, ct := N, bk := E.nx } (σi.set i (some v)) H3 else tNext E (σi.set i (some v)) H3)
    have go : d ≠ .non → d ≠ .dead → v ≠ .non → PostS G W F1 H1 (setS (killS ms Si) i T1) E (match g ((kill ms δi).set i d) with
        | .nx δ2 => whileN i fr ms φ g m δ2
        | .ct δ2 => whileN i fr ms φ g m δ2
        | .bk δ2 => .nx δ2
        | o => o) → rNotN1 v .non H1 fun z H3 => ∃ k, z = .bl k ∧ (if k = true then ∃ N : L2.St → Hp → Prop, (∀ σ' H', N σ' H' → ∃ m', m' < m + 1 ∧ ∃ Fi Si δi, Ok G Fi H' σ' δi Si ∧ PostS G W Fi H' Si E (whileN i fr ms φ g m' δi)) ∧ tb { E with nx := N, ct := N, bk := E.nx } (σi.set i (some v)) H3 else tNext E (σi.set i (some v)) H3) := fun h1 h2 h3 pi => by
      refine ⟨rfl, !decide (v = .non), rfl, ?_⟩
      rw [decide_eq_false h3, if_pos (show (!false) = true from rfl)]
      refine ⟨fun σ' H' => ∃ Fi Si δi, Ok G Fi H' σ' δi Si ∧ PostS G W Fi H' Si E (whileN i fr ms φ g m δi), fun σ' H' h => ⟨m, Nat.lt_succ_self m, h⟩, ?_⟩
      refine hb _ F1 H1 ((kill ms δi).set i d) _ _ k3 ?_
      cases eb : g ((kill ms δi).set i d) with
      | stuck => rw [eb] at pi; exact pi.elim
      | exc x δ' => rw [eb] at pi; exact pi
      | rt d => rw [eb] at pi; exact pi
      | nx δ' => rw [eb] at pi; exact fun σ' F' H' S' g' k' => ⟨F', S', δ', k', PostS.step pi g'⟩
      | ct δ' => rw [eb] at pi; exact fun σ' F' H' S' g' k' => ⟨F', S', δ', k', PostS.step pi g'⟩
      | bk δ' => rw [eb] at pi; exact pi
    cases d with
    | dead => exact p2.elim
    | non =>
      obtain rfl : v = .non := r1.1
      refine ⟨rfl, _, rfl, ?_⟩
      rw [decide_eq_true rfl, if_neg (show ¬ (!true) = true from fun z => nomatch z)]
      exact PostS.nxt p2 k3
    | bl b => exact go (fun z => nomatch z) (fun z => nomatch z) (by rw [show v = .bl b from r1.1]; exact fun z => nomatch z) p2
    | int b => exact go (fun z => nomatch z) (fun z => nomatch z) (by rw [show v = .int b from r1.1]; exact fun z => nomatch z) p2
    | str b => exact go (fun z => nomatch z) (fun z => nomatch z) (by rw [show v = .str b from r1.1]; exact fun z => nomatch z) p2
    | lst o xs => exact go (fun z => nomatch z) (fun z => nomatch z) (by obtain ⟨p, _, _, rfl, _⟩ := r1; exact fun z => nomatch z) p2
    | tup o xs => exact go (fun z => nomatch z) (fun z => nomatch z) (by obtain ⟨p, _, _, rfl, _⟩ := r1; exact fun z => nomatch z) p2
    | dct o t ks vs => exact go (fun z => nomatch z) (fun z => nomatch z) (by cases t <;> (obtain ⟨p, _, _, rfl, _⟩ := r1; exact fun z => nomatch z)) p2
    | obj o c ns vs => exact go (fun z => nomatch z) (fun z => nomatch z) (by obtain ⟨p, _, _, _, rfl, _⟩ := r1; exact fun z => nomatch z) p2
    | scr b => exact go (fun z => nomatch z) (fun z => nomatch z) (by obtain ⟨p, rfl, _⟩ := r1; exact fun z => nomatch z) p2
    | exn c ns vs => exact go (fun z => nomatch z) (fun z => nomatch z) (by obtain ⟨p, o, _, rfl, _⟩ := r1; exact fun z => nomatch z) p2
end
end MP
set_option Elab.async false
set_option linter.all false
set_option maxRecDepth 100000
set_option maxHeartbeats 1000000
namespace MP
open PySem PyProof.Rows
open L2 hiding St
/-- an exception under construction: its dict's fields, frozen -/
structure XSt (G : GX) (F1 H1 : Hp) (a C : Addr) (F H : Hp) (ns : List Str) (vs : List D) (fs : List (Str × V)) (od : Option Addr) : Prop where
  sub : Same F1 F
  fh : Same F H
  fa : F a = none
  na : H1 a = none
  keep : ∀ b o, H1 b = some o → H b = some o
  new : ∀ p, F1 p = none → F p ≠ none → H1 p = none
  ha : H a = some (exo a C od)
  dict : (od = none ∧ fs = []) ∨ ∃ d, od = some d ∧ H d = some (exd d fs) ∧ F d = none ∧ H1 d = none ∧ d ≠ a
  names : fs.map (·.1) = ns
  rep : Reps G F H vs (fs.map (·.2)) []
/-- the promise of an own exception's __init__: f the fields -/
def spX (G : GX) (C : Addr) (c m : Nat) (f : List D → Res D) : Sp := fun vs H Q E => vs.length = m ∧ ∃ a r F ds H1 x, vs = .ref a :: r ∧ H = upd H1 a (exo a C none) ∧ H1 a = none ∧ Same F H1 ∧ Reps G F H1 ds r [] ∧ D.isShL ds = true ∧ f ds = .exc x ∧ x.c = c ∧
  ∀ F' H' fs' d, XSt G F H1 a C F' H' x.ns x.vs fs' (some d) → Q .non H'
/-- raise C(..) -/
def tRse (C : Addr) (sp : Sp) (ta : TA) (W : WX) : TS := fun _ σ H => tMkO C sp [] ta σ H fun cls d H' => W cls d σ H'
theorem zip_fst {α β : Type} : ∀ l : List (α × β), (l.map (·.1)).zip (l.map (·.2)) = l
  | [] => rfl
  | p :: r => by rw [List.map_cons, List.map_cons, List.zip_cons_cons, zip_fst r]
section
variable {G : GX} {W : WX} {ta : TA} {φs : List D → Res (List D)}
theorem den_rse {c m : Nat} {f : List D → Res D} (hl : DenL G W ta φs false []) (hm : ∀ δ xs, φs δ = .ok xs → xs.length + 1 = m) :
    DenS G W (tRse (G.cls c) (spX G (G.cls c) c m f) ta W) fun δ => SR.of ((φs δ).bind fun xs => guardR (D.isShL xs && decide (xs.length ≤ 900)) (rseR c (f xs))) δ fun _ => .stuck := by
  intro σ F H δ S E k p
  show ta σ H _
  refine hl σ F H δ S _ k ?_
  dsimp only at p
  cases e : φs δ with
  | exc x => rw [e] at p; exact fun c dx F' H' T g xr => p c dx σ F' H' S T (.of g) (k.gr g) xr
  | stuck => rw [e] at p; exact p.elim
  | ok ds =>
    rw [e] at p
    have p : PostS G W F H S E (SR.of (guardR (D.isShL ds && decide (ds.length ≤ 900)) (rseR c (f ds))) δ fun _ => .stuck) := p
    cases hg : (D.isShL ds && decide (ds.length ≤ 900)) with
    | false => rw [hg] at p; exact p.elim
    | true =>
      rw [hg] at p
      rw [Bool.and_eq_true, decide_eq_true_eq] at hg
      have p : PostS G W F H S E (SR.of (rseR c (f ds)) δ fun _ => .stuck) := p
      cases ef : f ds with
      | ok _ => rw [ef] at p; exact p.elim
      | stuck => rw [ef] at p; exact p.elim
      | exc x =>
        rw [ef] at p
        by_cases hc : x.c = c
        · have e2 : rseR c (.exc x) = .exc x := if_pos hc
          rw [e2] at p
          intro vs F' H' T g r q
          have z := Reps.shn _ r hg.1
          subst z
          have hlen := r.len
          refine ⟨by omega, fun a na => ⟨by rw [List.append_nil, List.length_cons, hlen]; exact hm δ ds e, a, vs ++ [], F', ds, H', x, rfl, rfl, na, g.fh, by rw [List.append_nil]; exact r, hg.1, ef, hc, fun F2 H2 fs d X => ?_⟩⟩
          rcases X.dict with ⟨z, _⟩ | ⟨d', z, z2, z3, z4, z5⟩
          · cases z
          · cases z
            refine ⟨rfl, d, fs, X.ha, z2, z4, ?_⟩
            have hH : ∀ b, b ≠ a → b ≠ d → (upd (del H2 a) d (.xd fs)) b = H2 b := fun b h1 h2 => by rw [upd_ne h2, del_ne h1]
            have g2 : Gr F' H' F2 (upd (del H2 a) d (.xd fs)) := ⟨X.sub, fun b o h => by
              rw [hH b (ne_of_none h X.na) (ne_of_none h z4)]
              exact X.keep b o h, fun b o h => by
              rw [hH b (ne_of_none h X.fa) (ne_of_none h z3)]
              exact X.fh b o h, X.new⟩
            have g3 := g.trans g2
            refine p (.ref (G.cls c)) (some d) σ F2 _ S [] (.of g3) (k.gr g3) ⟨by rw [hc], .inr ⟨d, fs, rfl, upd_same, fun f => ?_, X.names, ?_, rfl⟩⟩
            · rw [← X.names, zip_fst]
            · exact Reps.mono (Same.refl _) _ X.rep fun p hp => nomatch hp
        · have e2 : rseR c (.exc x) = .stuck := if_neg hc
          rw [e2] at p; exact p.elim
end
/-! ### suites -/
def hAt (a : Addr) (cls : Value) (d : Option Addr) (C : Addr) (i : Nat) : HA → TE
  | .lit d0 => tC (litV d0)
  | .xf f => tXf a cls d C f (tVar i)
def hAts (a : Addr) (cls : Value) (d : Option Addr) (C : Addr) (i : Nat) : List HA → TA
  | [] => tNil
  | x :: r => tCons (hAt a cls d C i x) (hAts a cls d C i r)
def hRd (C : Addr) (i : Nat) : HS → Addr → Value → Option Addr → TS
  | .ret as => fun a cls d => tRet (tTup (hAts a cls d C i as))
  | .retL d0 => fun _ _ _ => tRet (tC (litV d0))
  | .asg j as => fun a cls d => tAsg (tTup (hAts a cls d C i as)) (gName j)
def HA.ok : HA → Bool
  | .lit d => litOk d
  | .xf _ => true
def HS.ok : HS → Bool
  | .ret as => as.all HA.ok && decide (as.length ≤ 900)
  | .retL d => litOk d
  | .asg _ as => as.all HA.ok && decide (as.length ≤ 900)
section
variable {G : GX} {W : WX} {F H F' H' : Hp} {σ : St} {δ : List D} {S : Nat → List Addr}
theorem lit_rep {d : D} (h : litOk d = true) : Rep G F H d (litV d) [] := by
  cases d <;> first | (cases h; done) | exact ⟨rfl, rfl⟩
theorem look_rep {f : Str} {d : D} : ∀ {ns : List Str} {vs : List D} {us : List V}, Reps G F H vs us [] → (ns.zip vs).lookup f = some d → ∃ v, (ns.zip us).lookup f = some v ∧ Rep G F H d v []
  | [], vs, us, _, h => by simp at h
  | n :: ns, [], us, _, h => by simp at h
  | n :: ns, e :: vs, us, r, h => by
    obtain ⟨v, vr, S1, S2, e1, e2, h1, h2⟩ := r
    subst e1
    have z := List.append_eq_nil_iff.mp e2.symm
    rw [z.1] at h1
    rw [z.2] at h2
    rw [List.zip_cons_cons, List.lookup_cons] at h ⊢
    cases q : f == n with
    | true => rw [q] at h; cases h; exact ⟨v, rfl, h1⟩
    | false => rw [q] at h; exact look_rep h2 h
/-- what a suite knows of its error -/
structure XKn (G : GX) (F H : Hp) (x : Exn) (dd : Addr) (fs : List (Str × V)) : Prop where
  at_ : H dd = some (.xd fs)
  look : ∀ f, fs.lookup f = (x.ns.zip (fs.map (·.2))).lookup f
  rep : Reps G F H x.vs (fs.map (·.2)) []
theorem hAts_go {x : Exn} {a C : Addr} {d : Option Addr} {i : Nat} : ∀ (as : List HA) (ds : List D), as.all HA.ok = true → hAtoms x as = some ds → (as.all HA.isLit = true ∨ (σ[i]? = some (some (V.ref a)) ∧ ∃ dd fs, d = some dd ∧ XKn G F H x dd fs)) →
    ∃ vs, Reps G F H ds vs [] ∧ ∀ Q : List V → Hp → Prop, Q vs H → hAts a (.ref C) d C i as σ H Q
  | [], ds, _, e, _ => by cases e; exact ⟨[], Reps.nil, fun Q q => q⟩
  | y :: r, ds, ho, e, hx => by
    rw [List.all_cons, Bool.and_eq_true] at ho
    rw [hAtoms] at e
    cases e1 : hAtom x y with
    | none => rw [e1] at e; cases e
    | some d0 =>
      cases e2 : hAtoms x r with
      | none => rw [e1, e2] at e; cases e
      | some ds' =>
        rw [e1, e2] at e
        cases e
        obtain ⟨vs, r2, go⟩ := hAts_go (a := a) (C := C) (d := d) (i := i) r ds' ho.2 e2 (hx.imp (fun z => by rw [List.all_cons, Bool.and_eq_true] at z; exact z.2) id)
        cases y with
        | lit d1 =>
          obtain rfl : d1 = d0 := Option.some.inj e1
          exact ⟨litV d1 :: vs, Reps.cons (S := []) (T := []) (lit_rep ho.1) r2, fun Q q => go _ q⟩
        | xf f =>
          rcases hx with z | ⟨hv, dd, fs, rfl, X⟩
          · rw [List.all_cons, Bool.and_eq_true] at z; cases z.1
          · obtain ⟨v, l1, rv⟩ := look_rep X.rep e1
            exact ⟨v :: vs, Reps.cons (S := []) (T := []) rv r2, fun Q q => ⟨.ref a, hv, rfl, rfl, dd, fs, v, rfl, X.at_, (X.look f).trans l1, go _ q⟩⟩
/-- a dead slot's value does not matter -/
theorem Ok.dead_set (k : Ok G F H σ δ S) {i : Nat} (e : gd δ i = .dead) (o : Option V) : Ok G F H (σ.set i o) δ S :=
  ⟨k.fh, by simp [k.len], fun j => by
    by_cases c : j = i
    · subst c
      have := k.slot j
      rw [e] at this ⊢
      rcases this with z | ⟨v, _, r⟩
      · exact .inl z
      · exact .inl ⟨rfl, r⟩
    · have : gv (σ.set i o) j = gv σ j := by
        unfold gv
        rw [List.getElem?_set_ne (Ne.symm c)]
      rw [this]
      exact k.slot j, k.nd, k.sep⟩
theorem xkn_of {x : Exn} {c : Value} {dx : Option Addr} {T : List Addr} (xr : XRep G F H x c dx T) {as : List HA} {ds : List D} (e : hAtoms x as = some ds) (h : as.all HA.isLit = false) : ∃ dd fs, dx = some dd ∧ XKn G F H x dd fs := by
  obtain ⟨_, z⟩ := xr
  rcases z with ⟨z1, z2, _, _⟩ | ⟨d, fs, z1, z2, z3, z4, z5, _⟩
  · exfalso
    induction as generalizing ds with
    | nil => cases h
    | cons y r ih =>
      rw [hAtoms] at e
      cases e1 : hAtom x y with
      | none => rw [e1] at e; cases e
      | some d0 =>
        cases e2 : hAtoms x r with
        | none => rw [e1, e2] at e; cases e
        | some ds' =>
          cases y with
          | lit d1 => exact ih e2 (by simpa [List.all_cons, HA.isLit] using h)
          | xf f =>
            have e1 : (x.ns.zip x.vs).lookup f = some d0 := e1
            rw [z1] at e1
            cases e1
  · exact ⟨d, fs, z1, ⟨z2, z3, z5⟩⟩
theorem hAtoms_len {x : Exn} : ∀ {as : List HA} {ds : List D}, hAtoms x as = some ds → ds.length = as.length
  | [], ds, e => by cases e; rfl
  | y :: r, ds, e => by
    rw [hAtoms] at e
    cases e1 : hAtom x y with
    | none => rw [e1] at e; cases e
    | some d0 =>
      cases e2 : hAtoms x r with
      | none => rw [e1, e2] at e; cases e
      | some ds' => rw [e1, e2] at e; cases e; simp [hAtoms_len e2]
theorem gr_t {F2 H2 : Hp} (g : Gr F H F2 H2) : GrT F H S F2 H2 := ⟨g.f, fun p o h _ => g.h p o h, g.fh, fun p a b => .inl (g.new p a b)⟩
theorem den_tryA {c cC i : Nat} {tb : WX → TS} {g : List D → SR} {h : HS} (hb : ∀ W', DenS G W' (tb W') g) (hex : PySem.W.exmOne G.K (.ref (G.cls c)) (.ref (G.cls cC)) = some true) (hok : h.ok = true) :
    DenS G W (fun E σ H => tb (wAs G.K (.ref (G.cls cC)) i (hRd (G.cls c) i h) W E) E σ H) (fun δ => tryR c (some i) h (g δ)) := by
  intro σ F H δ S E k p
  refine hb _ σ F H δ S E k ?_
  dsimp only at p
  cases e : g δ with
  | nx δ2 => rw [e] at p; exact p
  | rt d => rw [e] at p; exact p
  | bk δ2 => rw [e] at p; exact p
  | ct δ2 => rw [e] at p; exact p
  | stuck => rw [e] at p; exact p
  | exc x δ2 =>
    rw [e] at p
    by_cases hc : x.c = c
    · have e2 : tryR c (some i) h (.exc x δ2) = guardS (oiLt (some i) δ2) (hsGo x (some i) δ2 h) := if_pos hc
      rw [e2] at p
      obtain ⟨hi, p⟩ := PostS.guard p
      have hi : i < δ2.length := of_decide_eq_true hi
      intro cv dx σ1 F1 H1 S1 T g1 k1 xr
      have hcv : cv = .ref (G.cls c) := by rw [xr.1, hc]
      subst hcv
      refine ⟨true, hex, fun _ a na => ?_, fun z => nomatch z⟩
      have hi1 : i < σ1.length := by rw [k1.len]; exact hi
      have k2 := (k1.kill i).dead_set (i := i) (by rw [gd_set hi, if_pos rfl]) (some (V.ref a))
      have hv : (σ1.set i (some (V.ref a)))[i]? = some (some (V.ref a)) := by rw [List.getElem?_set_self hi1]
      have gS : GrS F H S F1 H1 (setS S1 i []) := g1.sub fun j q hq => by
        unfold setS at hq
        split at hq
        · cases hq
        · exact hq
      have atoms : ∀ (as : List HA) (ds : List MP.D), as.all HA.ok = true → hAtoms x as = some ds → ∃ vs, Reps G F1 H1 ds vs [] ∧ ∀ Q : List V → Hp → Prop, Q vs H1 → hAts a (.ref (G.cls c)) dx (G.cls c) i as (σ1.set i (some (V.ref a))) H1 Q := fun as ds ho he =>
        hAts_go as ds ho he (by
          cases q : as.all HA.isLit with
          | true => exact .inl rfl
          | false => exact .inr ⟨hv, xkn_of xr he q⟩)
      cases h with
      | ret as =>
        have hok : (as.all HA.ok && decide (as.length ≤ 900)) = true := hok
        rw [Bool.and_eq_true, decide_eq_true_eq] at hok
        have p : PostS G W F H S E (match hAtoms x as with | some ds => .rt (.tup false ds) | none => .stuck) := p
        cases he : hAtoms x as with
        | none => rw [he] at p; exact p.elim
        | some ds =>
          rw [he] at p
          obtain ⟨vs, r, go⟩ := atoms as ds hok.1 he
          refine go _ ⟨lim_le (by rw [r.len, hAtoms_len he]; omega), fun q nq => ?_⟩
          have g2 : Gr F1 H1 (upd F1 q (.tup vs)) (upd H1 q (.tup vs)) := .new2 k1.fh nq
          exact p (.ref q) _ _ [] (g1.t (gr_t g2)) ⟨q, vs, [], rfl, r.gr g2, .inl upd_same, rfl, rfl⟩ ⟨List.nodup_nil, fun p hp => nomatch hp⟩
      | retL d =>
        have p : PostS G W F H S E (.rt d) := p
        exact p (litV d) F1 H1 [] (g1.t (gr_t (.refl k1.fh))) (lit_rep hok) ⟨List.nodup_nil, fun p hp => nomatch hp⟩
      | asg j as =>
        have hok : (as.all HA.ok && decide (as.length ≤ 900)) = true := hok
        rw [Bool.and_eq_true, decide_eq_true_eq] at hok
        have p : PostS G W F H S E (match hAtoms x as with
          | some ds => guardS (decide (j < δ2.length) && decide ((some i : Option Nat) ≠ some j)) (.nx ((wipeI (some i) δ2).set j (.tup false ds)))
          | none => .stuck) := p
        cases he : hAtoms x as with
        | none => rw [he] at p; exact p.elim
        | some ds =>
          rw [he] at p
          obtain ⟨hg, p⟩ := PostS.guard p
          rw [Bool.and_eq_true, decide_eq_true_eq, decide_eq_true_eq] at hg
          have hji : j ≠ i := fun z => hg.2 (by rw [z])
          obtain ⟨vs, r, go⟩ := atoms as ds hok.1 he
          refine go _ ⟨lim_le (by rw [r.len, hAtoms_len he]; omega), fun q nq => ?_⟩
          have g2 : Gr F1 H1 (upd F1 q (.tup vs)) (upd H1 q (.tup vs)) := .new2 k1.fh nq
          have k3 := (k2.gr g2).set (i := j) (v := .ref q) (T := []) (by rw [List.length_set]; exact hg.1) (d := .tup false ds) ⟨q, vs, [], rfl, r.gr g2, .inl upd_same, rfl, rfl⟩ List.nodup_nil fun _ _ _ hp => nomatch hp
          have k4 := k3.dead_set (i := i) (by rw [gd_set (by rw [List.length_set]; exact hg.1), if_neg (Ne.symm hji), gd_set hi, if_pos rfl]) none
          refine p _ _ _ _ ((gS.trans (.of g2)).sub fun n b hb' => ?_) k4
          unfold setS at hb' ⊢
          split at hb'
          · cases hb'
          · exact hb'
    · have e2 : tryR c (some i) h (.exc x δ2) = .stuck := if_neg hc
      rw [e2] at p; exact p.elim
theorem den_try0 {c cC : Nat} {tb : WX → TS} {g : List D → SR} {h : HS} (hb : ∀ W', DenS G W' (tb W') g) (hex : PySem.W.exmOne G.K (.ref (G.cls c)) (.ref (G.cls cC)) = some true) (hok : h.ok = true) (hno : h.noX = true) :
    DenS G W (fun E σ H => tb (wOnly G.K (.ref (G.cls cC)) (hRd (G.cls c) 0 h) W E) E σ H) (fun δ => tryR c none h (g δ)) := by
  intro σ F H δ S E k p
  refine hb _ σ F H δ S E k ?_
  dsimp only at p
  cases e : g δ with
  | nx δ2 => rw [e] at p; exact p
  | rt d => rw [e] at p; exact p
  | bk δ2 => rw [e] at p; exact p
  | ct δ2 => rw [e] at p; exact p
  | stuck => rw [e] at p; exact p
  | exc x δ2 =>
    rw [e] at p
    by_cases hc : x.c = c
    · have e2 : tryR c none h (.exc x δ2) = guardS (oiLt none δ2) (hsGo x none δ2 h) := if_pos hc
      rw [e2] at p
      obtain ⟨_, p⟩ := PostS.guard p
      intro cv dx σ1 F1 H1 S1 T g1 k1 xr
      have hcv : cv = .ref (G.cls c) := by rw [xr.1, hc]
      subst hcv
      refine ⟨true, hex, fun _ a na => ?_, fun z => nomatch z⟩
      have atoms : ∀ (as : List HA) (ds : List MP.D), as.all HA.ok = true → as.all HA.isLit = true → hAtoms x as = some ds → ∃ vs, Reps G F1 H1 ds vs [] ∧ ∀ Q : List V → Hp → Prop, Q vs H1 → hAts a (.ref (G.cls c)) dx (G.cls c) 0 as σ1 H1 Q := fun as ds ho hl he =>
        hAts_go as ds ho he (.inl hl)
      cases h with
      | ret as =>
        have hok : (as.all HA.ok && decide (as.length ≤ 900)) = true := hok
        rw [Bool.and_eq_true, decide_eq_true_eq] at hok
        have p : PostS G W F H S E (match hAtoms x as with | some ds => .rt (.tup false ds) | none => .stuck) := p
        cases he : hAtoms x as with
        | none => rw [he] at p; exact p.elim
        | some ds =>
          rw [he] at p
          obtain ⟨vs, r, go⟩ := atoms as ds hok.1 hno he
          refine go _ ⟨lim_le (by rw [r.len, hAtoms_len he]; omega), fun q nq => ?_⟩
          have g2 : Gr F1 H1 (upd F1 q (.tup vs)) (upd H1 q (.tup vs)) := .new2 k1.fh nq
          exact p (.ref q) _ _ [] (g1.t (gr_t g2)) ⟨q, vs, [], rfl, r.gr g2, .inl upd_same, rfl, rfl⟩ ⟨List.nodup_nil, fun p hp => nomatch hp⟩
      | retL d =>
        have p : PostS G W F H S E (.rt d) := p
        exact p (litV d) F1 H1 [] (g1.t (gr_t (.refl k1.fh))) (lit_rep hok) ⟨List.nodup_nil, fun p hp => nomatch hp⟩
      | asg j as =>
        have hok : (as.all HA.ok && decide (as.length ≤ 900)) = true := hok
        rw [Bool.and_eq_true, decide_eq_true_eq] at hok
        have p : PostS G W F H S E (match hAtoms x as with
          | some ds => guardS (decide (j < δ2.length) && decide ((none : Option Nat) ≠ some j)) (.nx ((wipeI none δ2).set j (.tup false ds)))
          | none => .stuck) := p
        cases he : hAtoms x as with
        | none => rw [he] at p; exact p.elim
        | some ds =>
          rw [he] at p
          obtain ⟨hg, p⟩ := PostS.guard p
          rw [Bool.and_eq_true, decide_eq_true_eq, decide_eq_true_eq] at hg
          obtain ⟨vs, r, go⟩ := atoms as ds hok.1 hno he
          refine go _ ⟨lim_le (by rw [r.len, hAtoms_len he]; omega), fun q nq => ?_⟩
          have g2 : Gr F1 H1 (upd F1 q (.tup vs)) (upd H1 q (.tup vs)) := .new2 k1.fh nq
          have k3 := (k1.gr g2).set (i := j) (v := .ref q) (T := []) hg.1 (d := .tup false ds) ⟨q, vs, [], rfl, r.gr g2, .inl upd_same, rfl, rfl⟩ List.nodup_nil fun _ _ _ hp => nomatch hp
          refine p _ _ _ _ ((g1.trans (.of g2)).sub fun n b hb' => ?_) k3
          unfold setS at hb'
          split at hb'
          · cases hb'
          · exact hb'
    · have e2 : tryR c none h (.exc x δ2) = .stuck := if_neg hc
      rw [e2] at p; exact p.elim
end
end MP
set_option Elab.async false
set_option linter.all false
set_option maxRecDepth 100000
set_option maxHeartbeats 1000000
namespace MP
open PySem PyProof.Rows
open L2 hiding St
/-! ### into a suite, and out of it -/
abbrev GX.wx (G : GX) (e : Option (Addr × Nat × Option Addr)) : GX := { G with ex := e }
section
variable {G : GX} {e : Option (Addr × Nat × Option Addr)} {F2 F' H : Hp}
theorem At.unex {o : Bool} {p : Addr} {T S : List Addr} {sh sh' ow : Prop} (hN : ∀ p, F2 p = none → F' p = none) (hs : sh → sh') (h : At F2 o p T S sh ow) : At F' o p T S sh' ow := by
  cases o with
  | true => exact ⟨h.1, hN _ h.2.1, h.2.2⟩
  | false => exact ⟨hs h.1, h.2.1, h.2.2⟩
mutual
theorem Rep.unex (hF : ∀ p o, F2 p = some o → (∀ fs, o ≠ .xd fs) → F' p = some o) (hN : ∀ p, F2 p = none → F' p = none) : ∀ (d : D) {v : V} {S : List Addr}, Rep (G.wx e) F2 H d v S → d.nox = true → Rep G F' H d v S
  | .dead, v, S, h, k => h
  | .non, v, S, h, k => h
  | .bl b, v, S, h, k => h
  | .int i, v, S, h, k => h
  | .str x, v, S, h, k => h
  | .lst o xs, v, S, h, k => by
    obtain ⟨p, vs, T, hv, hr, ha⟩ := h
    exact ⟨p, vs, T, hv, Reps.unex hF hN xs hr k, ha.unex hN fun z => hF _ _ z fun fs z => nomatch z⟩
  | .tup o xs, v, S, h, k => by
    obtain ⟨p, vs, T, hv, hr, ha⟩ := h
    refine ⟨p, vs, T, hv, Reps.unex hF hN xs hr k, ha.unex hN fun z => ?_⟩
    rcases z with z | ⟨z, z2⟩
    · exact .inl (hF _ _ z fun fs z => nomatch z)
    · refine .inr ⟨?_, z2⟩
      rcases z with (z | ⟨o, z⟩) | z
      · exact .inl (.inl (hF _ _ z fun fs z => nomatch z))
      · exact .inl (.inr ⟨o, hF _ _ z fun fs z => nomatch z⟩)
      · exact .inr z
  | .dct o false ks vs, v, S, h, k => by
    obtain ⟨p, kvs, T, hv, hr, hk, ha⟩ := h
    exact ⟨p, kvs, T, hv, Reps.unex hF hN vs hr k, hk, ha.unex hN fun z => hF _ _ z fun fs z => nomatch z⟩
  | .dct o true ks vs, v, S, h, k => by
    obtain ⟨p, kvs, T, hv, hr, hk, ha⟩ := h
    exact ⟨p, kvs, T, hv, Reps.unex hF hN vs hr k, hk, ha.unex hN fun z => hF _ _ z fun fs z => nomatch z⟩
  | .obj o c ns vs, v, S, h, k => by
    obtain ⟨p, dx, fs, T, hv, hr, hk, ha⟩ := h
    exact ⟨p, dx, fs, T, hv, Reps.unex hF hN vs hr k, hk, ha.unex hN fun z => hF _ _ z fun fs z => nomatch z⟩
  | .scr ns, v, S, h, k => by
    obtain ⟨p, hv, hl, hs⟩ := h
    refine ⟨p, hv, ?_, hs⟩
    rcases hl with (z | ⟨o, z⟩) | z
    · exact .inl (.inl (hF _ _ z fun fs z => nomatch z))
    · exact .inl (.inr ⟨o, hF _ _ z fun fs z => nomatch z⟩)
    · exact .inr z
  | .exn c ns vs, v, S, h, k => nomatch k
theorem Reps.unex (hF : ∀ p o, F2 p = some o → (∀ fs, o ≠ .xd fs) → F' p = some o) (hN : ∀ p, F2 p = none → F' p = none) : ∀ (ds : List D) {vs : List V} {S : List Addr}, Reps (G.wx e) F2 H ds vs S → D.noxL ds = true → Reps G F' H ds vs S
  | [], vs, S, h, k => h
  | d :: r, vs, S, h, k => by
    have k : (d.nox && D.noxL r) = true := k
    rw [Bool.and_eq_true] at k
    obtain ⟨v, vr, S1, S2, e1, e2, h1, h2⟩ := h
    exact ⟨v, vr, S1, S2, e1, e2, Rep.unex hF hN d h1 k.1, Reps.unex hF hN r h2 k.2⟩
end
variable {F : Hp}
mutual
theorem Rep.toex (h0 : G.ex = none) : ∀ (d : D) {v : V} {S : List Addr}, Rep G F H d v S → Rep (G.wx e) F H d v S
  | .dead, v, S, h => h
  | .non, v, S, h => h
  | .bl b, v, S, h => h
  | .int i, v, S, h => h
  | .str x, v, S, h => h
  | .lst o xs, v, S, h => by
    obtain ⟨p, vs, T, hv, hr, ha⟩ := h
    exact ⟨p, vs, T, hv, Reps.toex h0 xs hr, ha⟩
  | .tup o xs, v, S, h => by
    obtain ⟨p, vs, T, hv, hr, ha⟩ := h
    exact ⟨p, vs, T, hv, Reps.toex h0 xs hr, ha⟩
  | .dct o false ks vs, v, S, h => by
    obtain ⟨p, kvs, T, hv, hr, hk, ha⟩ := h
    exact ⟨p, kvs, T, hv, Reps.toex h0 vs hr, hk, ha⟩
  | .dct o true ks vs, v, S, h => by
    obtain ⟨p, kvs, T, hv, hr, hk, ha⟩ := h
    exact ⟨p, kvs, T, hv, Reps.toex h0 vs hr, hk, ha⟩
  | .obj o c ns vs, v, S, h => by
    obtain ⟨p, dx, fs, T, hv, hr, hk, ha⟩ := h
    exact ⟨p, dx, fs, T, hv, Reps.toex h0 vs hr, hk, ha⟩
  | .scr ns, v, S, h => h
  | .exn c ns vs, v, S, h => by
    obtain ⟨a, o, h1, _⟩ := h
    rw [h0] at h1; cases h1
theorem Reps.toex (h0 : G.ex = none) : ∀ (ds : List D) {vs : List V} {S : List Addr}, Reps G F H ds vs S → Reps (G.wx e) F H ds vs S
  | [], vs, S, h => h
  | d :: r, vs, S, h => by
    obtain ⟨v, vr, S1, S2, e1, e2, h1, h2⟩ := h
    exact ⟨v, vr, S1, S2, e1, e2, Rep.toex h0 d h1, Reps.toex h0 r h2⟩
end
/-- an owned node is no exception's dict -/
theorem At.noxd {o : Bool} {p : Addr} {T S : List Addr} {sh : Prop} {x : HO} (h : At F o p T S sh (H p = some x)) (hx : ∀ fs, x ≠ .xd fs) (k : ∀ q ∈ T, ∀ fs, H q ≠ some (.xd fs)) : ∀ q ∈ S, ∀ fs, H q ≠ some (.xd fs) := by
  cases o with
  | true =>
    obtain ⟨a, b, c⟩ := h
    intro q hq fs z
    rw [c] at hq
    rcases List.mem_cons.mp hq with rfl | hq
    · rw [a] at z; injection z with z; exact hx fs z
    · exact k q hq fs z
  | false => intro q hq; rw [h.2.2] at hq; cases hq
mutual
theorem Rep.noxd : ∀ (d : D) {v : V} {S : List Addr}, Rep G F H d v S → ∀ p ∈ S, ∀ fs, H p ≠ some (.xd fs)
  | .dead, v, S, h => fun p hp => by rw [show S = [] from h] at hp; cases hp
  | .non, v, S, h => fun p hp => by rw [h.2] at hp; cases hp
  | .bl b, v, S, h => fun p hp => by rw [h.2] at hp; cases hp
  | .int i, v, S, h => fun p hp => by rw [h.2] at hp; cases hp
  | .str x, v, S, h => fun p hp => by rw [h.2] at hp; cases hp
  | .lst o xs, v, S, h => by
    obtain ⟨p, vs, T, hv, hr, ha⟩ := h
    exact ha.noxd (fun fs z => nomatch z) (Reps.noxd xs hr)
  | .tup o xs, v, S, h => by
    obtain ⟨p, vs, T, hv, hr, ha⟩ := h
    exact ha.noxd (fun fs z => nomatch z) (Reps.noxd xs hr)
  | .dct o false ks vs, v, S, h => by
    obtain ⟨p, kvs, T, hv, hr, hk, ha⟩ := h
    exact ha.noxd (fun fs z => nomatch z) (Reps.noxd vs hr)
  | .dct o true ks vs, v, S, h => by
    obtain ⟨p, kvs, T, hv, hr, hk, ha⟩ := h
    exact ha.noxd (fun fs z => nomatch z) (Reps.noxd vs hr)
  | .obj o c ns vs, v, S, h => by
    obtain ⟨p, dx, fs, T, hv, hr, hk, ha⟩ := h
    exact ha.noxd (fun fs z => nomatch z) (Reps.noxd vs hr)
  | .scr ns, v, S, h => by
    obtain ⟨p, hv, hl, hs⟩ := h
    exact fun p hp => by rw [hs] at hp; cases hp
  | .exn c ns vs, v, S, h => by
    obtain ⟨a, o, h1, h2, h3, h4⟩ := h
    exact fun p hp => by rw [h3] at hp; cases hp
theorem Reps.noxd : ∀ (ds : List D) {vs : List V} {S : List Addr}, Reps G F H ds vs S → ∀ p ∈ S, ∀ fs, H p ≠ some (.xd fs)
  | [], vs, S, h => fun p hp => by rw [h.2] at hp; cases hp
  | d :: r, vs, S, h => by
    obtain ⟨v, vr, S1, S2, e1, e2, h1, h2⟩ := h
    intro p hp
    rw [e2] at hp
    rcases List.mem_append.mp hp with hp | hp
    · exact Rep.noxd d h1 p hp
    · exact Reps.noxd r h2 p hp
end
theorem noxL_gd : ∀ {δ : List D} (h : D.noxL δ = true) (i : Nat), (gd δ i).nox = true
  | [], h, i => by unfold gd; rw [List.getD_eq_getElem?_getD]; simp; rfl
  | d :: r, h, 0 => (Bool.and_eq_true_iff.mp (show (d.nox && D.noxL r) = true from h)).1
  | d :: r, h, i + 1 => noxL_gd (Bool.and_eq_true_iff.mp (show (d.nox && D.noxL r) = true from h)).2 i
theorem Ok.unex {σ : St} {δ : List D} {S : Nat → List Addr} (k : Ok (G.wx e) F2 H σ δ S) (hF : ∀ p o, F2 p = some o → (∀ fs, o ≠ .xd fs) → F' p = some o) (hs : Same F' F2) (n : D.noxL δ = true) : Ok G F' H σ δ S :=
  ⟨hs.trans k.fh, k.len, fun i => (k.slot i).imp id fun ⟨v, a, r⟩ => ⟨v, a, Rep.unex hF (fun p h => hs.free h) _ r (noxL_gd n i)⟩, k.nd, k.sep⟩
theorem Ok.toex {σ : St} {δ : List D} {S : Nat → List Addr} (h0 : G.ex = none) (k : Ok G F H σ δ S) (s : Same F F2) (s2 : Same F2 H) (hn : ∀ q, F q = none → F2 q ≠ none → ∃ fs, H q = some (.xd fs)) : Ok (G.wx e) F2 H σ δ S :=
  ⟨s2, k.len, fun i => (k.slot i).imp id fun ⟨v, a, r⟩ => ⟨v, a, Rep.mono s _ (Rep.toex h0 _ r) fun p hp => ⟨Classical.byContradiction fun z => by
    obtain ⟨fs, q⟩ := hn p (k.own hp).1 z
    exact Rep.noxd _ r p hp fs q, rfl⟩⟩, k.nd, k.sep⟩
theorem gd_dead (δ : List D) (i : Nat) : gd (δ.set i .dead) i = .dead := by
  by_cases h : i < δ.length
  · rw [gd_set h, if_pos rfl]
  · unfold gd
    rw [List.set_eq_of_length_le (by omega), List.getD_eq_getElem?_getD, List.getElem?_eq_none (by omega)]
    rfl
/-- into the suite: the exception's dict is frozen -/
def xIn (dx : Option Addr) (F H : Hp) : Hp := fun q => if dx = some q then H q else F q
/-- out of it -/
def xOut (dx : Option Addr) (F F3 : Hp) : Hp := fun q => if dx = some q ∧ (F q).isNone = true then none else F3 q
section
variable {dx : Option Addr} {F1 H1 F3 H3 : Hp} {S1 S3 : Nat → List Addr}
theorem xIn_sub (s : Same F1 H1) : Same F1 (xIn dx F1 H1) := fun q o h => by
  unfold xIn
  split
  · exact s q o h
  · exact h
theorem xIn_fh (s : Same F1 H1) : Same (xIn dx F1 H1) H1 := fun q o h => by
  unfold xIn at h
  split at h
  · exact h
  · exact s q o h
theorem xOut_sub : Same (xOut dx F1 F3) F3 := fun q o h => by
  unfold xOut at h
  split at h
  · cases h
  · exact h
theorem xOut_keep (hx : ∀ q, dx = some q → ∃ fs, H1 q = some (.xd fs)) (g : Same (xIn dx F1 H1) F3) : ∀ p o, F3 p = some o → (∀ fs, o ≠ .xd fs) → xOut dx F1 F3 p = some o := fun p o h n => by
  unfold xOut
  split
  · rename_i z
    exfalso
    obtain ⟨fs, q⟩ := hx p z.1
    have : xIn dx F1 H1 p = some (.xd fs) := by unfold xIn; rw [if_pos z.1]; exact q
    rw [g p _ this] at h
    exact n fs (by injection h with h; exact h.symm)
  · exact h
theorem gr_xOut {i : Nat} (s : Same F1 H1) (g : GrS (xIn dx F1 H1) H1 (setS S1 i []) F3 H3 S3) : GrS F1 H1 S1 (xOut dx F1 F3) H3 (setS S3 i []) := by
  have hS : ∀ j p, p ∈ setS S1 i [] j → p ∈ S1 j := fun j p h => by
    unfold setS at h
    split at h
    · cases h
    · exact h
  refine ⟨fun p o h => ?_, fun p o h n => g.keep p o h fun j z => n j (hS j p z), g.live, fun p h1 h2 => ?_, fun j p h => ?_⟩
  · unfold xOut
    rw [if_neg fun z => by rw [h] at z; cases z.2]
    exact g.f p o (xIn_sub s p o h)
  · by_cases hd : dx = some p
    · exfalso
      apply h2
      unfold xOut
      rw [if_pos ⟨hd, by rw [h1]; rfl⟩]
    · have h3 : F3 p ≠ none := fun z => h2 (xOut_sub.free z)
      rcases g.new p (by unfold xIn; rw [if_neg hd]; exact h1) h3 with z | ⟨j, z⟩
      · exact .inl z
      · exact .inr ⟨j, hS j p z⟩
  · unfold setS at h
    split at h
    · cases h
    · rcases g.own j p h with z | ⟨j', z⟩
      · exact .inl z
      · exact .inr ⟨j', hS j' p z⟩
theorem grT_xOut {i : Nat} (s : Same F1 H1) (g : GrT (xIn dx F1 H1) H1 (setS S1 i []) F3 H3) : GrT F1 H1 S1 (xOut dx F1 F3) H3 := by
  have hS : ∀ j p, p ∈ setS S1 i [] j → p ∈ S1 j := fun j p h => by
    unfold setS at h
    split at h
    · cases h
    · exact h
  refine ⟨fun p o h => ?_, fun p o h n => g.keep p o h fun j z => n j (hS j p z), xOut_sub.trans g.fh, fun p h1 h2 => ?_⟩
  · unfold xOut
    rw [if_neg fun z => by rw [h] at z; cases z.2]
    exact g.f p o (xIn_sub s p o h)
  · by_cases hd : dx = some p
    · exfalso
      apply h2
      unfold xOut
      rw [if_pos ⟨hd, by rw [h1]; rfl⟩]
    · have h3 : F3 p ≠ none := fun z => h2 (xOut_sub.free z)
      rcases g.new p (by unfold xIn; rw [if_neg hd]; exact h1) h3 with z | ⟨j, z⟩
      · exact .inl z
      · exact .inr ⟨j, hS j p z⟩
end
abbrev noW : WX := fun _ _ _ _ => False
theorem den_tryS {W : WX} {c cC i : Nat} {tb : WX → TS} {f g : List D → SR} {ts : Addr → Value → Option Addr → TS} (h0 : G.ex = none) (hb : ∀ W', DenS G W' (tb W') f)
    (hs : ∀ a d, DenS (G.wx (some (a, c, d))) noW (ts a (.ref (G.cls c)) d) g) (hex : PySem.W.exmOne G.K (.ref (G.cls c)) (.ref (G.cls cC)) = some true) :
    DenS G W (fun E σ H => tb (wAs G.K (.ref (G.cls cC)) i ts W E) E σ H) (fun δ => trySR c (some i) g (f δ)) := by
  intro σ F H δ S E k p
  refine hb _ σ F H δ S E k ?_
  dsimp only at p
  cases e : f δ with
  | nx δ2 => rw [e] at p; exact p
  | rt d => rw [e] at p; exact p
  | bk δ2 => rw [e] at p; exact p
  | ct δ2 => rw [e] at p; exact p
  | stuck => rw [e] at p; exact p
  | exc x δ2 =>
    rw [e] at p
    by_cases hc : x.c = c
    · have e2 : trySR c (some i) g (.exc x δ2) = guardS (oiLt (some i) δ2) (sxOut (some i) (g (setX (some i) x δ2))) := if_pos hc
      rw [e2] at p
      obtain ⟨hi, p⟩ := PostS.guard p
      have hi : i < δ2.length := of_decide_eq_true hi
      intro cv dx σ1 F1 H1 S1 T g1 k1 xr
      have hcv : cv = .ref (G.cls c) := by rw [xr.1, hc]
      subst hcv
      refine ⟨true, hex, fun _ a na => ?_, fun z => nomatch z⟩
      have p1 := p.step g1
      obtain ⟨_, xr⟩ := xr
      have hx : ∀ q, dx = some q → ∃ fs, H1 q = some (.xd fs) := fun q hq => by
        rcases xr with ⟨_, _, _, z⟩ | ⟨d, fs, z, z2, _⟩
        · rw [hq] at z; cases z
        · rw [hq] at z; cases z; exact ⟨fs, z2⟩
      have rx : Rep (G.wx (some (a, c, dx))) (xIn dx F1 H1) H1 (.exn x.c x.ns x.vs) (.ref a) [] := by
        refine ⟨a, dx, by rw [hc], rfl, rfl, ?_⟩
        rcases xr with ⟨z1, z2, _, z⟩ | ⟨d, fs, z, z2, _, z4, z5, _⟩
        · exact .inl ⟨z, z1, z2⟩
        · refine .inr ⟨d, fs, z, ?_, z4, Reps.mono (xIn_sub k1.fh) _ (Reps.toex h0 _ z5) fun p hp => nomatch hp⟩
          unfold xIn
          rw [if_pos z]
          exact z2
      have kx := (k1.toex (e := some (a, c, dx)) (F2 := xIn dx F1 H1) h0 (xIn_sub k1.fh) (xIn_fh k1.fh) fun q n1 n2 => by
        unfold xIn at n2
        split at n2
        · rename_i hq; exact hx q hq
        · exact absurd n1 n2).set (i := i) (v := .ref a) (T := []) hi rx List.nodup_nil fun _ _ _ hp => nomatch hp
      refine hs a dx _ _ H1 _ _ _ kx ?_
      show PostS _ _ _ _ _ _ (g (δ2.set i (.exn x.c x.ns x.vs)))
      replace p1 : PostS G W F1 H1 S1 E (sxOut (some i) (g (δ2.set i (.exn x.c x.ns x.vs)))) := p1
      have fin : ∀ {σ3 F3 H3 S3 δ3}, GrS (xIn dx F1 H1) H1 (setS S1 i []) F3 H3 S3 → Ok (G.wx (some (a, c, dx))) F3 H3 σ3 δ3 S3 → D.noxL (wipeI (some i) δ3) = true → Ok G (xOut dx F1 F3) H3 (σ3.set i none) (wipeI (some i) δ3) (setS S3 i []) := fun {σ3 F3 H3 S3 δ3} g3 k3 n =>
        ((k3.kill i).dead_set (gd_dead δ3 i) none).unex (xOut_keep hx g3.f) xOut_sub n
      cases eg : g (δ2.set i (.exn x.c x.ns x.vs)) with
      | nx δ3 =>
        rw [eg] at p1
        obtain ⟨n, p1⟩ := PostS.guard p1
        exact fun σ3 F3 H3 S3 g3 k3 => p1 _ _ _ _ (gr_xOut k1.fh g3) (fin g3 k3 n)
      | bk δ3 =>
        rw [eg] at p1
        obtain ⟨n, p1⟩ := PostS.guard p1
        exact fun σ3 F3 H3 S3 g3 k3 => p1 _ _ _ _ (gr_xOut k1.fh g3) (fin g3 k3 n)
      | ct δ3 =>
        rw [eg] at p1
        obtain ⟨n, p1⟩ := PostS.guard p1
        exact fun σ3 F3 H3 S3 g3 k3 => p1 _ _ _ _ (gr_xOut k1.fh g3) (fin g3 k3 n)
      | rt d =>
        rw [eg] at p1
        obtain ⟨n, p1⟩ := PostS.guard p1
        refine fun v F3 H3 T3 g3 r3 t3 => p1 v _ _ T3 (grT_xOut k1.fh g3) (Rep.unex (xOut_keep hx g3.f) (fun p h => xOut_sub.free h) _ r3 n) ⟨t3.1, fun p hp => (t3.2 p hp).imp id fun ⟨j, z⟩ => ⟨j, ?_⟩⟩
        unfold setS at z
        split at z
        · cases z
        · exact z
      | exc y δ3 => rw [eg] at p1; exact p1.elim
      | stuck => rw [eg] at p1; exact p1.elim
    · have e2 : trySR c (some i) g (.exc x δ2) = .stuck := if_neg hc
      rw [e2] at p; exact p.elim
theorem den_tryS0 {W : WX} {c cC : Nat} {tb : WX → TS} {f g : List D → SR} {ts : TS} (hb : ∀ W', DenS G W' (tb W') f) (hs : DenS G noW ts g) (hex : PySem.W.exmOne G.K (.ref (G.cls c)) (.ref (G.cls cC)) = some true) :
    DenS G W (fun E σ H => tb (wOnly G.K (.ref (G.cls cC)) (fun _ _ _ => ts) W E) E σ H) (fun δ => trySR c none g (f δ)) := by
  intro σ F H δ S E k p
  refine hb _ σ F H δ S E k ?_
  dsimp only at p
  cases e : f δ with
  | nx δ2 => rw [e] at p; exact p
  | rt d => rw [e] at p; exact p
  | bk δ2 => rw [e] at p; exact p
  | ct δ2 => rw [e] at p; exact p
  | stuck => rw [e] at p; exact p
  | exc x δ2 =>
    rw [e] at p
    by_cases hc : x.c = c
    · have e2 : trySR c none g (.exc x δ2) = guardS (oiLt none δ2) (sxOut none (g (setX none x δ2))) := if_pos hc
      rw [e2] at p
      obtain ⟨_, p⟩ := PostS.guard p
      intro cv dx σ1 F1 H1 S1 T g1 k1 xr
      have hcv : cv = .ref (G.cls c) := by rw [xr.1, hc]
      subst hcv
      refine ⟨true, hex, fun _ a na => ?_, fun z => nomatch z⟩
      have p1 := p.step g1
      refine hs _ F1 H1 δ2 S1 _ k1 ?_
      replace p1 : PostS G W F1 H1 S1 E (sxOut none (g δ2)) := p1
      cases eg : g δ2 with
      | nx δ3 => rw [eg] at p1; exact (PostS.guard p1).2
      | bk δ3 => rw [eg] at p1; exact (PostS.guard p1).2
      | ct δ3 => rw [eg] at p1; exact (PostS.guard p1).2
      | rt d => rw [eg] at p1; exact (PostS.guard p1).2
      | exc y δ3 => rw [eg] at p1; exact p1.elim
      | stuck => rw [eg] at p1; exact p1.elim
    · have e2 : trySR c none g (.exc x δ2) = .stuck := if_neg hc
      rw [e2] at p; exact p.elim
end
end MP
set_option Elab.async false
set_option linter.all false
set_option maxRecDepth 100000
set_option maxHeartbeats 1000000
namespace MP
open PySem
open L2 hiding St
section
variable {G : GX} {W : WX} {ta tb : TE} {tr : TA} {φ ψ : List D → Res D} {φs : List D → Res (List D)} {fr fr2 : Bool} {ms ms2 : List Nat}
/-- a, b = x, y -/
theorem den_par {i j : Nat} (hr : DenL G W tr φs true ms) : DenS G W (tPar i j tr) fun δ => SR.of (φs δ) δ fun xs => match xs with
    | [x, y] => guardS (nodupB ms && decide (i < δ.length) && decide (j < δ.length) && decide (i ≠ j)) (.nx (((kill ms δ).set i x).set j y))
    | _ => .stuck := by
  intro σ F H δ S E k p
  refine hr σ F H δ S _ k ?_
  dsimp only at p
  cases e : φs δ with
  | stuck => rw [e] at p; exact p.elim
  | exc x => rw [e] at p; exact fun c dx F' H' T g xr => p c dx σ F' H' S T (.of g) (k.gr g) xr
  | ok ds =>
    rw [e] at p
    rcases ds with _ | ⟨x, _ | ⟨y, _ | ⟨z, r⟩⟩⟩ <;> first | exact p.elim | skip
    obtain ⟨hg, p⟩ := PostS.guard (show PostS G W F H S E (guardS (nodupB ms && decide (i < δ.length) && decide (j < δ.length) && decide (i ≠ j)) (.nx (((kill ms δ).set i x).set j y))) from p)
    simp only [Bool.and_eq_true, decide_eq_true_eq] at hg
    obtain ⟨⟨⟨h1, h2⟩, h3⟩, h4⟩ := hg
    intro vs F1 H1 T g r q
    obtain ⟨v, vr, A, B0, rfl, rfl, ra, rb⟩ := r
    obtain ⟨w, vr2, B, C, rfl, rfl, rb, rc⟩ := rb
    obtain ⟨rfl, rfl⟩ := rc
    have f1 := q rfl (nodup_of h1)
    rw [List.append_nil] at f1
    refine ⟨v, w, rfl, ?_⟩
    have k1 := (k.gr g).kills ms
    have nd := List.nodup_append.mp f1.1
    have sp : ∀ j' p, p ∈ A ++ B → p ∉ killS ms S j' := fun j' p hp => fre_sep (F' := F1) (H' := H1) k f1 hp
    have k2 := k1.set (by rw [kill_len]; exact h2) ra nd.1 fun j' p _ hp => sp j' p (List.mem_append_left _ hp)
    have k3 := k2.set (i := j) (by rw [List.length_set, kill_len]; exact h3) rb nd.2.1 fun j' p hj hp hq => by
      unfold setS at hq
      split at hq
      · exact nd.2.2 p hq p hp rfl
      · exact sp j' p (List.mem_append_right _ hp) hq
    refine p _ F1 H1 _ ⟨g.f, fun p o h _ => g.h p o h, fun p h z => h (g.h.free z), fun p a b => .inl (g.new p a b), fun j' p h => ?_⟩ k3
    unfold setS at h
    split at h
    · exact f1.sm p (List.mem_append_right _ h)
    · split at h
      · exact f1.sm p (List.mem_append_left _ h)
      · exact .inr ⟨j', (killS_sub h).1⟩
/-- a slot's list becomes shared (no code) -/
theorem den_dem {i : Nat} : DenS G W tNext fun δ => .nx (δ.set i (gd δ i).flat) := by
  intro σ F H δ S E k p
  dsimp only at p
  by_cases hi : i < δ.length
  · rcases k.slot i with ⟨e, hS⟩ | ⟨v, hv, r⟩
    · rw [e] at p
      have es : δ.set i D.dead.flat = δ := by
        apply List.ext_getElem?
        intro j
        rw [List.getElem?_set]
        split
        · rename_i hj
          subst hj
          have : δ.getD i .dead = .dead := e
          rw [List.getD_eq_getElem?_getD, List.getElem?_eq_getElem hi] at this
          rw [List.getElem?_eq_getElem hi]
          exact congrArg some this.symm
        · rfl
      rw [es] at p
      exact p.nxt k
    · have hn : ∀ x ∈ S i, F x = none := fun x hx => (k.own hx).1
      have hσ : σ[i]? = some (some v) := by
        unfold gv at hv
        cases q : σ[i]? with
        | none => rw [q] at hv; cases hv
        | some o => rw [q] at hv; exact congrArg some hv
      have k2 : Ok G (ext F H (S i)) H σ (δ.set i (gd δ i).flat) (setS S i []) := by
        refine ⟨ext_sub k.fh, by simp [k.len], fun j => ?_, fun j => ?_, fun a b p => ?_⟩
        · rw [gd_set hi]
          unfold setS
          by_cases e : j = i
          · subst e
            rw [if_pos rfl, if_pos rfl]
            exact .inr ⟨v, by unfold gv; rw [hσ]; rfl, r.frozen⟩
          · rw [if_neg e, if_neg e]
            rcases k.slot j with z | ⟨w, e1, rw'⟩
            · exact .inl z
            · refine .inr ⟨w, e1, Rep.mono (ext_same hn) _ rw' fun p hp => ⟨?_, rfl⟩⟩
              unfold ext
              rw [if_neg fun z => e (k.sep j i p hp z)]
              exact (k.own hp).1
        · unfold setS
          split
          · exact List.nodup_nil
          · exact k.nd j
        · unfold setS
          intro ha hb
          split at ha
          · cases ha
          · split at hb
            · cases hb
            · exact k.sep a b p ha hb
      refine p σ _ H _ ⟨ext_same hn, fun _ _ h _ => h, fun _ h => h, fun p a b => ?_, fun j p h => ?_⟩ k2
      · unfold ext at b
        split at b
        · rename_i h; exact .inr ⟨i, h⟩
        · exact absurd a b
      · unfold setS at h
        split at h
        · cases h
        · exact .inr ⟨j, h⟩
  · rw [List.set_eq_of_length_le (by omega)] at p
    exact p.nxt k
end
def sdR (Γ : GE) (i : Nat) (tk : TE) : DE → TS
  | .pk j => tDrop (tBM Γ.G.K "list" rAppend (tDSetd (tVar i) tk (tLst tNil)) (tCons (tVar j) tNil))
  | _ => tNever
def sdOk (i : Nat) : DE → Bool
  | .pk j => decide (i ≠ j)
  | _ => false
def gateS (p : Prop) (t : TS) : TS := fun E σ H => p ∧ t E σ H
theorem den_gate {G : GX} {W : WX} {p : Prop} {t : TS} {g : List D → SR} (hp : p) (h : DenS G W t g) : DenS G W (gateS p t) g := fun σ F H δ S D k q => ⟨hp, h σ F H δ S D k q⟩
def GE.wx (Γ : GE) (a c : Nat) (d : Option Addr) : GE := { Γ with G := Γ.G.wx (some (a, c, d)), xc := some c }
def rdS : GE → DS → WX → TS
  | Γ, .nev, W => tNever
  | Γ, .skip, W => tNext
  | Γ, .seq a b, W => tSeq (rdS Γ a W) (rdS Γ b W)
  | Γ, .asg i e, W => tAsg (rd Γ e W).e (gName i)
  | Γ, .asgT t e, W => tAsg (rd Γ e W).e (tgR Γ.G.K t)
  | Γ, .par i j as, W => tPar i j (rd Γ as W).a
  | Γ, .aug i o e, W => tAug i (rd Γ e W).e (ipOf o)
  | Γ, .ifs c a b, W => tIfS (rd Γ c W).t (rdS Γ a W) (rdS Γ b W)
  | Γ, .forS k src tg b, W => tFor (rdIt Γ.G k (rd Γ src W)) (tgR Γ.G.K tg) (rdS Γ b W)
  | Γ, .whl c b, W => tWhile (rd Γ c W).t (rdS Γ b W)
  | Γ, .ret e, W => tRet (rd Γ e W).e
  | Γ, .retN, W => tRetN
  | Γ, .brk, W => tBreak
  | Γ, .cnt, W => tCont
  | Γ, .expr e, W => tDrop (rd Γ e W).e
  | Γ, .app i e, W => tDrop (tBM Γ.G.K "list" rAppend (tVar i) (tCons (rd Γ e W).e tNil))
  | Γ, .appPop j i k, W => tDrop (tBM Γ.G.K "list" rAppend (tVar j) (tCons (tBM Γ.G.K "list" rPopAt (tVar i) (tCons (rd Γ k W).e tNil)) tNil))
  | Γ, .setI i k e, W => orS (tAsg (rd Γ e W).e (gSub (tVar i) (rd Γ k W).e rSetL)) (sDPut (tVar i) (rd Γ k W).e (rd Γ e W).e)
  | Γ, .augI i k o e, W => sDAug (tVar i) (rd Γ k W).e (rd Γ e W).e (rAug2 o)
  | Γ, .rev i, W => tDrop (tBM Γ.G.K "list" rReverse (tVar i) tNil)
  | Γ, .clr i, W => tDrop (tBM Γ.G.K "list" rClear (tVar i) tNil)
  | Γ, .ins i a b, W => tDrop (tBM Γ.G.K "list" rInsert (tVar i) (tCons (rd Γ a W).e (tCons (rd Γ b W).e tNil)))
  | Γ, .pop i k, W => tDrop (tBM Γ.G.K "list" rPopAt (tVar i) (tCons (rd Γ k W).e tNil))
  | Γ, .sdApp i k e, W => sdR Γ i (rd Γ k W).e e
  | Γ, .rem i a, W => tDrop (tRemX Γ.G.K noW (tVar i) (rd Γ a W).e)
  | Γ, .setA i f e, W => sFld Γ.G.K (tVar i) (rd Γ e W).e f
  | Γ, .dem i, W => tNext
  | Γ, .whlN i e b, W => tWhileW (wCmp rNotN1 (wNm (wE (rd Γ e W).e) i) (tC .non)) (rdS Γ b W) tNext
  | Γ, .popL i, W => tDrop (tBM Γ.G.K "list" rPop (tVar i) tNil)
  | Γ, .rse c n as, W => tRse (Γ.G.cls c) (spX Γ.G (Γ.G.cls c) c (as.cnt + 1) (Γ.Φ.fn n)) (rd Γ as W).a W
  | Γ, .tryA c cC (some i) b h, W => fun E σ H => rdS Γ b (wAs Γ.G.K (.ref (Γ.G.cls cC)) i (hRd (Γ.G.cls c) i h) W E) E σ H
  | Γ, .tryA c cC none b h, W => fun E σ H => rdS Γ b (wOnly Γ.G.K (.ref (Γ.G.cls cC)) (hRd (Γ.G.cls c) 0 h) W E) E σ H
  | Γ, .tryS c cC (some i) b s, W => fun E σ H => rdS Γ b (wAs Γ.G.K (.ref (Γ.G.cls cC)) i (fun a cls d => gateS (cls = .ref (Γ.G.cls c)) (rdS (Γ.wx a c d) s noW)) W E) E σ H
  | Γ, .tryS c cC none b s, W => fun E σ H => rdS Γ b (wOnly Γ.G.K (.ref (Γ.G.cls cC)) (fun _ _ _ => rdS Γ s noW) W E) E σ H
def wfS : GE → DS → Bool
  | Γ, .nev => true
  | Γ, .skip => true
  | Γ, .seq a b => wfS Γ a && wfS Γ b
  | Γ, .asg i e => wf Γ false e
  | Γ, .asgT t e => wf Γ false e
  | Γ, .par i j as => wf Γ true as
  | Γ, .aug i o e => wf Γ false e
  | Γ, .ifs c a b => wf Γ false c && wfS Γ a && wfS Γ b
  | Γ, .forS k src tg b => wf Γ true src && srcOk k src && wfS Γ b
  | Γ, .whl c b => wf Γ false c && wfS Γ b
  | Γ, .ret e => wf Γ false e
  | Γ, .retN => true
  | Γ, .brk => true
  | Γ, .cnt => true
  | Γ, .expr e => wf Γ false e && e.movs.isEmpty
  | Γ, .app i e => wf Γ false e
  | Γ, .appPop j i k => wf Γ false k
  | Γ, .setI i k e => wf Γ false k && wf Γ false e
  | Γ, .augI i k o e => wf Γ false k && wf Γ false e
  | Γ, .rev i => true
  | Γ, .clr i => true
  | Γ, .ins i a b => wf Γ false a && wf Γ false b && a.movs.isEmpty && b.movs.isEmpty
  | Γ, .pop i k => wf Γ false k
  | Γ, .sdApp i k e => wf Γ false k && sdOk i e
  | Γ, .rem i a => wf Γ false a
  | Γ, .setA i f e => wf Γ false e && Γ.flds.contains f
  | Γ, .dem i => true
  | Γ, .whlN i e b => wf Γ false e && wfS Γ b
  | Γ, .popL i => true
  | Γ, .rse c n as => wf Γ true as && as.movs.isEmpty
  | Γ, .tryA c cC oi b h => wfS Γ b && Γ.exm.contains (c, cC) && h.ok && (oi.isSome || h.noX) && h.flds.all fun f => Γ.xfs.contains (c, f)
  | Γ, .tryS c cC (some _) b s => wfS Γ b && Γ.exm.contains (c, cC) && Γ.xc.isNone && wfS { Γ with xc := some c } s
  | Γ, .tryS c cC none b s => wfS Γ b && Γ.exm.contains (c, cC) && wfS Γ s
/-- what is well formed does not depend on addresses -/
def GE.ate (Γ : GE) (Φ : Tab) (e : Option (Addr × Nat × Option Addr)) : GE := { Γ with Φ := Φ, G := Γ.G.wx e }
theorem wf_ate (Γ : GE) (Φ : Tab) (e : Option (Addr × Nat × Option Addr)) : ∀ (l : Bool) (d : DE), wf (Γ.ate Φ e) l d = wf Γ l d := fun l d => by
  induction d generalizing l with
  | o1 o a ih => cases l <;> first | rfl | (show (wf (Γ.ate Φ e) false a && _) = (wf Γ false a && _); rw [ih]; rfl)
  | o2 o a b iha ihb => cases l <;> first | rfl | (show (wf (Γ.ate Φ e) false a && wf (Γ.ate Φ e) false b && _) = (wf Γ false a && wf Γ false b && _); rw [iha, ihb])
  | mt o a b iha ihb => cases l <;> first | rfl | (show (wf (Γ.ate Φ e) false a && wf (Γ.ate Φ e) false b && _) = (wf Γ false a && wf Γ false b && _); rw [iha, ihb])
  | o3 o a b c iha ihb ihc => cases l <;> first | rfl | (show (wf (Γ.ate Φ e) false a && wf (Γ.ate Φ e) false b && wf (Γ.ate Φ e) false c && _) = (wf Γ false a && wf Γ false b && wf Γ false c && _); rw [iha, ihb, ihc])
  | ch2 o p a b c iha ihb ihc => cases l <;> first | rfl | (show (wf (Γ.ate Φ e) false a && wf (Γ.ate Φ e) false b && wf (Γ.ate Φ e) false c && _ && _) = (wf Γ false a && wf Γ false b && wf Γ false c && _ && _); rw [iha, ihb, ihc])
  | ch3 o p q a b c d iha ihb ihc ihd => cases l <;> first | rfl | (show (wf (Γ.ate Φ e) false a && wf (Γ.ate Φ e) false b && wf (Γ.ate Φ e) false c && wf (Γ.ate Φ e) false d && _ && _ && _) = (wf Γ false a && wf Γ false b && wf Γ false c && wf Γ false d && _ && _ && _); rw [iha, ihb, ihc, ihd])
  | sl a b c iha ihb ihc => cases l <;> first | rfl | (show (wf (Γ.ate Φ e) false a && wf (Γ.ate Φ e) false b && wf (Γ.ate Φ e) false c) = (wf Γ false a && wf Γ false b && wf Γ false c); rw [iha, ihb, ihc])
  | and a b iha ihb => cases l <;> first | rfl | (show (wf (Γ.ate Φ e) false a && wf (Γ.ate Φ e) false b) = (wf Γ false a && wf Γ false b); rw [iha, ihb])
  | or a b iha ihb => cases l <;> first | rfl | (show (wf (Γ.ate Φ e) false a && wf (Γ.ate Φ e) false b) = (wf Γ false a && wf Γ false b); rw [iha, ihb])
  | ite a b c iha ihb ihc => cases l <;> first | rfl | (show (wf (Γ.ate Φ e) false a && wf (Γ.ate Φ e) false b && wf (Γ.ate Φ e) false c) = (wf Γ false a && wf Γ false b && wf Γ false c); rw [iha, ihb, ihc])
  | cons a r iha ihr => cases l <;> first | rfl | (show (wf (Γ.ate Φ e) false a && wf (Γ.ate Φ e) true r) = (wf Γ false a && wf Γ true r); rw [iha, ihr])
  | lst as ih => cases l <;> first | rfl | exact ih true
  | tup as ih => cases l <;> first | rfl | exact ih true
  | call f as ih => cases l <;> first | rfl | (show (wf (Γ.ate Φ e) true as && _) = (wf Γ true as && _); rw [ih])
  | fld a f ih => cases l <;> first | rfl | (show (wf (Γ.ate Φ e) false a && _) = (wf Γ false a && _); rw [ih]; rfl)
  | fz a ih => cases l <;> first | rfl | (show (wf (Γ.ate Φ e) false a && _ && _) = (wf Γ false a && _ && _); rw [ih])
  | dict1 a b iha ihb => cases l <;> first | rfl | (show (wf (Γ.ate Φ e) false a && wf (Γ.ate Φ e) false b && _ && _) = (wf Γ false a && wf Γ false b && _ && _); rw [iha, ihb])
  | dcomp k src tg own c a b ihs ihc iha ihb => cases l <;> first | rfl | (show (wf (Γ.ate Φ e) true src && wf (Γ.ate Φ e) false c && wf (Γ.ate Φ e) false a && wf (Γ.ate Φ e) false b && _ && _) = (wf Γ true src && wf Γ false c && wf Γ false a && wf Γ false b && _ && _); rw [ihs, ihc, iha, ihb])
  | comp k src tg own c b ihs ihc ihb => cases l <;> first | rfl | (show (wf (Γ.ate Φ e) true src && wf (Γ.ate Φ e) false c && wf (Γ.ate Φ e) false b && _ && _) = (wf Γ true src && wf Γ false c && wf Γ false b && _ && _); rw [ihs, ihc, ihb])
  | _ => cases l <;> rfl
theorem wfS_ate (Φ : Tab) (e0 : Option (Addr × Nat × Option Addr)) : ∀ (Γ : GE) (s : DS), wfS (Γ.ate Φ e0) s = wfS Γ s := fun Γ s => by
  induction s generalizing Γ with
  | seq a b iha ihb => show (wfS (Γ.ate Φ e0) a && wfS (Γ.ate Φ e0) b) = (wfS Γ a && wfS Γ b); rw [iha, ihb]
  | ifs c a b iha ihb => show (wf (Γ.ate Φ e0) false c && wfS (Γ.ate Φ e0) a && wfS (Γ.ate Φ e0) b) = (wf Γ false c && wfS Γ a && wfS Γ b); rw [iha, ihb, wf_ate]
  | forS k src tg b ih => show (wf (Γ.ate Φ e0) true src && srcOk k src && wfS (Γ.ate Φ e0) b) = (wf Γ true src && srcOk k src && wfS Γ b); rw [ih, wf_ate]
  | whl c b ih => show (wf (Γ.ate Φ e0) false c && wfS (Γ.ate Φ e0) b) = (wf Γ false c && wfS Γ b); rw [ih, wf_ate]
  | asg i e => exact wf_ate Γ Φ e0 false e
  | asgT i e => exact wf_ate Γ Φ e0 false e
  | par i j as => exact wf_ate Γ Φ e0 true as
  | aug i o e => exact wf_ate Γ Φ e0 false e
  | ret e => exact wf_ate Γ Φ e0 false e
  | expr e => show (wf (Γ.ate Φ e0) false e && _) = (wf Γ false e && _); rw [wf_ate]
  | app i e => exact wf_ate Γ Φ e0 false e
  | appPop j i e => exact wf_ate Γ Φ e0 false e
  | setI i k e => show (wf (Γ.ate Φ e0) false k && wf (Γ.ate Φ e0) false e) = (wf Γ false k && wf Γ false e); rw [wf_ate, wf_ate]
  | ins i a b => show (wf (Γ.ate Φ e0) false a && wf (Γ.ate Φ e0) false b && _ && _) = (wf Γ false a && wf Γ false b && _ && _); rw [wf_ate, wf_ate]
  | pop i k => exact wf_ate Γ Φ e0 false k
  | rem i a => exact wf_ate Γ Φ e0 false a
  | augI i k o e => show (wf (Γ.ate Φ e0) false k && wf (Γ.ate Φ e0) false e) = (wf Γ false k && wf Γ false e); rw [wf_ate, wf_ate]
  | sdApp i k e => show (wf (Γ.ate Φ e0) false k && _) = (wf Γ false k && _); rw [wf_ate]
  | rse c n as => show (wf (Γ.ate Φ e0) true as && _) = (wf Γ true as && _); rw [wf_ate]
  | tryA c cC oi b h ih => show (wfS (Γ.ate Φ e0) b && _ && _ && _ && _) = (wfS Γ b && _ && _ && _ && _); rw [ih]; rfl
  | whlN i e b ih => show (wf (Γ.ate Φ e0) false e && wfS (Γ.ate Φ e0) b) = (wf Γ false e && wfS Γ b); rw [ih, wf_ate]
  | setA i f e => show (wf (Γ.ate Φ e0) false e && _) = (wf Γ false e && _); rw [wf_ate]; rfl
  | tryS c cC oi b s ihb ihs =>
    cases oi with
    | some i =>
      show (wfS (Γ.ate Φ e0) b && _ && _ && wfS (GE.ate { Γ with xc := some c } Φ e0) s) = (wfS Γ b && _ && _ && wfS { Γ with xc := some c } s)
      rw [ihb, ihs]; rfl
    | none =>
      show (wfS (Γ.ate Φ e0) b && _ && wfS (Γ.ate Φ e0) s) = (wfS Γ b && _ && wfS Γ s)
      rw [ihb, ihs]; rfl
  | _ => rfl
theorem GOk.wx {Γ : GE} (ok : GOk Γ) (h0 : Γ.G.ex = none) (a c : Nat) (d : Option Addr) : GOk (Γ.wx a c d) :=
  ⟨⟨ok.kin.i, ok.kin.ty, ok.kin.ob, ok.kin.cc⟩, ok.cls, ok.noa, fun n F H => Rep.toex h0 _ (ok.gl n F H), ok.exm, ok.xfs, ok.isx, ok.xcs, fun a' c' o h => by cases h; rfl⟩
theorem GOk.ex0 {Γ : GE} (ok : GOk Γ) (h : Γ.xc = none) : Γ.G.ex = none := by
  cases e : Γ.G.ex with
  | none => rfl
  | some t => obtain ⟨a, c, o⟩ := t; have := ok.exc a c o e; rw [h] at this; cases this
theorem den_setI {Γ : GE} {W : WX} {i : Nat} {ta tb : TE} {φ ψ : List D → Res D} {fr fr2 : Bool} {ms ms2 : List Nat} (he : DenE Γ.G W ta φ fr ms) (hk : DenE Γ.G W tb ψ fr2 ms2) :
    DenS Γ.G W (orS (tAsg ta (gSub (tVar i) tb rSetL)) (sDPut (tVar i) tb ta)) fun δ => SR.of (φ δ) δ fun d => match gd δ i with
    | .lst true xs => SR.of (ψ δ) δ fun x => match x with
      | .int n => match ixN xs.length n with
        | some j => guardS ((bif fr then ms.isEmpty else d.isSh) && D.isShL xs) (.nx (δ.set i (.lst true (xs.set j (bif fr then d.flat else d)))))
        | none => .stuck
      | _ => .stuck
    | .dct true t ks vs => SR.of (ψ δ) δ fun x => guardS (d.isSh && D.isShL vs && x.okKey t && x.isSh && decide (ks.length < 100000)) (.nx (δ.set i (.dct true t (dput t x d ks vs).1 (dput t x d ks vs).2)))
    | _ => .stuck := by
  intro σ F H δ S E k p
  cases q : gd δ i with
  | dct o t ks vs =>
    refine .inr (den_setD he hk σ F H δ S E k ?_)
    dsimp only at p ⊢
    rw [q] at p ⊢
    cases o <;> exact p
  | lst o xs =>
    refine .inl (den_setL he hk σ F H δ S E k ?_)
    dsimp only at p ⊢
    rw [q] at p ⊢
    cases o <;> exact p
  | _ =>
    refine .inl (den_setL he hk σ F H δ S E k ?_)
    dsimp only at p ⊢
    rw [q] at p ⊢
    exact p
theorem ints_map : ∀ {xs : List D} {ns : List Int}, intsOf xs = some ns → xs = ns.map D.int
  | [], ns, h => by cases h; rfl
  | d :: r, ns, h => by
    cases d <;> first | cases h | skip
    rename_i i
    have h : (intsOf r).map (i :: ·) = some ns := h
    cases q : intsOf r with
    | none => rw [q] at h; cases h
    | some ms =>
      rw [q] at h
      cases h
      rw [ints_map q]
      rfl
theorem ints_vals {G : GX} {F H : Hp} : ∀ {ns : List Int} {vs : List V} {T : List Addr}, Reps G F H (ns.map D.int) vs T → vs = ns.map V.int
  | [], vs, T, r => r.1
  | i :: ns, vs, T, r => by
    obtain ⟨v, vr, S1, S2, e1, e2, h1, h2⟩ := r
    rw [e1, ints_vals h2, show v = .int i from h1.1]
    rfl
theorem reps_int {G : GX} {F H : Hp} : ∀ ns : List Int, Reps G F H (ns.map D.int) (ns.map V.int) []
  | [] => Reps.nil
  | i :: r => Reps.cons (S := []) ⟨rfl, rfl⟩ (reps_int r)
theorem sh_ints : ∀ ns : List Int, D.isShL (ns.map D.int) = true
  | [] => rfl
  | i :: r => sh_ints r
/-- xs.remove(k), k in xs -/
theorem den_rem {G : GX} {W : WX} {ta : TE} {φ : List D → Res D} {fr : Bool} {ms : List Nat} {i : Nat} (hk : DenE G W ta φ fr ms) : DenS G W (tDrop (tRemX G.K noW (tVar i) ta)) fun δ => match gd δ i with
    | .lst true xs => SR.of (φ δ) δ fun y => match y, intsOf xs with
      | .int k, some ns => guardS (ns.contains k) (.nx (δ.set i (.lst true ((ns.erase k).map .int))))
      | _, _ => .stuck
    | _ => .stuck := by
  intro σ F H δ S E k p
  obtain ⟨xs, e, p⟩ := mth_or (g := fun xs => SR.of (φ δ) δ fun y => match y, intsOf xs with
      | .int k, some ns => guardS (ns.contains k) (.nx (δ.set i (.lst true ((ns.erase k).map .int))))
      | _, _ => .stuck) p
  obtain ⟨l, vs, T, hv, hl, _⟩ := k.olst e
  refine ⟨.ref l, hv, .inl ⟨rfl, vs, SqL.of hl⟩, ?_⟩
  refine hk.goS k p fun d w F1 H1 T1 e1 g1 k1 r1 q1 p1 => ?_
  cases d with
  | int n =>
    cases q : intsOf xs with
    | none => rw [q] at p1; exact p1.elim
    | some ns =>
      rw [q] at p1
      obtain ⟨hg, p1⟩ := PostS.guard p1
      obtain rfl : w = .int n := r1.1
      obtain ⟨l', vs', T', hv', hl', nl', hr', hS', _, _, hi⟩ := k1.olst e
      rw [hv] at hv'
      cases hv'
      have ex := ints_map q
      subst ex
      have ev := ints_vals hr'
      subst ev
      have z := Reps.shn _ hr' (sh_ints ns)
      subst z
      refine ⟨l, ns, n, rfl, rfl, hl', fun _ => ?_, fun z => absurd (by simpa using hg) z⟩
      exact putSh k1 hi hv nl' (by rw [hl']; exact fun z => nomatch z) hS' (reps_int _) p1
  | _ => exact p1.elim
theorem putF_new {f : Str} {v : V} : ∀ {fs : List (Str × V)}, (fs.map (·.1)).contains f = false → putF f v fs = fs ++ [(f, v)]
  | [], h => rfl
  | (g, x) :: r, h => by
    have h : ((g, x) :: r).map (·.1) = g :: r.map (·.1) := rfl
    rename_i h0
    rw [h, List.contains_cons, Bool.or_eq_false_iff] at h0
    have hg : ¬ g = f := fun z => by
      rw [z] at h0
      simp at h0
    show (if g = f then (g, v) :: r else (g, x) :: putF f v r) = _
    rw [if_neg hg, putF_new h0.2]
    rfl
/-- o.f = e, o's first value there -/
theorem den_setA {G : GX} {W : WX} {ta : TE} {φ : List D → Res D} {fr : Bool} {ms : List Nat} {i : Nat} {f : Str} (hc : ∀ c ∈ G.cs, Cls G.K (G.cls c)) (hf : ∀ c ∈ G.cs, NoAttr G.K (G.cls c) f) (he : DenE G W ta φ fr ms) :
    DenS G W (sFld G.K (tVar i) ta f) fun δ => SR.of (tkOk fr (φ δ)) δ fun d => match gd δ i with
    | .obj true c ns vs => guardS (nodupB (i :: ms) && !ns.contains f && decide (ns.length < 900)) (.nx ((kill ms δ).set i (.obj true c (ns ++ [f]) (vs ++ [d]))))
    | _ => .stuck := by
  intro σ F H δ S E k p
  refine he.goT k p fun d v F1 H1 T1 e1 g1 k1 r1 q1 p1 => ?_
  have hx : ∃ c ns vs, gd δ i = .obj true c ns vs := by
    cases q : gd δ i with
    | obj o c ns vs => cases o with
      | true => exact ⟨c, ns, vs, rfl⟩
      | false => rw [q] at p1; exact p1.elim
    | _ => rw [q] at p1; exact p1.elim
  obtain ⟨c, ns, vs, e⟩ := hx
  rw [e] at p1
  obtain ⟨hg, p1⟩ := PostS.guard p1
  simp only [Bool.and_eq_true, Bool.not_eq_true', decide_eq_true_eq] at hg
  obtain ⟨⟨h1, h2⟩, h3⟩ := hg
  have hnd := List.nodup_cons.mp (nodup_of h1)
  have f1 := q1 hnd.2
  have k2 := k1.kills ms
  have e2 : gd (kill ms δ) i = .obj true c ns vs := by rw [gd_kill hnd.1]; exact e
  obtain ⟨u, hu, ru⟩ := k2.get e2 (fun z => nomatch z)
  obtain ⟨l, dx, fs, T, rfl, hr, ⟨hn, hcs⟩, hH, nl, hS⟩ := ru
  have hi := gd_lt e2 (fun z => nomatch z)
  have hsep : ∀ j p, p ∈ T1 → p ∉ killS ms S j := fun j p hp => fre_sep (F' := F1) (H' := H1) k f1 hp
  have hlT1 : l ∉ T1 := fun z => hsep i l z (by rw [hS]; exact List.mem_cons_self)
  have ndS := k2.nd i
  rw [hS, List.nodup_cons] at ndS
  have hnf : (fs.map (·.1)).contains f = false := by rw [← hn]; exact h2
  have ra := hr.app (Reps.cons r1 Reps.nil)
  rw [List.append_nil] at ra
  refine ⟨.ref l, hu, l, G.cls c, dx, fs, rfl, hH, hc c hcs, hf c hcs, by
    have : fs.length = ns.length := by rw [hn, List.length_map]
    omega, ?_⟩
  rw [putF_new hnf]
  have hrep : Rep G F1 (upd H1 l (.ins (G.cls c) dx (fs ++ [(f, v)]))) (.obj true c (ns ++ [f]) (vs ++ [d])) (.ref l) (l :: (T ++ T1)) := by
    refine ⟨l, dx, fs ++ [(f, v)], T ++ T1, rfl, ?_, ⟨by rw [List.map_append, hn]; rfl, hcs⟩, upd_same, nl, rfl⟩
    rw [List.map_append]
    exact Reps.mono (Same.refl _) _ ra fun p hp => ⟨(Reps.own _ ra p hp).1, upd_ne fun z => (List.mem_append.mp hp).elim (fun h => ndS.1 (z ▸ h)) fun h => hlT1 (z ▸ h)⟩
  have hlS : ∃ j, l ∈ S j := ⟨i, by rw [← killS_same (ms := ms) (S := S) hnd.1, hS]; exact List.mem_cons_self⟩
  have k3 := k2.mut (H2 := upd H1 l (.ins (G.cls c) dx (fs ++ [(f, v)]))) hi (fun q hq => .inl (upd_ne fun z => hq (by rw [hS, z]; exact List.mem_cons_self))) hu hrep (List.nodup_cons.mpr ⟨fun z => (List.mem_append.mp z).elim ndS.1 hlT1, List.nodup_append.mpr ⟨ndS.2, f1.1, fun p hp q hq z => by
    subst z
    exact hsep i p hq (by rw [hS]; exact List.mem_cons_of_mem _ hp)⟩⟩) fun j p hj hp => by
      rcases List.mem_cons.mp hp with rfl | hp
      · exact fun z => hj (k2.sep j i p z (by rw [hS]; exact List.mem_cons_self))
      · rcases List.mem_append.mp hp with z | z
        · exact fun y => hj (k2.sep j i p y (by rw [hS]; exact List.mem_cons_of_mem _ z))
        · exact hsep j p z
  refine p1 σ F1 _ _ (g1.put hlS (fun j p h => (killS_sub h).1) fun p hp => ?_) k3
  rcases List.mem_cons.mp hp with rfl | hp
  · exact .inr hlS
  · rcases List.mem_append.mp hp with z | z
    · exact .inr ⟨i, by rw [← killS_same (ms := ms) (S := S) hnd.1, hS]; exact List.mem_cons_of_mem _ z⟩
    · exact f1.sm p z
theorem den_allS (Γ : GE) (ok : GOk Γ) (n : Nat) (W : WX) : ∀ s : DS, wfS Γ s = true → DenS Γ.G W (rdS Γ s W) (evalS Γ.Φ n s) := fun s => by
  induction s generalizing W Γ with
  | nev => exact fun _ => den_nev
  | skip => exact fun _ => den_skip
  | seq a b iha ihb =>
    intro h
    have h : (wfS Γ a && wfS Γ b) = true := h
    rw [Bool.and_eq_true] at h
    exact dS_seq (iha Γ ok W h.1) (ihb Γ ok W h.2)
  | asg i e => exact fun h => den_asg ((den_all Γ ok e).e W h).1
  | asgT t e => exact fun h => den_asgT ((den_all Γ ok e).e W h).1
  | par i j as => exact fun h => den_par ((den_all Γ ok as).l W h).1
  | aug i o e => exact fun h => den_aug ((den_all Γ ok e).e W h).1
  | ifs c a b iha ihb =>
    intro h
    have h : (wf Γ false c && wfS Γ a && wfS Γ b) = true := h
    simp only [Bool.and_eq_true] at h
    exact den_if ((den_all Γ ok c).e W h.1.1).2 (iha Γ ok W h.1.2) (ihb Γ ok W h.2)
  | forS k src tg b ih =>
    intro h
    have h : (wf Γ true src && srcOk k src && wfS Γ b) = true := h
    simp only [Bool.and_eq_true] at h
    exact den_for (den_src (den_all Γ ok src) h.1.2 h.1.1) (ih Γ ok W h.2)
  | whl c b ih =>
    intro h
    have h : (wf Γ false c && wfS Γ b) = true := h
    simp only [Bool.and_eq_true] at h
    exact den_while ((den_all Γ ok c).e W h.1).2 (ih Γ ok W h.2)
  | ret e => exact fun h => den_ret ((den_all Γ ok e).e W h).1
  | retN => exact fun _ => den_retN
  | brk => exact fun _ => den_brk
  | cnt => exact fun _ => den_cnt
  | expr e =>
    intro h
    have h : (wf Γ false e && e.movs.isEmpty) = true := h
    rw [Bool.and_eq_true] at h
    have q := ((den_all Γ ok e).e W h.1).1
    rw [List.isEmpty_iff.mp h.2] at q
    exact den_expr q
  | app i e => exact fun h => den_app ((den_all Γ ok e).e W h).1
  | appPop j i k => exact fun h => den_appPop ((den_all Γ ok k).e W h).1
  | setI i k e =>
    intro h
    have h : (wf Γ false k && wf Γ false e) = true := h
    rw [Bool.and_eq_true] at h
    exact den_setI ((den_all Γ ok e).e W h.2).1 ((den_all Γ ok k).e W h.1).1
  | augI i k o e =>
    intro h
    have h : (wf Γ false k && wf Γ false e) = true := h
    rw [Bool.and_eq_true] at h
    exact den_augD ((den_all Γ ok k).e W h.1).1 ((den_all Γ ok e).e W h.2).1
  | rev i => exact fun _ => den_reverse
  | clr i => exact fun _ => den_clear
  | ins i a b =>
    intro h
    have h : (wf Γ false a && wf Γ false b && a.movs.isEmpty && b.movs.isEmpty) = true := h
    simp only [Bool.and_eq_true] at h
    have q1 := ((den_all Γ ok a).e W h.1.1.1).1
    have q2 := ((den_all Γ ok b).e W h.1.1.2).1
    rw [List.isEmpty_iff.mp h.1.2] at q1
    rw [List.isEmpty_iff.mp h.2] at q2
    exact den_insert q1 q2
  | pop i k => exact fun h => den_popD ((den_all Γ ok k).e W h).1
  | sdApp i k e =>
    intro h
    have h : (wf Γ false k && sdOk i e) = true := h
    rw [Bool.and_eq_true] at h
    cases e <;> first | (cases h.2; done) | skip
    rename_i j h0
    have ep : evalE Γ.Φ (.pk j) = pkE j := by
      funext δ
      rw [evalE]
      unfold pkE
      cases gd δ j <;> rfl
    have q := den_sdApp (G := Γ.G) (W := W) (i := i) (j := j) (of_decide_eq_true h.2) ((den_all Γ ok k).e W h.1).1
    rw [← ep] at q
    exact q
  | rem i a => exact fun h => den_rem ((den_all Γ ok a).e W h).1
  | setA i f e =>
    intro h
    have h : (wf Γ false e && Γ.flds.contains f) = true := h
    rw [Bool.and_eq_true] at h
    exact den_setA ok.cls (ok.noa f (by simpa using h.2)) ((den_all Γ ok e).e W h.1).1
  | dem i => exact fun _ => den_dem
  | whlN i e b ih =>
    intro h
    have h : (wf Γ false e && wfS Γ b) = true := h
    rw [Bool.and_eq_true] at h
    exact den_whlN ((den_all Γ ok e).e W h.1).1 (ih Γ ok W h.2)
  | popL i => exact fun _ => den_popL
  | rse c m as =>
    intro h
    have h : (wf Γ true as && as.movs.isEmpty) = true := h
    rw [Bool.and_eq_true] at h
    exact den_rse (((den_all Γ ok as).l W h.1).2 (List.isEmpty_iff.mp h.2)) fun δ xs e => by rw [evalL_len _ as e]
  | tryA c cC oi b h0 ih =>
    intro h
    have h : (wfS Γ b && Γ.exm.contains (c, cC) && h0.ok && (oi.isSome || h0.noX) && h0.flds.all fun f => Γ.xfs.contains (c, f)) = true := h
    rw [Bool.and_eq_true] at h
    replace h := h.1
    simp only [Bool.and_eq_true] at h
    have hex := ok.exm (c, cC) (by simpa using h.1.1.2)
    cases oi with
    | some i => exact den_tryA (fun W' => ih Γ ok W' h.1.1.1) hex h.1.2
    | none => exact den_try0 (fun W' => ih Γ ok W' h.1.1.1) hex h.1.2 (by simpa using h.2)
  | tryS c cC oi b s ihb ihs =>
    intro h
    cases oi with
    | some i =>
      have h : (wfS Γ b && Γ.exm.contains (c, cC) && Γ.xc.isNone && wfS { Γ with xc := some c } s) = true := h
      simp only [Bool.and_eq_true] at h
      have hex := ok.exm (c, cC) (by simpa using h.1.1.2)
      have h0 := ok.ex0 (by simpa using h.1.2)
      exact den_tryS h0 (fun W' => ihb Γ ok W' h.1.1.1) (fun a d => den_gate rfl <| ihs (Γ.wx a c d) (ok.wx h0 a c d) noW (by
        have q := wfS_ate Γ.Φ (some (a, c, d)) { Γ with xc := some c } s
        exact q.trans h.2)) hex
    | none =>
      have h : (wfS Γ b && Γ.exm.contains (c, cC) && wfS Γ s) = true := h
      simp only [Bool.and_eq_true] at h
      exact den_tryS0 (fun W' => ihb Γ ok W' h.1.1) (ihs Γ ok noW h.2) (ok.exm (c, cC) (by simpa using h.1.2))
end MP
set_option Elab.async false
set_option linter.all false
set_option maxRecDepth 100000
set_option maxHeartbeats 1000000
namespace MP
open PySem PyProof.Rows
open L2 hiding St
/-! ### arguments with keywords -/
structure PAK (X : Cx) (es : List Expr) (kws : List Keyword) (t : TA) : Prop where
  run : ∀ (pos : Pos) (pins : List (Addr × Obj)) (s : Shared) (σ : St) (H : Hp) (Q : List V → Hp → Prop), Inv X pins σ H s → t σ H Q →
    wpAny (model X.prog X.w) X.A (spliced (backTo pos (starEach es X.env))) (fun us s1 => wpAny (model X.prog X.w) X.A (evalAll ((backToKw pos (keywordEach kws X.env)).map (·.2))) (fun ws s2 =>
      ∃ vs zs H', Inv X pins σ H' s2 ∧ Vals vs us ∧ Vals zs ws ∧ vs.length = es.length ∧ Q (vs ++ zs) H') X.xe s1) X.xe s
  kw : es = [] → ∀ (pos : Pos) (pins : List (Addr × Obj)) (s : Shared) (σ : St) (H : Hp) (Q : List V → Hp → Prop), Inv X pins σ H s → t σ H Q →
    wpAny (model X.prog X.w) X.A (evalAll ((backToKw pos (keywordEach kws X.env)).map (·.2))) (fun ws s2 => ∃ zs H', Inv X pins σ H' s2 ∧ Vals zs ws ∧ Q zs H') X.xe s
def nStar : Expr → Bool
  | .Starred .. => false
  | _ => true
theorem star_one {e : Expr} {es : List Expr} {env : Env} (h : nStar e = true) : starEach (e :: es) env = (false, eval e env) :: starEach es env := by
  cases e <;> first | rfl | cases h
theorem star_plain {env : Env} {pos : Pos} : ∀ {es : List Expr}, es.all nStar = true → (backTo pos (starEach es env)).any (·.1) = false
  | [], h => rfl
  | e :: r, h => by
    rw [List.all_cons, Bool.and_eq_true] at h
    rw [star_one h.1]
    show (false || (backTo pos (starEach r env)).any (·.1)) = false
    rw [star_plain h.2]
    rfl
section
variable {X : Cx} {e : Expr} {es : List Expr} {kws : List Keyword} {te : TE} {t : TA}
theorem pak_kw (h : PK X kws t) : PAK X [] kws t := by
  refine ⟨fun pos pins s σ H Q I q => Calls.spliced_nil ?_, fun _ pos pins s σ H Q I q => ?_⟩
  · exact thn (h.run pos pins s σ H _ I q) fun ws s2 ⟨zs, H2, I2, r2, q2⟩ => ⟨[], zs, H2, I2, .nil, r2, rfl, q2⟩
  · exact thn (h.run pos pins s σ H _ I q) fun ws s2 ⟨zs, H2, I2, r2, q2⟩ => ⟨zs, H2, I2, r2, q2⟩
theorem pak_cons (ha : PE X e te) (hs : nStar e = true) (hr : PAK X es kws t) : PAK X (e :: es) kws (tCons te t) := by
  refine ⟨fun pos pins s σ H Q I h => ?_, fun z => nomatch z⟩
  rw [star_one hs]
  refine Calls.spliced_cons (thn (ha.run pins s σ H _ I h) fun u s1 ⟨x, H1, I1, r1, q1⟩ => ?_)
  refine thn (hr.run pos pins s1 σ H1 _ I1 q1) fun us s2 h2 => ?_
  exact thn h2 fun ws s3 ⟨vs, zs, H3, I3, r3, r4, l1, q3⟩ => ⟨x :: vs, zs, H3, I3, .cons r1 r3, r4, by simp [l1], q3⟩
end
/-! ### defs that are called by a global name -/
structure Sig where
  np : Nat
  ks : List Str
  f : Nat
  deriving DecidableEq
/-- room for calls; hot: an exception is being handled -/
structure RoomC (hot : Bool) (k : Nat) (X : Cx) : Prop where
  h : L2H.RoomH k X.A
  c : hot = false → Room k X.A
  x : hot = true → L2H.HotC X
theorem RoomC.mono {hot : Bool} {j k : Nat} {X : Cx} (r : RoomC hot k X) (e : j ≤ k) : RoomC hot j X := ⟨r.h.mono e, fun z => (r.c z).mono e, r.x⟩
theorem roomC_of {k : Nat} {X : Cx} (r : Room k X.A) : RoomC false k X := ⟨L2H.roomH_of r, fun _ => r, fun z => nomatch z⟩
def CallAll (hot : Bool) (P : Program) (w : World) (K : PySem.W.Frag) (mg : Str → Option Value) (base : Heap) (k : Nat) (name : Str) (np : Nat) (ks : List Str) (sp : Sp) : Prop :=
  ∃ u, mg name = some u ∧ PySem.W.keepIn K u = true ∧ ∀ (X : Cx), X.prog = P → X.w = w → X.K = K → X.mg = mg → X.base = base → RoomC hot k X → ∀ W, L2N.Takes X W →
    ∀ (pins : List (Addr × Obj)) (s : Shared) (σ : St) (H : Hp) (Q : VK) (vs zs : List V) (us ws : List Value), Inv X pins σ H s → Vals vs us → Vals zs ws → vs.length = np → zs.length = ks.length → sp (vs ++ zs) H Q (WE W σ) →
    wpAny (model X.prog X.w) X.A (call u us (ks.zip ws)) (EP X pins σ Q) X.xe s
theorem CallAll.mono {hot : Bool} {P : Program} {w : World} {K : PySem.W.Frag} {mg : Str → Option Value} {base : Heap} {j k : Nat} {name : Str} {np : Nat} {ks : List Str} {sp : Sp} (h : CallAll hot P w K mg base j name np ks sp) (e : j ≤ k) : CallAll hot P w K mg base k name np ks sp := by
  obtain ⟨u, a, b, c⟩ := h
  exact ⟨u, a, b, fun X h1 h2 h3 h4 h5 hr => c X h1 h2 h3 h4 h5 (hr.mono e)⟩
theorem CallAll.imp {hot : Bool} {P : Program} {w : World} {K : PySem.W.Frag} {mg : Str → Option Value} {base : Heap} {k : Nat} {name : Str} {np : Nat} {ks : List Str} {sp sp' : Sp} (h : CallAll hot P w K mg base k name np ks sp) (e : ∀ vs H Q E, sp' vs H Q E → sp vs H Q E) : CallAll hot P w K mg base k name np ks sp' := by
  obtain ⟨u, a, b, c⟩ := h
  exact ⟨u, a, b, fun X h1 h2 h3 h4 h5 hr W tk pins s σ H Q vs zs us ws I r1 r2 l1 l2 q => c X h1 h2 h3 h4 h5 hr W tk pins s σ H Q vs zs us ws I r1 r2 l1 l2 (e _ _ _ _ q)⟩
def kwOk : List Keyword → List Str → Bool
  | [], [] => true
  | ⟨some n, _, _⟩ :: r, m :: s => decide (n = m) && kwOk r s
  | _, _ => false
theorem kw_all {env : Env} {pos : Pos} : ∀ {kws : List Keyword} {ks : List Str}, kwOk kws ks = true → (backToKw pos (keywordEach kws env)).all (·.1.isSome) = true ∧ (backToKw pos (keywordEach kws env)).filterMap (·.1) = ks ∧ (backToKw pos (keywordEach kws env)).any (·.1.isNone) = false ∧ kws.length = ks.length
  | [], [], h => ⟨rfl, rfl, rfl, rfl⟩
  | [], m :: s, h => nomatch h
  | ⟨none, _, _⟩ :: r, [], h => nomatch h
  | ⟨none, _, _⟩ :: r, m :: s, h => nomatch h
  | ⟨some n, v, p⟩ :: r, [], h => nomatch h
  | ⟨some n, v, p⟩ :: r, m :: s, h => by
    have h : (decide (n = m) && kwOk r s) = true := h
    rw [Bool.and_eq_true, decide_eq_true_eq] at h
    obtain ⟨a, b, c, d⟩ := kw_all (env := env) (pos := pos) h.2
    refine ⟨?_, ?_, ?_, by simp [d]⟩
    · show (true && (backToKw pos (keywordEach r env)).all (·.1.isSome)) = true
      rw [a]; rfl
    · show n :: (backToKw pos (keywordEach r env)).filterMap (·.1) = m :: s
      rw [b, h.1]
    · show (false || (backToKw pos (keywordEach r env)).any (·.1.isNone)) = false
      rw [c]; rfl
theorem pe_callA {hot : Bool} {X : Cx} {k : Nat} {x : Str} {ks : List Str} {np : Nat} {sp : Sp} {W : WX} {es : List Expr} {kws : List Keyword} {t : TA} {p pos : Pos} (h : CallAll hot X.prog X.w X.K X.mg X.base k x np ks sp) (hr : RoomC hot k X) (tk : L2N.Takes X W) (hg : Gl X x)
    (hdb : (x == ("__debug__" : Str)) = false) (ha : PAK X es kws t) (hn : ∀ vs H Q E, sp vs H Q E → vs.length = np + ks.length) (hl : es.length = np) (hk : kwOk kws ks = true) (hs : es.all nStar = true) : PE X (.Call (.Name x p) es kws pos) (tCallU sp W t) := by
  obtain ⟨u, hm, hkp, h⟩ := h
  obtain ⟨k1, k2, k3, k4⟩ := kw_all (env := X.env) (pos := pos) hk
  refine ⟨fun pins s σ H Q I q => ?_⟩
  refine wpAny_Call_Name_kw (ld_glob I hg hm ?_ hdb)
  have hA := ha.run pos pins s σ H _ I q
  have go : ∀ us ws s2, (∃ vs zs H', Inv X pins σ H' s2 ∧ Vals vs us ∧ Vals zs ws ∧ vs.length = es.length ∧ sp (vs ++ zs) H' Q (WE W σ)) → X.K.In s2.heap ∧ wpAny (model X.prog X.w) X.A (call u us (ks.zip ws)) (EP X pins σ Q) X.xe s2 := by
    rintro us ws s2 ⟨vs, zs, H', I', r1, r2, l1, q'⟩
    have hlen := hn _ _ _ _ q'
    rw [List.length_append] at hlen
    exact ⟨I'.kIn, h X rfl rfl rfl rfl rfl hr W tk pins s2 σ H' Q vs zs us ws I' r1 r2 (by rw [l1, hl]) (by omega) q'⟩
  cases es with
  | nil =>
    refine PySem.W.callWith_KW0 (h₀ := X.base) I.ok.mod.kin hkp k1 ?_ (by rw [k3]; rfl)
    rw [k2]
    exact thn (ha.kw rfl pos pins s σ H _ I q) fun ws s2 ⟨zs, H', I', r', q'⟩ => go [] ws s2 ⟨[], zs, H', I', .nil, r', rfl, q'⟩
  | cons e r =>
    rw [List.all_cons, Bool.and_eq_true] at hs
    refine PySem.W.callWith_KW (h₀ := X.base) I.ok.mod.kin hkp k1 (thn hA fun us s1 h1 => thn h1 fun ws s2 h2 => ?_) (by rw [k3, star_one hs.1]; show ((false || (backTo pos (starEach r X.env)).any (·.1)) || false) = false; rw [star_plain hs.2]; rfl) (star_one hs.1)
    rw [k2]
    exact go us ws s2 h2
/-! ### own exceptions that are raised -/
structure XSig where
  np : Nat
  c : Nat
  n : Nat
def RaiseAll (P : Program) (w : World) (K : PySem.W.Frag) (mg : Str → Option Value) (base : Heap) (k : Nat) (name : Str) (np : Nat) (C : Addr) (sp : Sp) : Prop :=
  mg name = some (.ref C) ∧ ∀ (X : Cx), X.prog = P → X.w = w → X.K = K → X.mg = mg → X.base = base → Room k X.A → ∀ (e : Expr) (es : List Expr) (ta : TA) (p pos : Pos), es.length + 1 = np → Gl X name → (name == ("__debug__" : Str)) = false → (e :: es).all nStar = true → PA X (e :: es) ta →
    L2N.PMk X (.Call (.Name name p) (e :: es) [] pos) (tMkO C sp [] ta)
theorem RaiseAll.mono {P : Program} {w : World} {K : PySem.W.Frag} {mg : Str → Option Value} {base : Heap} {j k : Nat} {name : Str} {np : Nat} {C : Addr} {sp : Sp} (h : RaiseAll P w K mg base j name np C sp) (e : j ≤ k) : RaiseAll P w K mg base k name np C sp :=
  ⟨h.1, fun X h1 h2 h3 h4 h5 hr => h.2 X h1 h2 h3 h4 h5 (hr.mono e)⟩
end MP
set_option Elab.async false
set_option linter.all false
set_option maxRecDepth 100000
set_option maxHeartbeats 1000000
namespace MP
open PySem PyProof.Rows
open L2 hiding St
structure CC where
  N : List Str
  sc : Scope
  fn : Str → Bool
  sg : List (Str × Sig)
  gl : List (Str × Nat)
  cl : List (Str × Nat)
  xg : List (Str × XSig)
  tr : Bool
  hot : Bool
  hs : List (Str × Sig)
def bltNames : List Str := ["len", "abs", "int", "list", "tuple", "sorted", "all", "any", "isinstance", "max", "min", "range", "enumerate", "str", "bool", "reversed", "zip", "set", "iter", "super", "ValueError"]
structure Ass (Γ : GE) (C : CC) (k : Nat) (X : Cx) (W : WX) : Prop where
  N : X.N = C.N
  nd : X.N.Nodup
  sc : X.env.scope = C.sc
  K : X.K = Γ.G.K
  calm : C.hot = false → X.calm = true
  hu : X.A.units + 65 < cLine
  room : RoomC C.hot k X
  tk : L2N.Takes X W
  fn : ∀ x, C.fn x = true → X.fn x = true
  sigs : ∀ p ∈ C.sg, CallAll C.hot X.prog X.w X.K X.mg X.base k p.1 p.2.np p.2.ks (spD Γ.G (p.2.np + p.2.ks.length) (Γ.Φ.fn p.2.f))
  glb : ∀ p ∈ C.gl, ∃ u, X.mg p.1 = some u ∧ RelV (Γ.gv p.2) u
  cls : ∀ p ∈ C.cl, X.mg p.1 = some (.ref (Γ.G.cls p.2))
  hsg : ∀ p ∈ C.hs, CallAll true X.prog X.w X.K X.mg X.base k p.1 p.2.np p.2.ks (spD Γ.G (p.2.np + p.2.ks.length) (Γ.Φ.fn p.2.f))
  exs : ∀ p ∈ C.xg, C.hot = false ∧ RaiseAll X.prog X.w X.K X.mg X.base k p.1 p.2.np (Γ.G.cls p.2.c) (spX Γ.G (Γ.G.cls p.2.c) p.2.c (p.2.np + 1) (Γ.Φ.fn p.2.n))
  xfs : ∀ p ∈ Γ.xfs, XfC Γ.G.K (Γ.G.cls p.1) ∧ PySem.W.findIn Γ.G.K (.ref (Γ.G.cls p.1)) p.2 = some none
  xcs : ∀ c ∈ Γ.xcs, L2.ExcC Γ.G.K (Γ.G.cls c)
  stk : C.tr = true → X.stack = X.env :: X.outer ∧ X.env.frame = some X.env.locals ∧ C.hot = false
  exx : ∀ a c o, Γ.G.ex = some (a, c, o) → C.hot = true ∧ Γ.xc = some c ∧ ∃ (Y : Cx) (oe : Obj) (pn : List (Addr × Obj)), X = Y.suite a ((a, oe) :: pn) ∧ Zc (.ref (Γ.G.cls c)) o oe ∧ ∃ vs, oe.data = .fields vs
  blt : ∀ x ∈ bltNames, X.mg x = none
/-! ### small checks -/
def plainN (x : Str) : Bool := !(x == ("__debug__" : Str)) && !(x == ("__classdict__" : Str)) && !(x == ("__name__" : Str))
def CC.vis (C : CC) (x : Str) : Bool := decide (C.sc.names.lookup x = some .local) || decide (C.sc.names.lookup x = some .cell) || decide (C.sc.names.lookup x = some .free)
def CC.loc (C : CC) (x : Str) : Bool := decide (C.sc.names.lookup x = some .local) || (decide (C.sc.names.lookup x = some .cell) && C.fn x)
def CC.glo (C : CC) (x : Str) : Bool := decide (C.sc.names.lookup x = some .globalImplicit) && plainN x
def CC.btl (C : CC) (x : Str) : Bool := C.glo x && bltNames.contains x
/-- built-ins that may not be called while an exception is handled -/
def hotNo : List Str := ["list", "all", "any", "max", "min"]
def CC.blt (C : CC) (x : Str) : Bool := C.btl x && (!C.hot || !hotNo.contains x)
def plainT : Expr → Bool
  | .UnaryOp .Not _ _ => false
  | .BoolOp .. => false
  | .IfExp .. => false
  | .Compare .. => false
  | _ => true
def isCmp : Expr → Bool
  | .Compare .. => true
  | _ => false
def isBo : Expr → Bool
  | .BoolOp .. => true
  | _ => false
/-- what may stand ahead of a dot -/
def abB : Expr → Bool
  | .Call _ [] [] _ => false
  | _ => true
theorem ab_ok {o : Expr} {f : Str} {env : Env} {w : Sem Value} (h : abB o = true) : attributeBase o f env w = w := by
  cases o with
  | Call g as ks p => cases as <;> cases ks <;> first | rfl | (cases g <;> rfl) | cases h
  | _ => rfl
def ixB : Expr → Bool
  | .Slice .. => false
  | _ => true
theorem ix_ok {b : Expr} (h : ixB b = true) : PlainIx b := fun o i => by
  cases b <;> first | rfl | cases h
theorem plain_is {e : Expr} {env : Env} (h : plainT e = true) : ∀ whole, isTrue e env whole = (do let v ← whole; standAt e.pos; holding [v] (truthy v)) := fun whole => by
  cases e with
  | UnaryOp op x p => cases op <;> first | rfl | cases h
  | BoolOp op x p => cases h
  | IfExp a b c p => cases h
  | Compare a b c p => cases h
  | _ => rfl
section
variable {Γ : GE} {C : CC} {k : Nat} {X : Cx} {W : WX}
theorem plainN_ok {x : Str} (h : plainN x = true) : (x == ("__debug__" : Str)) = false ∧ (x == ("__classdict__" : Str)) = false ∧ x ≠ "__name__" := by
  unfold plainN at h
  simp only [Bool.and_eq_true, Bool.not_eq_true'] at h
  exact ⟨h.1.1, h.1.2, fun e => by rw [e] at h; exact absurd h.2 (by simp)⟩
theorem Ass.vis (A : Ass Γ C k X W) {x : Str} (h : C.vis x = true) : Vis X.env.scope x := by
  unfold CC.vis at h
  simp only [Bool.or_eq_true, decide_eq_true_eq] at h
  unfold Vis
  rw [A.sc]
  rcases h with (h | h) | h
  · exact .inl h
  · exact .inr (.inl h)
  · exact .inr (.inr h)
theorem Ass.loc (A : Ass Γ C k X W) {x : Str} (h : C.loc x = true) : L2.Loc X.env.scope x ∧ (X.fn x = true ∨ X.env.scope.names.lookup x = some .local) := by
  unfold CC.loc at h
  simp only [Bool.or_eq_true, Bool.and_eq_true, decide_eq_true_eq] at h
  unfold L2.Loc
  rw [A.sc]
  rcases h with h | ⟨h, h2⟩
  · exact ⟨.inl h, .inr h⟩
  · exact ⟨.inr h, .inl (A.fn x h2)⟩
theorem Ass.glo (A : Ass Γ C k X W) {x : Str} (h : C.glo x = true) : Gl X x ∧ (x == ("__debug__" : Str)) = false ∧ x ≠ "__name__" := by
  unfold CC.glo at h
  rw [Bool.and_eq_true, decide_eq_true_eq] at h
  obtain ⟨a, b, c⟩ := plainN_ok h.2
  refine ⟨?_, a, c⟩
  unfold Gl Env.kindOf
  rw [A.sc]
  exact h.1
theorem Ass.btln (A : Ass Γ C k X W) {x : Str} (h : C.btl x = true) : Gl X x ∧ X.mg x = none ∧ x ≠ "__name__" ∧ (x == ("__debug__" : Str)) = false := by
  unfold CC.btl at h
  rw [Bool.and_eq_true] at h
  obtain ⟨a, b, c⟩ := A.glo h.1
  exact ⟨a, A.blt x (by simpa using h.2), c, b⟩
theorem Ass.bltn (A : Ass Γ C k X W) {x : Str} (h : C.blt x = true) : Gl X x ∧ X.mg x = none ∧ x ≠ "__name__" ∧ (x == ("__debug__" : Str)) = false := by
  unfold CC.blt at h
  rw [Bool.and_eq_true] at h
  exact A.btln h.1
theorem Ass.calmB (A : Ass Γ C k X W) {x : Str} (h : C.blt x = true) (hx : hotNo.contains x = true) : X.calm = true := A.calm (by
  unfold CC.blt at h
  rw [Bool.and_eq_true, hx] at h
  simpa using h.2)
theorem pe_val {x : Expr} {te : TE} (h : PE X x te) (hp : plainT x = true) : PT X x (tB te) := pt_val h (plain_is hp)
end
inductive Inp where
  | e (x : Expr) | t (x : Expr) | a (xs : List Expr) | k (xs : List Expr) (ks : List Keyword)
def Inp.ev (f : Expr → Bool) : Inp → Bool
  | .e x => f x
  | .t x => plainT x && f x
  | _ => false
def Inp.cv (f : Expr → Bool) : Inp → Bool
  | .e x => f x
  | .t x => (plainT x || isCmp x) && f x
  | _ => false
def litC : D → Const → Bool
  | .int i, .int j => decide (i = j)
  | .str x, .str y => decide (x = y)
  | .bl a, .bool b => decide (a = b)
  | .non, .none => true
  | _, _ => false
def fn1 : Op1 → Option Str
  | .len => some "len"
  | .abs => some "abs"
  | .int => some "int"
  | .list => some "list"
  | .tuple => some "tuple"
  | .sorted => some "sorted"
  | .all => some "all"
  | .any => some "any"
  | _ => none
def bin2 : Op2 → Option Operator
  | .add => some .Add
  | .sub => some .Sub
  | .mul => some .Mult
  | .fdiv => some .FloorDiv
  | .mod => some .Mod
  | .pow => some .Pow
  | _ => none
def cmp2 : Op2 → Option CmpOp
  | .lt => some .Lt
  | .le => some .LtE
  | .gt => some .Gt
  | .ge => some .GtE
  | .eq => some .Eq
  | .ne => some .NotEq
  | .isin => some .In
  | .nin => some .NotIn
  | _ => none
def fn2 : Op2 → Option Str
  | .max => some "max"
  | .min => some "min"
  | _ => none
def kindN (C : CC) (n : Str) : Kind → Bool
  | .int => decide (n = "int") && C.btl n
  | .bool => decide (n = "bool") && C.btl n
  | .str => decide (n = "str") && C.btl n
  | .list => decide (n = "list") && C.btl n
  | .tup => decide (n = "tuple") && C.btl n
  | .cls c => C.glo n && decide ((n, c) ∈ C.cl)
def CC.blk (C : CC) (scope : Scope) : CC := { C with sc := relS scope C.sc, fn := fun x => scope.names.lookup x == some .cell, tr := false }
def ownN (C : CC) (own : List Nat) : List (Str × Nat) := own.map fun i => (C.N.getD i "", i)
def blkB (C : CC) (scope : Scope) (own : List Nat) : Bool :=
  decide (scope.kind = .function) && (scope.names.all fun y => decide (scope.names.lookup y.1 = some y.2)) && ((ownN C own).all fun p => decide (C.N[p.2]? = some p.1)) &&
  (scope.names.all fun y => !decide (y.2 = .free) || decide (C.sc.names.lookup y.1 = some .cell) || decide (C.sc.names.lookup y.1 = some .free)) &&
  (scope.names.all fun y => !(decide (y.2 = .local) || decide (y.2 = .cell)) || ((ownN C own).map (·.1)).contains y.1 || !C.N.contains y.1) && !C.hot
theorem blk_hot {C : CC} {scope : Scope} {own : List Nat} (h : blkB C scope own = true) : C.hot = false := by
  unfold blkB at h
  rw [Bool.and_eq_true] at h
  simpa using h.2
theorem blk_ok {C : CC} {scope : Scope} {own : List Nat} (h : blkB C scope own = true) : BlkOk C.N C.sc scope (ownN C own) := by
  unfold blkB at h
  simp only [Bool.and_eq_true, decide_eq_true_eq, List.all_eq_true, Bool.or_eq_true, Bool.not_eq_true', decide_eq_false_iff_not] at h
  obtain ⟨⟨⟨⟨⟨h1, h2⟩, h3⟩, h4⟩, h5⟩, _⟩ := h
  refine ⟨h1, h2, h3, fun y hy e => ?_, fun y hy e => ?_⟩
  · rcases h4 y hy with (z | z) | z
    · exact absurd e z
    · exact .inl z
    · exact .inr z
  · rcases h5 y hy with (z | z) | z
    · rcases e with e | e <;> simp [e] at z
    · exact .inl (by simpa using z)
    · exact .inr (by simpa using z)
theorem own_map (C : CC) (own : List Nat) : (ownN C own).map (·.2) = own := by
  unfold ownN
  rw [List.map_map]
  show own.map (fun i => i) = own
  simp
def d2 : Expr → Option (Expr × Expr)
  | .Tuple [x, y] _ _ => some (x, y)
  | _ => none
theorem d2_ok {e x y : Expr} (h : d2 e = some (x, y)) : ∃ k p, e = .Tuple [x, y] k p := by
  unfold d2 at h
  split at h <;> cases h
  exact ⟨_, _, rfl⟩
def d3 : Expr → Option (Expr × Expr × Expr)
  | .Tuple [x, y, z] _ _ => some (x, y, z)
  | _ => none
theorem d3_ok {e x y z : Expr} (h : d3 e = some (x, y, z)) : ∃ k p, e = .Tuple [x, y, z] k p := by
  unfold d3 at h
  split at h <;> cases h
  exact ⟨_, _, rfl⟩
def dN : Expr → Option Str
  | .Name x _ => some x
  | _ => none
theorem dN_ok {e : Expr} {x : Str} (h : dN e = some x) : ∃ p, e = .Name x p := by
  unfold dN at h
  split at h <;> cases h
  exact ⟨_, rfl⟩
/-- a target's text -/
def chkG (C : CC) : Tg → Expr → Bool
  | .n i, e => match dN e with
    | some x => decide (C.N[i]? = some x) && C.loc x
    | none => false
  | .p a b, e => match d2 e with
    | some (x, y) => chkG C a x && chkG C b y && nStar x && nStar y && !C.hot
    | none => false
  | .t a b c, e => match d3 e with
    | some (x, y, z) => chkG C a x && chkG C b y && chkG C c z && nStar x && nStar y && nStar z && !C.hot
    | none => false
theorem asg_each {env : Env} {e : Expr} {es : List Expr} (h : nStar e = true) : assignEach (e :: es) env = (false, assign e env) :: assignEach es env := by
  cases e <;> first | rfl | cases h
theorem chkG_ok {Γ : GE} {C : CC} {k : Nat} {X : Cx} {W : WX} (A : Ass Γ C k X W) : ∀ (t : Tg) (e : Expr), chkG C t e = true → PG X e (tgR Γ.G.K t) := fun t => by
  induction t with
  | n i =>
    intro e h
    unfold chkG at h
    cases q : dN e with
    | none => rw [q] at h; cases h
    | some x =>
      rw [q] at h
      obtain ⟨p, rfl⟩ := dN_ok q
      have h : (decide (C.N[i]? = some x) && C.loc x) = true := h
      rw [Bool.and_eq_true, decide_eq_true_eq] at h
      obtain ⟨a, b⟩ := A.loc h.2
      exact pg_name A.nd (by rw [A.N]; exact h.1) a b
  | p a b iha ihb =>
    intro e h
    unfold chkG at h
    cases q : d2 e with
    | none => rw [q] at h; cases h
    | some w =>
      obtain ⟨x, y⟩ := w
      rw [q] at h
      obtain ⟨k', p, rfl⟩ := d2_ok q
      have h : (chkG C a x && chkG C b y && nStar x && nStar y && !C.hot) = true := h
      simp only [Bool.and_eq_true, Bool.not_eq_true'] at h
      obtain ⟨⟨⟨⟨h1, h2⟩, h3⟩, h4⟩, hh⟩ := h
      have q := pg_tup (k := k') (pos := p) (n := 2) (A.calm hh) (pgs_cons (iha x h1) (pgs_cons (ihb y h2) pgs_nil (by rw [asg_each h4]; rfl)) (by rw [asg_each h3]; rfl)) (by rw [asg_each h3, asg_each h4]; rfl) (by rw [asg_each h3, asg_each h4]; rfl)
      rw [A.K] at q
      exact q
  | t a b c iha ihb ihc =>
    intro e h
    unfold chkG at h
    cases q : d3 e with
    | none => rw [q] at h; cases h
    | some w =>
      obtain ⟨x, y, z⟩ := w
      rw [q] at h
      obtain ⟨k', p, rfl⟩ := d3_ok q
      have h : (chkG C a x && chkG C b y && chkG C c z && nStar x && nStar y && nStar z && !C.hot) = true := h
      simp only [Bool.and_eq_true, Bool.not_eq_true'] at h
      obtain ⟨⟨⟨⟨⟨⟨h1, h2⟩, h3⟩, h4⟩, h5⟩, h6⟩, hh⟩ := h
      have q := pg_tup (k := k') (pos := p) (n := 3) (A.calm hh) (pgs_cons (iha x h1) (pgs_cons (ihb y h2) (pgs_cons (ihc z h3) pgs_nil (by rw [asg_each h6]; rfl)) (by rw [asg_each h5]; rfl)) (by rw [asg_each h4]; rfl)) (by rw [asg_each h4, asg_each h5, asg_each h6]; rfl) (by rw [asg_each h4, asg_each h5, asg_each h6]; rfl)
      rw [A.K] at q
      exact q
/-- the context of a block -/
theorem Ass.blk {Γ : GE} {C : CC} {k : Nat} {X : Cx} {W : WX} (A : Ass Γ C k X W) (hh : C.hot = false) (scope : Scope) (s : Shared) (H : Hp) (D : Addr) (cl : List (Str × Addr)) (fp : List Addr) : Ass Γ (C.blk scope) k (X.blk s H scope (compEnvC scope cl D X.env) fp) W0 where
  N := A.N
  nd := A.nd
  sc := by show relS scope X.env.scope = _; rw [A.sc]; rfl
  K := A.K
  calm := A.calm
  hsg := A.hsg
  hu := A.hu
  room := ⟨A.room.h, A.room.c, fun z => by rw [show (C.blk scope).hot = C.hot from rfl, hh] at z; cases z⟩
  tk := fun u s' h => by
    obtain ⟨a, B, sI, pins, σ, H, cls, d, _, _, _, _, _, _, _, _, w⟩ := h
    exact w.elim
  fn := fun x h => h
  sigs := A.sigs
  exs := A.exs
  xfs := A.xfs
  xcs := A.xcs
  stk := fun h => nomatch h
  exx := fun a c o h => by
    have z := (A.exx a c o h).1
    rw [hh] at z
    cases z
  glb := A.glb
  cls := A.cls
  blt := A.blt
end MP
set_option Elab.async false
set_option linter.all false
set_option maxRecDepth 100000
set_option maxHeartbeats 1000000
namespace MP
open PySem PyProof.Rows
open L2 hiding St
def dK : Expr → Option Const
  | .Constant c _ _ => some c
  | _ => none
theorem dK_ok {e : Expr} {c : Const} (h : dK e = some c) : ∃ k p, e = .Constant c k p := by
  unfold dK at h
  split at h <;> cases h
  exact ⟨_, _, rfl⟩
def dUn : Expr → Option (UnaryOp × Expr)
  | .UnaryOp o x _ => some (o, x)
  | _ => none
theorem dUn_ok {e x : Expr} {o : UnaryOp} (h : dUn e = some (o, x)) : ∃ p, e = .UnaryOp o x p := by
  unfold dUn at h
  split at h <;> cases h
  exact ⟨_, rfl⟩
def dCall : Expr → Option (Str × List Expr × List Keyword)
  | .Call (.Name f _) es ks _ => some (f, es, ks)
  | _ => none
theorem dCall_ok {e : Expr} {f : Str} {es : List Expr} {ks : List Keyword} (h : dCall e = some (f, es, ks)) : ∃ p q, e = .Call (.Name f p) es ks q := by
  unfold dCall at h
  split at h <;> cases h
  exact ⟨_, _, rfl⟩
def dMe : Expr → Option (Expr × Str × List Expr)
  | .Call (.Attribute o m ap) es [] cp => if (ap.endLine == cp.line) = true then some (o, m, es) else none
  | _ => none
theorem dMe_ok {e o : Expr} {m : Str} {es : List Expr} (h : dMe e = some (o, m, es)) : ∃ p q, e = .Call (.Attribute o m p) es [] q ∧ (p.endLine == q.line) = true := by
  unfold dMe at h
  split at h
  · split at h <;> cases h
    rename_i hl
    exact ⟨_, _, rfl, hl⟩
  · cases h
def dBin : Expr → Option (Operator × Expr × Expr)
  | .BinOp x o y _ => some (o, x, y)
  | _ => none
theorem dBin_ok {e x y : Expr} {o : Operator} (h : dBin e = some (o, x, y)) : ∃ p, e = .BinOp x o y p := by
  unfold dBin at h
  split at h <;> cases h
  exact ⟨_, rfl⟩
def dCmp : Expr → Option (Expr × List CmpOp × List Expr)
  | .Compare x os ys _ => some (x, os, ys)
  | _ => none
theorem dCmp_ok {e x : Expr} {os : List CmpOp} {ys : List Expr} (h : dCmp e = some (x, os, ys)) : ∃ p, e = .Compare x os ys p := by
  unfold dCmp at h
  split at h <;> cases h
  exact ⟨_, rfl⟩
def dSub : Expr → Option (Expr × Expr)
  | .Subscript x y _ => some (x, y)
  | _ => none
theorem dSub_ok {e x y : Expr} (h : dSub e = some (x, y)) : ∃ p, e = .Subscript x y p := by
  unfold dSub at h
  split at h <;> cases h
  exact ⟨_, rfl⟩
def dSl : Expr → Option (Expr × Option Expr × Option Expr)
  | .Subscript x (.Slice lo hi none _) _ => some (x, lo, hi)
  | _ => none
theorem dSl_ok {e x : Expr} {lo hi : Option Expr} (h : dSl e = some (x, lo, hi)) : ∃ p q, e = .Subscript x (.Slice lo hi none p) q := by
  unfold dSl at h
  split at h <;> cases h
  exact ⟨_, _, rfl⟩
def dBo : Expr → Option (BoolOp × List Expr × Pos)
  | .BoolOp o xs p => some (o, xs, p)
  | _ => none
theorem dBo_ok {e : Expr} {o : BoolOp} {xs : List Expr} {p : Pos} (h : dBo e = some (o, xs, p)) : e = .BoolOp o xs p := by
  unfold dBo at h
  split at h <;> cases h
  rfl
def dIf : Expr → Option (Expr × Expr × Expr)
  | .IfExp c a b _ => some (c, a, b)
  | _ => none
theorem dIf_ok {e c a b : Expr} (h : dIf e = some (c, a, b)) : ∃ p, e = .IfExp c a b p := by
  unfold dIf at h
  split at h <;> cases h
  exact ⟨_, rfl⟩
def dL : Expr → Option (List Expr)
  | .List es _ => some es
  | _ => none
theorem dL_ok {e : Expr} {es : List Expr} (h : dL e = some es) : ∃ p, e = .List es p := by
  unfold dL at h
  split at h <;> cases h
  exact ⟨_, rfl⟩
def dT : Expr → Option (List Expr)
  | .Tuple es _ _ => some es
  | _ => none
theorem dT_ok {e : Expr} {es : List Expr} (h : dT e = some es) : ∃ k p, e = .Tuple es k p := by
  unfold dT at h
  split at h <;> cases h
  exact ⟨_, _, rfl⟩
def dAt : Expr → Option (Expr × Str)
  | .Attribute x f _ => some (x, f)
  | _ => none
theorem dAt_ok {e x : Expr} {f : Str} (h : dAt e = some (x, f)) : ∃ p, e = .Attribute x f p := by
  unfold dAt at h
  split at h <;> cases h
  exact ⟨_, rfl⟩
def dRv : Expr → Option Expr
  | .Subscript x (.Slice none none (some (.UnaryOp .USub (.Constant (.int 1) _ _) _)) _) _ => some x
  | _ => none
theorem dRv_ok {e x : Expr} (h : dRv e = some x) : ∃ k p1 p2 p3 pos, e = .Subscript x (.Slice none none (some (.UnaryOp .USub (.Constant (.int 1) k p1) p2)) p3) pos := by
  unfold dRv at h
  split at h <;> cases h
  exact ⟨_, _, _, _, _, rfl⟩
def dLr : Expr → Option (Str × Str × List Expr)
  | .Call (.Name f _) [.Call (.Name g _) es [] _] [] _ => some (f, g, es)
  | _ => none
theorem dLr_ok {e : Expr} {f g : Str} {es : List Expr} (h : dLr e = some (f, g, es)) : ∃ p q r s, e = .Call (.Name f p) [.Call (.Name g q) es [] r] [] s := by
  unfold dLr at h
  split at h <;> cases h
  exact ⟨_, _, _, _, rfl⟩
def isED : Expr → Bool
  | .Dict [] [] _ => true
  | _ => false
theorem isED_ok {e : Expr} (h : isED e = true) : ∃ p, e = .Dict [] [] p := by
  unfold isED at h
  split at h
  · exact ⟨_, rfl⟩
  · cases h
structure LCp where
  elt : Expr
  tg : Expr
  iter : Expr
  ifs : List Expr
  sc : Scope
def dLC : Expr → Option LCp
  | .ListComp elt [⟨tg, iter, ifs, a⟩] sc _ => if a = 0 then some ⟨elt, tg, iter, ifs, sc⟩ else none
  | _ => none
theorem dLC_ok {e : Expr} {l : LCp} (h : dLC e = some l) : ∃ p, e = .ListComp l.elt [⟨l.tg, l.iter, l.ifs, 0⟩] l.sc p := by
  unfold dLC at h
  split at h
  · split at h <;> cases h
    rename_i ha
    subst ha
    exact ⟨_, rfl⟩
  · cases h
def dD1 : Expr → Option (Expr × Expr)
  | .Dict [some k] [v] _ => some (k, v)
  | _ => none
theorem dD1_ok {e k v : Expr} (h : dD1 e = some (k, v)) : ∃ p, e = .Dict [some k] [v] p := by
  unfold dD1 at h
  split at h <;> cases h
  exact ⟨_, rfl⟩
def dDC : Expr → Option (LCp × Expr)
  | .DictComp kx vx [⟨tg, iter, ifs, a⟩] sc _ => if a = 0 then some (⟨vx, tg, iter, ifs, sc⟩, kx) else none
  | _ => none
theorem dDC_ok {e kx : Expr} {l : LCp} (h : dDC e = some (l, kx)) : ∃ p, e = .DictComp kx l.elt [⟨l.tg, l.iter, l.ifs, 0⟩] l.sc p := by
  unfold dDC at h
  split at h
  · split at h <;> cases h
    rename_i ha
    subst ha
    exact ⟨_, rfl⟩
  · cases h
def notSet : Expr → Bool
  | .Set .. => false
  | _ => true
theorem notSet_ok {e : Expr} {env : Env} (h : notSet e = true) : ∀ x, foldedSetIterable e env x = pure x := fun x => by
  cases e <;> first | rfl | cases h
/-- the two parts of x op y op .. -/
def dBo2 (o : BoolOp) (e : Expr) : Option (Expr × Expr) := match dBo e with
  | some (o', xs, p) => if o' = o then (match xs with
    | [x, y] => some (x, y)
    | x :: y :: z :: r => some (x, .BoolOp o (y :: z :: r) p)
    | _ => none) else none
  | none => none
theorem dBo2_ok {o : BoolOp} {e x y : Expr} (h : dBo2 o e = some (x, y)) : ∃ p, e = .BoolOp o [x, y] p ∨ ∃ y1 y2 r, y = .BoolOp o (y1 :: y2 :: r) p ∧ e = .BoolOp o (x :: y1 :: y2 :: r) p := by
  unfold dBo2 at h
  split at h
  · rename_i o' xs p e1
    have e1 := dBo_ok e1
    split at h
    · rename_i e2
      subst e2
      split at h <;> cases h
      · exact ⟨p, .inl e1⟩
      · exact ⟨p, .inr ⟨_, _, _, rfl, e1⟩⟩
    · cases h
  · cases h
/-- an iterable's text -/
def srcE (k : IK) (C : CC) (iter tg : Expr) : Option (List Expr) := match k with
  | .seq => if notSet iter && nStar iter then some [iter] else none
  | .str => if notSet iter && nStar iter then some [iter] else none
  | .enum => match dCall iter, dT tg with
    | some (f, [x], []), some _ => if decide (f = "enumerate") && C.blt f && nStar x then some [x] else none
    | _, _ => none
  | .rng1 => match dCall iter with
    | some (f, [x], []) => if decide (f = "range") && C.blt f && nStar x then some [x] else none
    | _ => none
  | .rng2 => match dCall iter with
    | some (f, [x, y], []) => if decide (f = "range") && C.blt f && nStar x && nStar y then some [x, y] else none
    | _ => none
  | .zip => none
  | .revr => match dLr iter with
    | some (f, g, [x]) => if decide (f = "reversed") && decide (g = "range") && C.blt f && C.blt g && nStar x && notSet iter && nStar iter then some [x] else none
    | _ => none
def partC (n : Bool) (f : Expr → Bool) : Option Expr → Bool
  | none => n
  | some z => !n && f z
def ifsC (n : Bool) (f : Expr → Bool) : List Expr → Bool
  | [] => n
  | [u] => !n && f u
  | _ => false
def chk : DE → CC → Inp → Bool
  | .lit d, C, i => i.ev fun x => match dK x with
    | some c => litC d c
    | none => false
  | .gl n, C, i => i.ev fun x => match dN x with
    | some nm => C.glo nm && decide ((nm, n) ∈ C.gl)
    | none => false
  | .pk j, C, i => i.ev fun x => match dN x with
    | some nm => decide (C.N[j]? = some nm) && C.vis nm && plainN nm
    | none => false
  | .mv j, C, i => i.ev fun x => match dN x with
    | some nm => decide (C.N[j]? = some nm) && C.vis nm && plainN nm
    | none => false
  | .o1 o a, C, i => match o with
    | .not => match i with
      | .e x => match dUn x with
        | some (.Not, y) => chk a C (.e y)
        | _ => false
      | .t x => match dUn x with
        | some (.Not, y) => chk a C (.t y)
        | _ => false
      | _ => false
    | .neg => i.ev fun x => match dUn x with
      | some (.USub, y) => chk a C (.e y)
      | _ => false
    | .isN => i.cv fun x => match dCmp x with
      | some (y, [.Is], [c]) => decide (dK c = some .none) && chk a C (.e y)
      | _ => false
    | .notN => i.cv fun x => match dCmp x with
      | some (y, [.IsNot], [c]) => decide (dK c = some .none) && chk a C (.e y)
      | _ => false
    | .isB b => i.cv fun x => match dCmp x with
      | some (y, [.Is], [c]) => decide (dK c = some (.bool b)) && chk a C (.e y)
      | _ => false
    | .notB b => i.cv fun x => match dCmp x with
      | some (y, [.IsNot], [c]) => decide (dK c = some (.bool b)) && chk a C (.e y)
      | _ => false
    | .isI k => i.ev fun x => match dCall x with
      | some (f, [y, c], []) => decide (f = "isinstance") && C.blt f && nStar y && (match dN c with | some n => kindN C n k | none => false) && chk a C (.e y)
      | _ => false
    | .rev => i.ev fun x => match dRv x with
      | some y => chk a C (.e y)
      | none => false
    | .lrg => i.ev fun x => match dLr x with
      | some (f, g, [y]) => decide (f = "list") && decide (g = "range") && C.blt f && C.blt g && nStar y && chk a C (.e y)
      | _ => false
    | o => i.ev fun x => match dCall x with
      | some (f, [y], []) => decide (fn1 o = some f) && C.blt f && nStar y && chk a C (.e y)
      | _ => false
  | .o2 o a b, C, i => i.cv fun x => match bin2 o, cmp2 o, fn2 o with
    | some op, _, _ => match dBin x with
      | some (p, y, z) => decide (op = p) && chk a C (.e y) && chk b C (.e z)
      | none => false
    | _, some op, _ => match dCmp x with
      | some (y, [p], [z]) => decide (op = p) && !behindInMarks p z && chk a C (.e y) && chk b C (.e z)
      | _ => false
    | _, _, some f => match dCall x with
      | some (g, [y, z], []) => decide (f = g) && C.blt g && nStar y && nStar z && chk a C (.e y) && chk b C (.e z)
      | _ => false
    | _, _, _ => match o with
      | .ix => (match dSub x with
        | some (y, z) => ixB z && chk a C (.e y) && chk b C (.e z)
        | none => false)
      | .lrg2 => (match dLr x with
        | some (f, g, [y, z]) => decide (f = "list") && decide (g = "range") && C.blt f && C.blt g && nStar y && nStar z && chk a C (.e y) && chk b C (.e z)
        | _ => false)
      | _ => false
  | .mt o a b, C, i => i.ev fun x => match dMe x with
    | some (y, m, [z]) => abB y && nStar z && decide ((o = .index ∧ m = "index") ∨ (o = .join ∧ m = "join")) && chk a C (.e y) && chk b C (.e z)
    | _ => false
  | .o3 o a b c, C, i => i.ev fun x => match dMe x with
    | some (y, m, [z, w]) => abB y && nStar z && nStar w && decide (m = "get") && chk a C (.e y) && chk b C (.e z) && chk c C (.e w)
    | _ => false
  | .ch2 o p a b c, C, i => i.cv fun x => match dCmp x with
    | some (y, [o', p'], [z, w]) => (cmpR o && cmpR p) && decide (cmp2 o = some o') && decide (cmp2 p = some p') && !lastMarks [o', p'] [z, w] && chk a C (.e y) && chk b C (.e z) && chk c C (.e w)
    | _ => false
  | .ch3 o p q a b c d, C, i => i.cv fun x => match dCmp x with
    | some (y, [o', p', q'], [z, w, v]) => (cmpR o && cmpR p && cmpR q) && decide (cmp2 o = some o') && decide (cmp2 p = some p') && decide (cmp2 q = some q') && !lastMarks [o', p', q'] [z, w, v] && chk a C (.e y) && chk b C (.e z) && chk c C (.e w) && chk d C (.e v)
    | _ => false
  | .sl a lo hi, C, i => i.ev fun x => match dSl x with
    | some (y, l, h) => chk a C (.e y) && partC lo.noPart (fun z => chk lo C (.e z)) l && partC hi.noPart (fun z => chk hi C (.e z)) h
    | none => false
  | .and a b, C, i => match i with
    | .e x => match dBo2 .And x with
      | some (y, z) => chk a C (.e y) && chk b C (.e z)
      | none => false
    | .t x => match dBo2 .And x with
      | some (y, z) => chk a C (.t y) && chk b C (.t z)
      | none => false
    | _ => false
  | .or a b, C, i => match i with
    | .e x => match dBo2 .Or x with
      | some (y, z) => chk a C (.e y) && chk b C (.e z)
      | none => false
    | .t x => match dBo2 .Or x with
      | some (y, z) => chk a C (.t y) && chk b C (.t z)
      | none => false
    | _ => false
  | .ite c a b, C, i => match i with
    | .e x => match dIf x with
      | some (u, y, z) => chk c C (.t u) && chk a C (.e y) && chk b C (.e z)
      | none => false
    | _ => false
  | .edict t, C, i => i.ev isED
  | .nil, C, i => match i with
    | .a [] => true
    | .k [] [] => true
    | _ => false
  | .cons a r, C, i => match i with
    | .a (x :: xs) => nStar x && chk a C (.e x) && chk r C (.a xs)
    | .k (x :: xs) ks => nStar x && chk a C (.e x) && chk r C (.k xs ks)
    | .k [] (⟨_, x, _⟩ :: ks) => chk a C (.e x) && chk r C (.k [] ks)
    | _ => false
  | .lst as, C, i => i.ev fun x => match dL x with
    | some es => chk as C (.a es)
    | none => false
  | .tup as, C, i => i.ev fun x => match dT x with
    | some es => chk as C (.a es)
    | none => false
  | .call f as, C, i => i.ev fun x => match dCall x with
    | some (g, es, ks) => match C.sg.find? fun p => decide (p.2.f = f) with
      | some (h, s) => decide (h = g) && decide (es.length = s.np) && kwOk ks s.ks && C.glo g && es.all nStar && decide (as.cnt = s.np + s.ks.length) && chk as C (.k es ks)
      | none => false
    | none => false
  | .fld a f, C, i => i.ev fun x => match dAt x with
    | some (y, g) => decide (f = g) && abB y && chk a C (.e y)
    | none => false
  | .comp k src tg own c b, C, i => i.ev fun x => match dLC x with
    | some l => match srcE k C l.iter l.tg with
      | some es => chk src C (.a es) && blkB C l.sc own && chkG (C.blk l.sc) tg l.tg && notSet l.iter && ifsC c.noIf (fun u => chk c (C.blk l.sc) (.t u)) l.ifs && chk b (C.blk l.sc) (.e l.elt)
      | none => false
    | none => false
  | .xfld j f, C, i => i.ev fun x => match dAt x with
    | some (y, g) => decide (f = g) && abB y && (match dN y with
      | some nm => decide (C.N[j]? = some nm) && C.vis nm && plainN nm
      | none => false)
    | none => false
  | .xis j k, C, i => i.ev fun x => match dCall x with
    | some (f, [y, c], []) => decide (f = "isinstance") && C.btl f && nStar y && nStar c && (match dN c with | some n => C.glo n && decide ((n, k) ∈ C.cl) | none => false) && (match dN y with
      | some nm => decide (C.N[j]? = some nm) && C.vis nm && plainN nm
      | none => false)
    | _ => false
  | .xisV j, C, i => i.ev fun x => match dCall x with
    | some (f, [y, c], []) => decide (f = "isinstance") && C.btl f && nStar y && nStar c && (match dN c with | some n => decide (n = "ValueError") && C.btl n | none => false) && (match dN y with
      | some nm => decide (C.N[j]? = some nm) && C.vis nm && plainN nm
      | none => false)
    | _ => false
  | .fz a, C, i => i.ev fun x => chk a C (.e x)
  | .dict1 a b, C, i => i.ev fun x => match dD1 x with
    | some (y, z) => chk a C (.e y) && chk b C (.e z)
    | none => false
  | .dcomp k src tg own c a b, C, i => i.ev fun x => match dDC x with
    | some w => (match srcE k C w.1.iter w.1.tg with
      | some es => chk src C (.a es) && blkB C w.1.sc own && chkG (C.blk w.1.sc) tg w.1.tg && notSet w.1.iter && ifsC c.noIf (fun u => chk c (C.blk w.1.sc) (.t u)) w.1.ifs && chk b (C.blk w.1.sc) (.e w.1.elt)
      | none => false) && chk a (C.blk w.1.sc) (.e w.2)
    | none => false
end MP
set_option Elab.async false
set_option linter.all false
set_option maxRecDepth 100000
set_option maxHeartbeats 1000000
namespace MP
open PySem PyProof.Rows
open L2 hiding St
structure CO (Γ : GE) (d : DE) (C : CC) (X : Cx) (W : WX) : Prop where
  e : ∀ x, chk d C (.e x) = true → PE X x (rd Γ d W).e
  t : ∀ x, chk d C (.t x) = true → PT X x (rd Γ d W).t ∧ (isBo x = true → PW X x (rd Γ d W).t)
  a : ∀ xs, chk d C (.a xs) = true → PA X xs (rd Γ d W).a
  k : ∀ xs ks, chk d C (.k xs ks) = true → PAK X xs ks (rd Γ d W).a ∧ (xs = [] → PK X ks (rd Γ d W).a)
  h : ∀ a x, d = .cons a .nil → chk d C (.a [x]) = true → PE X x (rd Γ a W).e
section
variable {Γ : GE} {C : CC} {X : Cx} {W : WX} {d : DE} {k : Nat}
theorem plain_nobo {x : Expr} (h : plainT x = true) : isBo x = false := by
  cases x <;> first | rfl | cases h
theorem cmp_nobo {x : Expr} (h : isCmp x = true) : isBo x = false := by
  cases x <;> first | rfl | cases h
theorem CO.ev {f : Expr → Bool} {te : TE} (hd : ∀ i, chk d C i = Inp.ev f i) (hr : rd Γ d W = .of te) (h : ∀ x, f x = true → PE X x te) : CO Γ d C X W := by
  refine ⟨fun x hx => ?_, fun x hx => ?_, fun xs hx => ?_, fun xs ks hx => ?_, fun a x e hx => ?_⟩
  · rw [hd] at hx
    rw [hr]
    exact h x hx
  · rw [hd] at hx
    have hx : (plainT x && f x) = true := hx
    rw [Bool.and_eq_true] at hx
    rw [hr]
    exact ⟨pe_val (h x hx.2) hx.1, fun hb => nomatch (plain_nobo hx.1).symm.trans hb⟩
  · rw [hd] at hx; cases hx
  · rw [hd] at hx; cases hx
  · rw [hd] at hx; cases hx
theorem CO.cv {f : Expr → Bool} {te : TE} (hd : ∀ i, chk d C i = Inp.cv f i) (hr : rd Γ d W = .of te) (h : ∀ x, f x = true → PE X x te) (h2 : ∀ x, isCmp x = true → f x = true → PT X x (tB te)) : CO Γ d C X W := by
  refine ⟨fun x hx => ?_, fun x hx => ?_, fun xs hx => ?_, fun xs ks hx => ?_, fun a x e hx => ?_⟩
  · rw [hd] at hx
    rw [hr]
    exact h x hx
  · rw [hd] at hx
    have hx : ((plainT x || isCmp x) && f x) = true := hx
    rw [Bool.and_eq_true, Bool.or_eq_true] at hx
    rw [hr]
    refine ⟨?_, fun hb => nomatch (hx.1.elim plain_nobo cmp_nobo).symm.trans hb⟩
    rcases hx.1 with hp | hp
    · exact pe_val (h x hx.2) hp
    · exact h2 x hp hx.2
  · rw [hd] at hx; cases hx
  · rw [hd] at hx; cases hx
  · rw [hd] at hx; cases hx
theorem of_name (A : Ass Γ C k X W) {j : Nat} {x : Expr} (hx : (match dN x with
    | some nm => decide (C.N[j]? = some nm) && C.vis nm && plainN nm
    | none => false) = true) : PE X x (tVar j) := by
  cases q : dN x with
  | none => rw [q] at hx; cases hx
  | some nm =>
    rw [q] at hx
    obtain ⟨p, rfl⟩ := dN_ok q
    have hx : (decide (C.N[j]? = some nm) && C.vis nm && plainN nm) = true := hx
    simp only [Bool.and_eq_true, decide_eq_true_eq] at hx
    obtain ⟨⟨h1, h2⟩, h3⟩ := hx
    obtain ⟨a, b, _⟩ := plainN_ok h3
    exact pe_var (by rw [A.N]; exact h1) (A.vis h2) a b
theorem call1 (A : Ass Γ C k X W) {r : R1L} {f : Str} {y : Expr} {te : TE} {p q : Pos} {u : Value} (hc : CallR X u r) (hv : bootBuiltins f = some u) (hu : (∃ id, u = .builtin id) ∨ ∃ id, u = .type id) (hb : C.blt f = true) (hs : nStar y = true) (he : PE X y te) : PE X (.Call (.Name f p) [y] [] q) (tCB r (tCons te tNil)) := by
  obtain ⟨a, b, c, d⟩ := A.bltn hb
  rcases hu with ⟨id, rfl⟩ | ⟨id, rfl⟩
  · exact pe_callB hc a b hv (pa_cons he pa_nil (star_one hs)) c d (star_one hs) rfl
  · exact pe_callTy hc a b hv (pa_cons he pa_nil (star_one hs)) c d (star_one hs) rfl
theorem call2 (A : Ass Γ C k X W) {r : R1L} {f : Str} {y z : Expr} {te tf : TE} {p q : Pos} {i : String} (hc : CallR X (.builtin i) r) (hv : bootBuiltins f = some (.builtin i)) (hb : C.blt f = true) (hs : nStar y = true) (hs2 : nStar z = true) (he : PE X y te) (hf : PE X z tf) : PE X (.Call (.Name f p) [y, z] [] q) (tCB r (tCons te (tCons tf tNil))) := by
  obtain ⟨a, b, c, d⟩ := A.bltn hb
  exact pe_callB hc a b hv (pa_cons he (pa_cons hf pa_nil (star_one hs2)) (star_one hs)) c d (star_one hs) (by rw [star_one hs2]; rfl)
theorem co_lit (A : Ass Γ C k X W) (d : D) : CO Γ (.lit d) C X W := by
  refine .ev (fun i => rfl) rfl fun x hx => ?_
  cases q : dK x with
  | none => rw [q] at hx; cases hx
  | some c =>
    rw [q] at hx
    obtain ⟨k', p, rfl⟩ := dK_ok q
    cases d <;> cases c <;> first | cases hx | skip
    · exact pe_non
    · rename_i a b
      have : a = b := of_decide_eq_true hx
      subst this
      exact pe_bl
    · rename_i a b
      have : a = b := of_decide_eq_true hx
      subst this
      exact pe_int
    · rename_i a b
      have : a = b := of_decide_eq_true hx
      subst this
      exact pe_str
theorem co_gl (A : Ass Γ C k X W) (n : Nat) : CO Γ (.gl n) C X W := by
  refine .ev (fun i => rfl) rfl fun x hx => ?_
  cases q : dN x with
  | none => rw [q] at hx; cases hx
  | some nm =>
    rw [q] at hx
    obtain ⟨p, rfl⟩ := dN_ok q
    have hx : (C.glo nm && decide ((nm, n) ∈ C.gl)) = true := hx
    rw [Bool.and_eq_true, decide_eq_true_eq] at hx
    obtain ⟨a, b, _⟩ := A.glo hx.1
    obtain ⟨u, e1, e2⟩ := A.glb _ hx.2
    exact pe_glob a e1 e2 b
theorem cmp_one {y z : Expr} {op : CmpOp} {r : R2} {te tf : TE} {p : Pos} (hr : OpR X (compareOp op) r) (hm : behindInMarks op z = false) (h1 : PE X y te) (h2 : PE X z tf) : PE X (.Compare y [op] [z] p) (tOp r te tf) ∧ PT X (.Compare y [op] [z] p) (tB (tOp r te tf)) :=
  ⟨pe_cmpR hr h1 h2 hm, pt_cmpR hr h1 h2 hm⟩
theorem isn_ok {op : CmpOp} {r : R2} {te : TE} {x : Expr} {g : Expr → Bool} (hr : OpR X (compareOp op) r) (hop : op ≠ .In ∧ op ≠ .NotIn) (hg : ∀ y, g y = true → PE X y te) (hx : (match dCmp x with
      | some (y, [o], [c]) => decide (o = op) && decide (dK c = some .none) && g y
      | _ => false) = true) : PE X x (tOp r te (tC .non)) ∧ PT X x (tB (tOp r te (tC .non))) := by
  cases q : dCmp x with
  | none => rw [q] at hx; cases hx
  | some w =>
    rw [q] at hx
    obtain ⟨y, os, cs⟩ := w
    obtain ⟨p, rfl⟩ := dCmp_ok q
    rcases os with _ | ⟨o, _ | ⟨o2, or⟩⟩ <;> first | cases hx | skip
    rcases cs with _ | ⟨c, _ | ⟨c2, cr⟩⟩ <;> first | cases hx | skip
    have hx : (decide (o = op) && decide (dK c = some .none) && g y) = true := hx
    simp only [Bool.and_eq_true, decide_eq_true_eq] at hx
    obtain ⟨⟨rfl, h2⟩, h3⟩ := hx
    obtain ⟨k', p', rfl⟩ := dK_ok h2
    exact cmp_one hr (nobehind _ hop.1 hop.2) (hg y h3) pe_non
theorem isb_ok (b : Bool) {op : CmpOp} {r : R2} {te : TE} {x : Expr} {g : Expr → Bool} (hr : OpR X (compareOp op) r) (hop : op ≠ .In ∧ op ≠ .NotIn) (hg : ∀ y, g y = true → PE X y te) (hx : (match dCmp x with
      | some (y, [o], [c]) => decide (o = op) && decide (dK c = some (.bool b)) && g y
      | _ => false) = true) : PE X x (tOp r te (tC (.bl b))) ∧ PT X x (tB (tOp r te (tC (.bl b)))) := by
  cases q : dCmp x with
  | none => rw [q] at hx; cases hx
  | some w =>
    rw [q] at hx
    obtain ⟨y, os, cs⟩ := w
    obtain ⟨p, rfl⟩ := dCmp_ok q
    rcases os with _ | ⟨o, _ | ⟨o2, or⟩⟩ <;> first | cases hx | skip
    rcases cs with _ | ⟨c, _ | ⟨c2, cr⟩⟩ <;> first | cases hx | skip
    have hx : (decide (o = op) && decide (dK c = some (.bool b)) && g y) = true := hx
    simp only [Bool.and_eq_true, decide_eq_true_eq] at hx
    obtain ⟨⟨rfl, h2⟩, h3⟩ := hx
    obtain ⟨k', p', rfl⟩ := dK_ok h2
    exact cmp_one hr (nobehind _ hop.1 hop.2) (hg y h3) pe_bl
theorem built1 : bootBuiltins "len" = some (.builtin "len") ∧ bootBuiltins "abs" = some (.builtin "abs") ∧ bootBuiltins "int" = some (.type "int") ∧ bootBuiltins "list" = some (.type "list") ∧ bootBuiltins "tuple" = some (.type "tuple") ∧ bootBuiltins "sorted" = some (.builtin "sorted") ∧
    bootBuiltins "all" = some (.builtin "all") ∧ bootBuiltins "any" = some (.builtin "any") ∧ bootBuiltins "isinstance" = some (.builtin "isinstance") ∧ bootBuiltins "max" = some (.builtin "max") ∧ bootBuiltins "min" = some (.builtin "min") := by decide +kernel
theorem built2 : bootBuiltins "bool" = some (.type "bool") ∧ bootBuiltins "str" = some (.type "str") := by decide +kernel
theorem co_o1 (A : Ass Γ C k X W) (o : Op1) (a : DE) (ih : CO Γ a C X W) : CO Γ (.o1 o a) C X W := by
  have hk := A.K
  have un : ∀ {op : UnaryOp} {x : Expr} {g : Expr → Bool}, (match dUn x with
      | some (o, y) => decide (o = op) && g y
      | _ => false) = true → ∃ y p, x = .UnaryOp op y p ∧ g y = true := fun {op x g} hx => by
    cases q : dUn x with
    | none => rw [q] at hx; cases hx
    | some w =>
      obtain ⟨o', y⟩ := w
      rw [q] at hx
      obtain ⟨p, rfl⟩ := dUn_ok q
      have hx : (decide (o' = op) && g y) = true := hx
      rw [Bool.and_eq_true, decide_eq_true_eq] at hx
      obtain ⟨rfl, h2⟩ := hx
      exact ⟨y, p, rfl, h2⟩
  have call : ∀ {o : Op1} {f : Str} {r : R1L} {u : Value}, fn1 o = some f → bootBuiltins f = some u → ((∃ id, u = .builtin id) ∨ ∃ id, u = .type id) → (C.blt f = true → CallR X u r) → ∀ x, (match dCall x with
      | some (g, [y], []) => decide (fn1 o = some g) && C.blt g && nStar y && chk a C (.e y)
      | _ => false) = true → PE X x (tCB r (tCons (rd Γ a W).e tNil)) := fun {o f r u} hf hv hu hc x hx => by
    cases q : dCall x with
    | none => rw [q] at hx; cases hx
    | some w =>
      obtain ⟨g, es, ks⟩ := w
      rw [q] at hx
      obtain ⟨p, p2, rfl⟩ := dCall_ok q
      rcases es with _ | ⟨y, _ | ⟨y2, yr⟩⟩ <;> rcases ks with _ | ⟨k1, kr⟩ <;> first | cases hx | skip
      have hx : (decide (fn1 o = some g) && C.blt g && nStar y && chk a C (.e y)) = true := hx
      simp only [Bool.and_eq_true, decide_eq_true_eq] at hx
      obtain ⟨⟨⟨h1, h2⟩, h3⟩, h4⟩ := hx
      rw [hf] at h1
      cases h1
      exact call1 A (hc h2) hv hu h2 h3 (ih.e y h4)
  obtain ⟨b1, b2, b3, b4, b5, b6, b7, b8, b9, b10, b11⟩ := built1
  cases o with
  | neg =>
    refine .ev (f := fun x => match dUn x with | some (.USub, y) => chk a C (.e y) | _ => false) (fun i => rfl) rfl fun x hx => ?_
    obtain ⟨y, p, rfl, h⟩ := un (op := .USub) (x := x) (g := fun y => chk a C (.e y)) (by
      cases q : dUn x with
      | none => rw [q] at hx; cases hx
      | some w => obtain ⟨o', y⟩ := w; rw [q] at hx; cases o' <;> first | exact hx | cases hx)
    exact pe_un (ta := (rd Γ a W).e) un_neg (ih.e y h)
  | not =>
    refine ⟨fun x hx => ?_, fun x hx => ?_, (fun xs hx => nomatch hx), (fun xs ks hx => nomatch hx), (fun a x e hx => nomatch e)⟩
    · have hx : (match dUn x with | some (.Not, y) => chk a C (.e y) | _ => false) = true := hx
      obtain ⟨y, p, rfl, h⟩ := un (op := .Not) (x := x) (g := fun y => chk a C (.e y)) (by
        cases q : dUn x with
        | none => rw [q] at hx; cases hx
        | some w => obtain ⟨o', y⟩ := w; rw [q] at hx; cases o' <;> first | exact hx | cases hx)
      exact pe_not (ih.e y h)
    · have hx : (match dUn x with | some (.Not, y) => chk a C (.t y) | _ => false) = true := hx
      obtain ⟨y, p, rfl, h⟩ := un (op := .Not) (x := x) (g := fun y => chk a C (.t y)) (by
        cases q : dUn x with
        | none => rw [q] at hx; cases hx
        | some w => obtain ⟨o', y⟩ := w; rw [q] at hx; cases o' <;> first | exact hx | cases hx)
      exact ⟨pt_not (ih.t y h).1, fun z => nomatch z⟩
  | isN =>
    have key : ∀ x, (match dCmp x with
      | some (y, [.Is], [c]) => decide (dK c = some .none) && chk a C (.e y)
      | _ => false) = true → PE X x (tOp rIsN1 (rd Γ a W).e (tC .non)) ∧ PT X x (tB (tOp rIsN1 (rd Γ a W).e (tC .non))) := fun x hx => by
      refine isn_ok (g := fun y => chk a C (.e y)) (op := .Is) op_isN ⟨by decide, by decide⟩ ih.e ?_
      cases q : dCmp x with
      | none => rw [q] at hx; cases hx
      | some w =>
        obtain ⟨y, os, cs⟩ := w
        rw [q] at hx
        rcases os with _ | ⟨o, _ | ⟨o2, or⟩⟩ <;> rcases cs with _ | ⟨c, _ | ⟨c2, cr⟩⟩ <;> first | cases hx | skip
        all_goals cases o <;> first | exact hx | cases hx
    exact .cv (fun i => rfl) rfl (fun x hx => (key x hx).1) fun x _ hx => (key x hx).2
  | notN =>
    have key : ∀ x, (match dCmp x with
      | some (y, [.IsNot], [c]) => decide (dK c = some .none) && chk a C (.e y)
      | _ => false) = true → PE X x (tOp rNotN1 (rd Γ a W).e (tC .non)) ∧ PT X x (tB (tOp rNotN1 (rd Γ a W).e (tC .non))) := fun x hx => by
      refine isn_ok (g := fun y => chk a C (.e y)) (op := .IsNot) op_notN ⟨by decide, by decide⟩ ih.e ?_
      cases q : dCmp x with
      | none => rw [q] at hx; cases hx
      | some w =>
        obtain ⟨y, os, cs⟩ := w
        rw [q] at hx
        rcases os with _ | ⟨o, _ | ⟨o2, or⟩⟩ <;> rcases cs with _ | ⟨c, _ | ⟨c2, cr⟩⟩ <;> first | cases hx | skip
        all_goals cases o <;> first | exact hx | cases hx
    exact .cv (fun i => rfl) rfl (fun x hx => (key x hx).1) fun x _ hx => (key x hx).2
  | isB b =>
    have key : ∀ x, (match dCmp x with
      | some (y, [.Is], [c]) => decide (dK c = some (.bool b)) && chk a C (.e y)
      | _ => false) = true → PE X x (tOp rIsB1 (rd Γ a W).e (tC (.bl b))) ∧ PT X x (tB (tOp rIsB1 (rd Γ a W).e (tC (.bl b)))) := fun x hx => by
      refine isb_ok b (g := fun y => chk a C (.e y)) (op := .Is) op_is_bl ⟨by decide, by decide⟩ ih.e ?_
      cases q : dCmp x with
      | none => rw [q] at hx; cases hx
      | some w =>
        obtain ⟨y, os, cs⟩ := w
        rw [q] at hx
        rcases os with _ | ⟨o, _ | ⟨o2, or⟩⟩ <;> rcases cs with _ | ⟨c, _ | ⟨c2, cr⟩⟩ <;> first | cases hx | skip
        all_goals cases o <;> first | exact hx | cases hx
    exact .cv (fun i => rfl) rfl (fun x hx => (key x hx).1) fun x _ hx => (key x hx).2
  | notB b =>
    have key : ∀ x, (match dCmp x with
      | some (y, [.IsNot], [c]) => decide (dK c = some (.bool b)) && chk a C (.e y)
      | _ => false) = true → PE X x (tOp rNotB1 (rd Γ a W).e (tC (.bl b))) ∧ PT X x (tB (tOp rNotB1 (rd Γ a W).e (tC (.bl b)))) := fun x hx => by
      refine isb_ok b (g := fun y => chk a C (.e y)) (op := .IsNot) op_isnot_bl ⟨by decide, by decide⟩ ih.e ?_
      cases q : dCmp x with
      | none => rw [q] at hx; cases hx
      | some w =>
        obtain ⟨y, os, cs⟩ := w
        rw [q] at hx
        rcases os with _ | ⟨o, _ | ⟨o2, or⟩⟩ <;> rcases cs with _ | ⟨c, _ | ⟨c2, cr⟩⟩ <;> first | cases hx | skip
        all_goals cases o <;> first | exact hx | cases hx
    exact .cv (fun i => rfl) rfl (fun x hx => (key x hx).1) fun x _ hx => (key x hx).2
  | isI kd =>
    refine .ev (fun i => rfl) rfl fun x hx => ?_
    cases q : dCall x with
    | none => rw [q] at hx; cases hx
    | some w =>
      obtain ⟨g, es, ks⟩ := w
      rw [q] at hx
      obtain ⟨p, p2, rfl⟩ := dCall_ok q
      rcases es with _ | ⟨y, _ | ⟨c, _ | ⟨y3, yr⟩⟩⟩ <;> rcases ks with _ | ⟨k1, kr⟩ <;> first | cases hx | skip
      have hx : (decide (g = "isinstance") && C.blt g && nStar y && (match dN c with | some n => kindN C n kd | none => false) && chk a C (.e y)) = true := hx
      simp only [Bool.and_eq_true, decide_eq_true_eq] at hx
      obtain ⟨⟨⟨⟨rfl, h2⟩, h3⟩, h4⟩, h5⟩ := hx
      cases qn : dN c with
      | none => rw [qn] at h4; cases h4
      | some n =>
        rw [qn] at h4
        obtain ⟨pn, rfl⟩ := dN_ok qn
        have hc : PE X (.Name n pn) (tC (kindV Γ.G kd)) := by
          have tyc : ∀ s : Str, ∀ t : String, bootBuiltins s = some (.type t) → (decide (n = s) && C.btl n) = true → PE X (.Name n pn) (tC (.ty t)) := fun s t hb h => by
            rw [Bool.and_eq_true, decide_eq_true_eq] at h
            obtain ⟨rfl, h⟩ := h
            obtain ⟨a1, a2, a3, a4⟩ := A.btln h
            exact pe_bltn a1 a2 hb rfl a3 a4
          cases kd with
          | int => exact tyc _ _ b3 h4
          | bool => exact tyc _ _ built2.1 h4
          | str => exact tyc _ _ built2.2 h4
          | list => exact tyc _ _ b4 h4
          | tup => exact tyc _ _ b5 h4
          | cls c =>
            have h4 : (C.glo n && decide ((n, c) ∈ C.cl)) = true := h4
            rw [Bool.and_eq_true, decide_eq_true_eq] at h4
            obtain ⟨a1, a2, _⟩ := A.glo h4.1
            exact pe_glob a1 (A.cls _ h4.2) rfl a2
        have q := call2 (p := p) (q := p2) A call_isi b9 h2 h3 rfl (ih.e y h5) hc
        rw [hk] at q
        exact q
  | rev =>
    refine .ev (fun i => rfl) rfl fun x hx => ?_
    cases q : dRv x with
    | none => rw [q] at hx; cases hx
    | some y =>
      rw [q] at hx
      obtain ⟨k', p1, p2, p3, pos, rfl⟩ := dRv_ok q
      have q := pe_revL (k := k') (p1 := p1) (p2 := p2) (p3 := p3) (pos := pos) (ih.e y hx)
      rw [hk] at q
      exact q
  | lrg =>
    refine .ev (fun i => rfl) rfl fun x hx => ?_
    cases q : dLr x with
    | none => rw [q] at hx; cases hx
    | some w =>
      obtain ⟨f, g, es⟩ := w
      rw [q] at hx
      obtain ⟨p, p2, r, s, rfl⟩ := dLr_ok q
      rcases es with _ | ⟨y, _ | ⟨y2, yr⟩⟩ <;> first | cases hx | skip
      have hx : (decide (f = "list") && decide (g = "range") && C.blt f && C.blt g && nStar y && chk a C (.e y)) = true := hx
      simp only [Bool.and_eq_true, decide_eq_true_eq] at hx
      obtain ⟨⟨⟨⟨⟨rfl, rfl⟩, h3⟩, h4⟩, h5⟩, h6⟩ := hx
      obtain ⟨a1, a2, _⟩ := A.bltn h3
      obtain ⟨c1, c2, _⟩ := A.bltn h4
      exact pe_listRg (A.calmB h3 (by decide)) a1 a2 (prg_1 c1 c2 (ih.e y h6) (star_one h5))
  | len => exact .ev (fun i => rfl) rfl fun x hx => by have q := call (o := .len) rfl b1 (.inl ⟨_, rfl⟩) (fun _ => call_lenA) x hx; rw [hk] at q; exact q
  | abs => exact .ev (fun i => rfl) rfl fun x hx => call (o := .abs) rfl b2 (.inl ⟨_, rfl⟩) (fun _ => call_abs) x hx
  | int => exact .ev (fun i => rfl) rfl fun x hx => call (o := .int) rfl b3 (.inr ⟨_, rfl⟩) (fun _ => call_int1) x hx
  | list => exact .ev (fun i => rfl) rfl fun x hx => by have q := call (o := .list) rfl b4 (.inr ⟨_, rfl⟩) (fun h => call_list_of.or (call_listD (A.calmB h (by decide)))) x hx; rw [hk] at q; exact q
  | tuple => exact .ev (fun i => rfl) rfl fun x hx => by have q := call (o := .tuple) rfl b5 (.inr ⟨_, rfl⟩) (fun _ => call_tuple_of) x hx; rw [hk] at q; exact q
  | sorted => exact .ev (fun i => rfl) rfl fun x hx => by have q := call (o := .sorted) rfl b6 (.inl ⟨_, rfl⟩) (fun _ => call_sortA) x hx; rw [hk] at q; exact q
  | all => exact .ev (fun i => rfl) rfl fun x hx => by have q := call (o := .all) rfl b7 (.inl ⟨_, rfl⟩) (fun h => cr_all (A.calmB h (by decide))) x hx; rw [hk] at q; exact q
  | any => exact .ev (fun i => rfl) rfl fun x hx => by have q := call (o := .any) rfl b8 (.inl ⟨_, rfl⟩) (fun h => cr_any (A.calmB h (by decide))) x hx; rw [hk] at q; exact q
end
end MP
set_option Elab.async false
set_option linter.all false
set_option maxRecDepth 100000
set_option maxHeartbeats 1000000
namespace MP
open PySem PyProof.Rows
open L2 hiding St
section
variable {Γ : GE} {C : CC} {X : Cx} {W : WX} {d : DE} {k : Nat}
theorem bin_op (A : Ass Γ C k X W) {o : Op2} {op : Operator} (h : bin2 o = some op) {te tf : TE} {y z : Expr} {p : Pos} (h1 : PE X y te) (h2 : PE X z tf) : PE X (.BinOp y op z p) (rd2 Γ.G o te tf) := by
  cases o <;> cases h
  · exact pe_op op_addA h1 h2
  · exact pe_op op_sub h1 h2
  · exact pe_op op_mulA h1 h2
  · exact pe_op op_fdiv h1 h2
  · exact pe_op op_mod h1 h2
  · exact pe_op op_pow h1 h2
theorem cmp_op (A : Ass Γ C k X W) {o : Op2} {op : CmpOp} (h : cmp2 o = some op) {te tf : TE} {y z : Expr} {p : Pos} (hm : behindInMarks op z = false) (h1 : PE X y te) (h2 : PE X z tf) : PE X (.Compare y [op] [z] p) (rd2 Γ.G o te tf) ∧ PT X (.Compare y [op] [z] p) (tB (rd2 Γ.G o te tf)) := by
  have hk := A.K
  have hu := A.hu
  cases o <;> cases h
  · exact cmp_one (op_cmpR (o := .lt) rfl) hm h1 h2
  · exact cmp_one (op_cmpR (o := .le) rfl) hm h1 h2
  · exact cmp_one (op_cmpR (o := .gt) rfl) hm h1 h2
  · exact cmp_one (op_cmpR (o := .ge) rfl) hm h1 h2
  · have q := cmp_one (p := p) (op_eqD (by omega)) hm h1 h2
    rw [hk] at q
    exact q
  · have q := cmp_one (p := p) (op_neD (by omega)) hm h1 h2
    rw [hk] at q
    exact q
  · have q := cmp_one (p := p) (op_inA hu) hm h1 h2
    rw [hk] at q
    exact q
  · have q := cmp_one (p := p) (op_niA hu) hm h1 h2
    rw [hk] at q
    exact q
theorem co_o2 (A : Ass Γ C k X W) (o : Op2) (a b : DE) (iha : CO Γ a C X W) (ihb : CO Γ b C X W) : CO Γ (.o2 o a b) C X W := by
  have key : ∀ x, (match bin2 o, cmp2 o, fn2 o with
    | some op, _, _ => match dBin x with
      | some (p, y, z) => decide (op = p) && chk a C (.e y) && chk b C (.e z)
      | none => false
    | _, some op, _ => match dCmp x with
      | some (y, [p], [z]) => decide (op = p) && !behindInMarks p z && chk a C (.e y) && chk b C (.e z)
      | _ => false
    | _, _, some f => match dCall x with
      | some (g, [y, z], []) => decide (f = g) && C.blt g && nStar y && nStar z && chk a C (.e y) && chk b C (.e z)
      | _ => false
    | _, _, _ => match o with
      | .ix => (match dSub x with
        | some (y, z) => ixB z && chk a C (.e y) && chk b C (.e z)
        | none => false)
      | .lrg2 => (match dLr x with
        | some (f, g, [y, z]) => decide (f = "list") && decide (g = "range") && C.blt f && C.blt g && nStar y && nStar z && chk a C (.e y) && chk b C (.e z)
        | _ => false)
      | _ => false) = true → PE X x (rd2 Γ.G o (rd Γ a W).e (rd Γ b W).e) ∧ (isCmp x = true → PT X x (tB (rd2 Γ.G o (rd Γ a W).e (rd Γ b W).e))) := fun x hx => by
    cases h1 : bin2 o with
    | some op =>
      rw [h1] at hx
      dsimp only at hx
      cases q : dBin x with
      | none => rw [q] at hx; cases hx
      | some w =>
        obtain ⟨p, y, z⟩ := w
        rw [q] at hx
        obtain ⟨ps, rfl⟩ := dBin_ok q
        have hx : (decide (op = p) && chk a C (.e y) && chk b C (.e z)) = true := hx
        simp only [Bool.and_eq_true, decide_eq_true_eq] at hx
        obtain ⟨⟨rfl, h2⟩, h3⟩ := hx
        exact ⟨bin_op A h1 (iha.e y h2) (ihb.e z h3), fun z => nomatch z⟩
    | none =>
      rw [h1] at hx
      cases h2 : cmp2 o with
      | some op =>
        rw [h2] at hx
        dsimp only at hx
        cases q : dCmp x with
        | none => rw [q] at hx; cases hx
        | some w =>
          obtain ⟨y, os, zs⟩ := w
          rw [q] at hx
          obtain ⟨ps, rfl⟩ := dCmp_ok q
          rcases os with _ | ⟨p, _ | ⟨o2, or⟩⟩ <;> rcases zs with _ | ⟨z, _ | ⟨z2, zr⟩⟩ <;> first | cases hx | skip
          have hx : (decide (op = p) && !behindInMarks p z && chk a C (.e y) && chk b C (.e z)) = true := hx
          simp only [Bool.and_eq_true, decide_eq_true_eq, Bool.not_eq_true'] at hx
          obtain ⟨⟨⟨rfl, h3⟩, h4⟩, h5⟩ := hx
          have q := cmp_op (p := ps) A h2 h3 (iha.e y h4) (ihb.e z h5)
          exact ⟨q.1, fun _ => q.2⟩
      | none =>
        rw [h2] at hx
        cases h3 : fn2 o with
        | some f =>
          rw [h3] at hx
          dsimp only at hx
          cases q : dCall x with
          | none => rw [q] at hx; cases hx
          | some w =>
            obtain ⟨g, es, ks⟩ := w
            rw [q] at hx
            obtain ⟨p1, p2, rfl⟩ := dCall_ok q
            rcases es with _ | ⟨y, _ | ⟨z, _ | ⟨y3, yr⟩⟩⟩ <;> rcases ks with _ | ⟨k1, kr⟩ <;> first | cases hx | skip
            have hx : (decide (f = g) && C.blt g && nStar y && nStar z && chk a C (.e y) && chk b C (.e z)) = true := hx
            simp only [Bool.and_eq_true, decide_eq_true_eq] at hx
            obtain ⟨⟨⟨⟨⟨rfl, g1⟩, g2⟩, g3⟩, g4⟩, g5⟩ := hx
            refine ⟨?_, fun z => nomatch z⟩
            obtain ⟨_, _, _, _, _, _, _, _, _, b10, b11⟩ := built1
            cases o <;> cases h3
            · exact call2 A (call_max2 (A.calmB g1 (by decide))) b10 g1 g2 g3 (iha.e y g4) (ihb.e z g5)
            · exact call2 A (call_min2 (A.calmB g1 (by decide))) b11 g1 g2 g3 (iha.e y g4) (ihb.e z g5)
        | none =>
          rw [h3] at hx
          dsimp only at hx
          cases o <;> first | cases hx | skip
          · have hx : (match dSub x with
              | some (y, z) => ixB z && chk a C (.e y) && chk b C (.e z)
              | none => false) = true := hx
            cases q : dSub x with
            | none => rw [q] at hx; cases hx
            | some w =>
              obtain ⟨y, z⟩ := w
              rw [q] at hx
              obtain ⟨ps, rfl⟩ := dSub_ok q
              have hx : (ixB z && chk a C (.e y) && chk b C (.e z)) = true := hx
              simp only [Bool.and_eq_true] at hx
              obtain ⟨⟨g1, g2⟩, g3⟩ := hx
              have q := pe_ixA (pos := ps) (by have := A.hu; omega) (iha.e y g2) (ihb.e z g3) (ix_ok g1)
              rw [A.K] at q
              exact ⟨pe_orE q.1 q.2, fun z => nomatch z⟩
          · have hx : (match dLr x with
              | some (f, g, [y, z]) => decide (f = "list") && decide (g = "range") && C.blt f && C.blt g && nStar y && nStar z && chk a C (.e y) && chk b C (.e z)
              | _ => false) = true := hx
            cases q : dLr x with
            | none => rw [q] at hx; cases hx
            | some w =>
              obtain ⟨f, g, es⟩ := w
              rw [q] at hx
              obtain ⟨p, p2, r, s, rfl⟩ := dLr_ok q
              rcases es with _ | ⟨y, _ | ⟨z, _ | ⟨y2, yr⟩⟩⟩ <;> first | cases hx | skip
              have hx : (decide (f = "list") && decide (g = "range") && C.blt f && C.blt g && nStar y && nStar z && chk a C (.e y) && chk b C (.e z)) = true := hx
              simp only [Bool.and_eq_true, decide_eq_true_eq] at hx
              obtain ⟨⟨⟨⟨⟨⟨⟨rfl, rfl⟩, h3⟩, h4⟩, h5⟩, h6⟩, h7⟩, h8⟩ := hx
              obtain ⟨a1, a2, _⟩ := A.bltn h3
              obtain ⟨c1, c2, _⟩ := A.bltn h4
              exact ⟨pe_listRg (A.calmB h3 (by decide)) a1 a2 (prg_2 c1 c2 (iha.e y h7) (ihb.e z h8) (star_one h5) (star_one h6) (by rw [star_one h6]; rfl)), fun z => nomatch z⟩
  exact .cv (fun i => rfl) rfl (fun x hx => (key x hx).1) fun x hc hx => (key x hx).2 hc
theorem co_mt (A : Ass Γ C k X W) (o : Op2) (a b : DE) (iha : CO Γ a C X W) (ihb : CO Γ b C X W) : CO Γ (.mt o a b) C X W := by
  refine .ev (fun i => rfl) rfl fun x hx => ?_
  cases q : dMe x with
  | none => rw [q] at hx; cases hx
  | some w =>
    obtain ⟨y, m, es⟩ := w
    rw [q] at hx
    obtain ⟨p, p2, rfl, hl⟩ := dMe_ok q
    rcases es with _ | ⟨z, _ | ⟨z2, zr⟩⟩ <;> first | cases hx | skip
    have hx : (abB y && nStar z && decide ((o = .index ∧ m = "index") ∨ (o = .join ∧ m = "join")) && chk a C (.e y) && chk b C (.e z)) = true := hx
    simp only [Bool.and_eq_true, decide_eq_true_eq] at hx
    obtain ⟨⟨⟨⟨h1, h2⟩, h3⟩, h4⟩, h5⟩ := hx
    rcases h3 with ⟨rfl, rfl⟩ | ⟨rfl, rfl⟩
    · have q := pe_bm (cpos := p2) (apos := p) F.plainAttrs_list F.slot_list_index F.type_list_index mt_index (iha.e y h4) (pa_cons (ihb.e z h5) pa_nil (star_one h2)) (ab_ok h1) (by rw [star_one h2]; rfl) hl (star_one h2) rfl
      rw [A.K] at q
      exact q
    · have q := pe_join (pos := p2) (apos := p) (iha.e y h4) (ihb.e z h5) (star_one h2) (ab_ok h1) hl
      rw [A.K] at q
      exact q
theorem co_o3 (A : Ass Γ C k X W) (o : Op3) (a b c : DE) (iha : CO Γ a C X W) (ihb : CO Γ b C X W) (ihc : CO Γ c C X W) : CO Γ (.o3 o a b c) C X W := by
  refine .ev (fun i => rfl) rfl fun x hx => ?_
  cases q : dMe x with
  | none => rw [q] at hx; cases hx
  | some w =>
    obtain ⟨y, m, es⟩ := w
    rw [q] at hx
    obtain ⟨p, p2, rfl, hl⟩ := dMe_ok q
    rcases es with _ | ⟨z, _ | ⟨w, _ | ⟨z2, zr⟩⟩⟩ <;> first | cases hx | skip
    have hx : (abB y && nStar z && nStar w && decide (m = "get") && chk a C (.e y) && chk b C (.e z) && chk c C (.e w)) = true := hx
    simp only [Bool.and_eq_true, decide_eq_true_eq] at hx
    obtain ⟨⟨⟨⟨⟨⟨h1, h2⟩, h3⟩, rfl⟩, h5⟩, h6⟩, h7⟩ := hx
    exact pe_dget2 (by have := A.hu; omega) (iha.e y h5) (ihb.e z h6) (ihc.e w h7) ⟨ab_ok h1, by rw [star_one h2, star_one h3]; rfl, hl, by rw [star_one h2, star_one h3]; rfl⟩
theorem co_ch2 (A : Ass Γ C k X W) (o p : Op2) (a b c : DE) (iha : CO Γ a C X W) (ihb : CO Γ b C X W) (ihc : CO Γ c C X W) : CO Γ (.ch2 o p a b c) C X W := by
  have cm : ∀ {o : Op2} {q : CmpOp}, cmpR o = true → cmp2 o = some q → q = cmpO o := fun {o q} h1 h2 => by
    cases o <;> first | (cases h2; rfl) | exact nomatch h1
  have key : ∀ x, (match dCmp x with
    | some (y, [o', p'], [z, w]) => (cmpR o && cmpR p) && decide (cmp2 o = some o') && decide (cmp2 p = some p') && !lastMarks [o', p'] [z, w] && chk a C (.e y) && chk b C (.e z) && chk c C (.e w)
    | _ => false) = true → PE X x (tChain (rCmp o) (rCmp p) (rd Γ a W).e (rd Γ b W).e (rd Γ c W).e) ∧ PT X x (tB (tChain (rCmp o) (rCmp p) (rd Γ a W).e (rd Γ b W).e (rd Γ c W).e)) := fun x hx => by
    cases q : dCmp x with
    | none => rw [q] at hx; cases hx
    | some w =>
      obtain ⟨y, os, zs⟩ := w
      rw [q] at hx
      obtain ⟨ps, rfl⟩ := dCmp_ok q
      rcases os with _ | ⟨o', _ | ⟨p', _ | ⟨o2, or⟩⟩⟩ <;> rcases zs with _ | ⟨z, _ | ⟨w, _ | ⟨z2, zr⟩⟩⟩ <;> first | cases hx | skip
      have hx : ((cmpR o && cmpR p) && decide (cmp2 o = some o') && decide (cmp2 p = some p') && !lastMarks [o', p'] [z, w] && chk a C (.e y) && chk b C (.e z) && chk c C (.e w)) = true := hx
      simp only [Bool.and_eq_true, decide_eq_true_eq, Bool.not_eq_true'] at hx
      obtain ⟨⟨⟨⟨⟨⟨⟨ho, hp⟩, h1⟩, h2⟩, h3⟩, h4⟩, h5⟩, h6⟩ := hx
      rw [cm ho h1, cm hp h2] at h3 ⊢
      exact ⟨pe_chain (op_cmpR ho) (op_cmpR hp) (iha.e y h4) (ihb.e z h5) (ihc.e w h6) h3, pt_chain (op_cmpR ho) (op_cmpR hp) (iha.e y h4) (ihb.e z h5) (ihc.e w h6) h3⟩
  exact .cv (fun i => rfl) rfl (fun x hx => (key x hx).1) fun x _ hx => (key x hx).2
theorem co_ch3 (A : Ass Γ C k X W) (o p q : Op2) (a b c d : DE) (iha : CO Γ a C X W) (ihb : CO Γ b C X W) (ihc : CO Γ c C X W) (ihd : CO Γ d C X W) : CO Γ (.ch3 o p q a b c d) C X W := by
  have cm : ∀ {o : Op2} {q : CmpOp}, cmpR o = true → cmp2 o = some q → q = cmpO o := fun {o q} h1 h2 => by
    cases o <;> first | (cases h2; rfl) | exact nomatch h1
  have key : ∀ x, (match dCmp x with
    | some (y, [o', p', q'], [z, w, v]) => (cmpR o && cmpR p && cmpR q) && decide (cmp2 o = some o') && decide (cmp2 p = some p') && decide (cmp2 q = some q') && !lastMarks [o', p', q'] [z, w, v] && chk a C (.e y) && chk b C (.e z) && chk c C (.e w) && chk d C (.e v)
    | _ => false) = true → PE X x (tChain3 (rCmp o) (rCmp p) (rCmp q) (rd Γ a W).e (rd Γ b W).e (rd Γ c W).e (rd Γ d W).e) ∧ PT X x (tB (tChain3 (rCmp o) (rCmp p) (rCmp q) (rd Γ a W).e (rd Γ b W).e (rd Γ c W).e (rd Γ d W).e)) := fun x hx => by
    cases q0 : dCmp x with
    | none => rw [q0] at hx; cases hx
    | some w =>
      obtain ⟨y, os, zs⟩ := w
      rw [q0] at hx
      obtain ⟨ps, rfl⟩ := dCmp_ok q0
      rcases os with _ | ⟨o', _ | ⟨p', _ | ⟨q', _ | ⟨o2, or⟩⟩⟩⟩ <;> rcases zs with _ | ⟨z, _ | ⟨w, _ | ⟨v, _ | ⟨z2, zr⟩⟩⟩⟩ <;> first | cases hx | skip
      have hx : ((cmpR o && cmpR p && cmpR q) && decide (cmp2 o = some o') && decide (cmp2 p = some p') && decide (cmp2 q = some q') && !lastMarks [o', p', q'] [z, w, v] && chk a C (.e y) && chk b C (.e z) && chk c C (.e w) && chk d C (.e v)) = true := hx
      simp only [Bool.and_eq_true, decide_eq_true_eq, Bool.not_eq_true'] at hx
      obtain ⟨⟨⟨⟨⟨⟨⟨⟨⟨⟨ho, hp⟩, hq⟩, h1⟩, h2⟩, h2'⟩, h3⟩, h4⟩, h5⟩, h6⟩, h7⟩ := hx
      rw [cm ho h1, cm hp h2, cm hq h2'] at h3 ⊢
      exact ⟨pe_chain3 (op_cmpR ho) (op_cmpR hp) (op_cmpR hq) (iha.e y h4) (ihb.e z h5) (ihc.e w h6) (ihd.e v h7) h3, pt_chain3 (op_cmpR ho) (op_cmpR hp) (op_cmpR hq) (iha.e y h4) (ihb.e z h5) (ihc.e w h6) (ihd.e v h7) h3⟩
  exact .cv (fun i => rfl) rfl (fun x hx => (key x hx).1) fun x _ hx => (key x hx).2
theorem co_sl (A : Ass Γ C k X W) (a lo hi : DE) (iha : CO Γ a C X W) (ihl : CO Γ lo C X W) (ihh : CO Γ hi C X W) : CO Γ (.sl a lo hi) C X W := by
  refine .ev (fun i => rfl) rfl fun x hx => ?_
  cases q : dSl x with
  | none => rw [q] at hx; cases hx
  | some w =>
    obtain ⟨y, l, h⟩ := w
    rw [q] at hx
    obtain ⟨p, p2, rfl⟩ := dSl_ok q
    have part : ∀ (d : DE), CO Γ d C X W → ∀ l : Option Expr, partC d.noPart (fun z => chk d C (.e z)) l = true → PO X l (bif d.noPart then tNoPart else tPart (rd Γ d W).e) := fun d ih l hl => by
      cases l with
      | none =>
        have hl : d.noPart = true := hl
        rw [hl]
        exact po_none
      | some z =>
        have hl : (!d.noPart && chk d C (.e z)) = true := hl
        rw [Bool.and_eq_true, Bool.not_eq_true'] at hl
        rw [hl.1]
        exact po_some (ih.e z hl.2)
    have hx : (chk a C (.e y) && partC lo.noPart (fun z => chk lo C (.e z)) l && partC hi.noPart (fun z => chk hi C (.e z)) h) = true := hx
    simp only [Bool.and_eq_true] at hx
    have q := pe_slice (p2 := p) (pos := p2) sl_list (iha.e y hx.1.1) (part lo ihl l hx.1.2) (part hi ihh h hx.2)
    rw [A.K] at q
    exact q
theorem co_and (A : Ass Γ C k X W) (a b : DE) (iha : CO Γ a C X W) (ihb : CO Γ b C X W) : CO Γ (.and a b) C X W := by
  refine ⟨fun x hx => ?_, fun x hx => ?_, (fun xs hx => nomatch hx), (fun xs ks hx => nomatch hx), (fun a x e hx => nomatch e)⟩
  · have hx : (match dBo2 .And x with | some (y, z) => chk a C (.e y) && chk b C (.e z) | none => false) = true := hx
    cases q : dBo2 .And x with
    | none => rw [q] at hx; cases hx
    | some w =>
      obtain ⟨y, z⟩ := w
      rw [q] at hx
      obtain ⟨g1, g2⟩ := Bool.and_eq_true_iff.mp (show (chk a C (.e y) && chk b C (.e z)) = true from hx)
      obtain ⟨p, rfl | ⟨y1, y2, r, rfl, rfl⟩⟩ := dBo2_ok q
      · exact pe_and (iha.e y g1) (pe_one (ihb.e z g2))
      · exact pe_and (iha.e y g1) (ihb.e _ g2)
  · have hx : (match dBo2 .And x with | some (y, z) => chk a C (.t y) && chk b C (.t z) | none => false) = true := hx
    cases q : dBo2 .And x with
    | none => rw [q] at hx; cases hx
    | some w =>
      obtain ⟨y, z⟩ := w
      rw [q] at hx
      obtain ⟨g1, g2⟩ := Bool.and_eq_true_iff.mp (show (chk a C (.t y) && chk b C (.t z)) = true from hx)
      have hw : PW X x (tAnd (rd Γ a W).t (rd Γ b W).t) := by
        obtain ⟨p, rfl | ⟨y1, y2, r, rfl, rfl⟩⟩ := dBo2_ok q
        · exact pw_and (iha.t y g1).1 (pw_and1 (ihb.t z g2).1)
        · exact pw_and (iha.t y g1).1 ((ihb.t _ g2).2 rfl)
      exact ⟨hw.pt, fun _ => hw⟩
theorem co_or (A : Ass Γ C k X W) (a b : DE) (iha : CO Γ a C X W) (ihb : CO Γ b C X W) : CO Γ (.or a b) C X W := by
  refine ⟨fun x hx => ?_, fun x hx => ?_, (fun xs hx => nomatch hx), (fun xs ks hx => nomatch hx), (fun a x e hx => nomatch e)⟩
  · have hx : (match dBo2 .Or x with | some (y, z) => chk a C (.e y) && chk b C (.e z) | none => false) = true := hx
    cases q : dBo2 .Or x with
    | none => rw [q] at hx; cases hx
    | some w =>
      obtain ⟨y, z⟩ := w
      rw [q] at hx
      obtain ⟨g1, g2⟩ := Bool.and_eq_true_iff.mp (show (chk a C (.e y) && chk b C (.e z)) = true from hx)
      obtain ⟨p, rfl | ⟨y1, y2, r, rfl, rfl⟩⟩ := dBo2_ok q
      · exact pe_or (iha.e y g1) (pe_one (ihb.e z g2))
      · exact pe_or (iha.e y g1) (ihb.e _ g2)
  · have hx : (match dBo2 .Or x with | some (y, z) => chk a C (.t y) && chk b C (.t z) | none => false) = true := hx
    cases q : dBo2 .Or x with
    | none => rw [q] at hx; cases hx
    | some w =>
      obtain ⟨y, z⟩ := w
      rw [q] at hx
      obtain ⟨g1, g2⟩ := Bool.and_eq_true_iff.mp (show (chk a C (.t y) && chk b C (.t z)) = true from hx)
      have hw : PW X x (tOr (rd Γ a W).t (rd Γ b W).t) := by
        obtain ⟨p, rfl | ⟨y1, y2, r, rfl, rfl⟩⟩ := dBo2_ok q
        · exact pw_or (iha.t y g1).1 (pw_or1 (ihb.t z g2).1)
        · exact pw_or (iha.t y g1).1 ((ihb.t _ g2).2 rfl)
      exact ⟨hw.pt, fun _ => hw⟩
theorem co_ite (A : Ass Γ C k X W) (c a b : DE) (ihc : CO Γ c C X W) (iha : CO Γ a C X W) (ihb : CO Γ b C X W) : CO Γ (.ite c a b) C X W := by
  refine ⟨fun x hx => ?_, (fun x hx => nomatch hx), (fun xs hx => nomatch hx), (fun xs ks hx => nomatch hx), (fun a x e hx => nomatch e)⟩
  have hx : (match dIf x with | some (u, y, z) => chk c C (.t u) && chk a C (.e y) && chk b C (.e z) | none => false) = true := hx
  cases q : dIf x with
  | none => rw [q] at hx; cases hx
  | some w =>
    obtain ⟨u, y, z⟩ := w
    rw [q] at hx
    obtain ⟨p, rfl⟩ := dIf_ok q
    have hx : (chk c C (.t u) && chk a C (.e y) && chk b C (.e z)) = true := hx
    simp only [Bool.and_eq_true] at hx
    exact pe_ifExp (ihc.t u hx.1.1).1 (iha.e y hx.1.2) (ihb.e z hx.2)
theorem co_nil (A : Ass Γ C k X W) : CO Γ .nil C X W := by
  refine ⟨(fun x hx => nomatch hx), (fun x hx => nomatch hx), fun xs hx => ?_, fun xs ks hx => ?_, (fun a x e hx => nomatch e)⟩
  · cases xs with
    | nil => exact pa_nil
    | cons x r => cases hx
  · cases xs with
    | nil =>
      cases ks with
      | nil => exact ⟨pak_kw pk_nil, fun _ => pk_nil⟩
      | cons => cases hx
    | cons x r => cases hx
theorem co_cons (A : Ass Γ C k X W) (a r : DE) (iha : CO Γ a C X W) (ihr : CO Γ r C X W) : CO Γ (.cons a r) C X W := by
  refine ⟨(fun x hx => nomatch hx), (fun x hx => nomatch hx), fun xs hx => ?_, fun xs ks hx => ?_, fun a' x e hx => ?_⟩
  · cases xs with
    | nil => cases hx
    | cons x rs =>
      have hx : (nStar x && chk a C (.e x) && chk r C (.a rs)) = true := hx
      simp only [Bool.and_eq_true] at hx
      exact pa_cons (iha.e x hx.1.2) (ihr.a rs hx.2) (star_one hx.1.1)
  · cases xs with
    | nil =>
      cases ks with
      | nil => cases hx
      | cons kw ks =>
        obtain ⟨nm, x, kp⟩ := kw
        have hx : (chk a C (.e x) && chk r C (.k [] ks)) = true := hx
        rw [Bool.and_eq_true] at hx
        have q1 : PK X (⟨nm, x, kp⟩ :: ks) (tCons (rd Γ a W).e (rd Γ r W).a) := pk_cons (iha.e x hx.1) ((ihr.k [] ks hx.2).2 rfl)
        exact ⟨pak_kw q1, fun _ => q1⟩
    | cons x rs =>
      have hx : (nStar x && chk a C (.e x) && chk r C (.k rs ks)) = true := hx
      simp only [Bool.and_eq_true] at hx
      exact ⟨pak_cons (iha.e x hx.1.2) hx.1.1 (ihr.k rs ks hx.2).1, fun z => nomatch z⟩
  · cases e
    have hx : (nStar x && chk a C (.e x) && chk .nil C (.a [])) = true := hx
    simp only [Bool.and_eq_true] at hx
    exact iha.e x hx.1.2
end
end MP
set_option Elab.async false
set_option linter.all false
set_option maxRecDepth 100000
set_option maxHeartbeats 1000000
namespace MP
open PySem PyProof.Rows
open L2 hiding St
section
variable {Γ : GE} {C : CC} {X : Cx} {W : WX} {d : DE} {k : Nat}
theorem co_lst (A : Ass Γ C k X W) (as : DE) (ih : CO Γ as C X W) : CO Γ (.lst as) C X W := by
  refine .ev (fun i => rfl) rfl fun x hx => ?_
  cases q : dL x with
  | none => rw [q] at hx; cases hx
  | some es =>
    rw [q] at hx
    obtain ⟨p, rfl⟩ := dL_ok q
    exact pe_lst (ih.a es hx)
theorem co_tup (A : Ass Γ C k X W) (as : DE) (ih : CO Γ as C X W) : CO Γ (.tup as) C X W := by
  refine .ev (fun i => rfl) rfl fun x hx => ?_
  cases q : dT x with
  | none => rw [q] at hx; cases hx
  | some es =>
    rw [q] at hx
    obtain ⟨k', p, rfl⟩ := dT_ok q
    exact pe_tup (ih.a es hx)
theorem co_fld (A : Ass Γ C k X W) (a : DE) (f : Str) (ih : CO Γ a C X W) : CO Γ (.fld a f) C X W := by
  refine .ev (fun i => rfl) rfl fun x hx => ?_
  cases q : dAt x with
  | none => rw [q] at hx; cases hx
  | some w =>
    obtain ⟨y, g⟩ := w
    rw [q] at hx
    obtain ⟨p, rfl⟩ := dAt_ok q
    have hx : (decide (f = g) && abB y && chk a C (.e y)) = true := hx
    simp only [Bool.and_eq_true, decide_eq_true_eq] at hx
    obtain ⟨⟨rfl, h2⟩, h3⟩ := hx
    have q := pe_fld (pos := p) (ih.e y h3) (ab_ok (f := f) h2)
    rw [A.K] at q
    exact q
theorem co_call (A : Ass Γ C k X W) (f : Nat) (as : DE) (ih : CO Γ as C X W) : CO Γ (.call f as) C X W := by
  refine .ev (fun i => rfl) rfl fun x hx => ?_
  cases q : dCall x with
  | none => rw [q] at hx; cases hx
  | some w =>
    obtain ⟨g, es, ks⟩ := w
    rw [q] at hx
    obtain ⟨p, p2, rfl⟩ := dCall_ok q
    have hx : (match C.sg.find? fun p => decide (p.2.f = f) with
      | some (h, s) => decide (h = g) && decide (es.length = s.np) && kwOk ks s.ks && C.glo g && es.all nStar && decide (as.cnt = s.np + s.ks.length) && chk as C (.k es ks)
      | none => false) = true := hx
    cases q2 : C.sg.find? fun p => decide (p.2.f = f) with
    | none => rw [q2] at hx; cases hx
    | some hs =>
      obtain ⟨h, s⟩ := hs
      rw [q2] at hx
      have hx : (decide (h = g) && decide (es.length = s.np) && kwOk ks s.ks && C.glo g && es.all nStar && decide (as.cnt = s.np + s.ks.length) && chk as C (.k es ks)) = true := hx
      simp only [Bool.and_eq_true, decide_eq_true_eq] at hx
      obtain ⟨⟨⟨⟨⟨⟨rfl, h2⟩, h3⟩, h4⟩, h5⟩, h6⟩, h7⟩ := hx
      have hf0 := List.find?_some (p := fun p : Str × Sig => decide (p.2.f = f)) q2
      have hf : s.f = f := of_decide_eq_true hf0
      subst hf
      obtain ⟨a1, a2, _⟩ := A.glo h4
      have hc := A.sigs (h, s) (List.mem_of_find?_eq_some q2)
      rw [← h6] at hc
      exact pe_callA hc A.room A.tk a1 a2 (ih.k es ks h7).1 (fun vs H Q E h => by rw [h.1, h6]) h2 h3 h5
theorem src_ok (A : Ass Γ C k X W) {kd : IK} {s : DE} {iter tg : Expr} {es : List Expr} (ih : CO Γ s C X W) (hs : srcOk kd s = true) (h : srcE kd C iter tg = some es) (hc : chk s C (.a es) = true) : PI X tg iter (rdIt Γ.G kd (rd Γ s W)) := by
  have hk := A.K
  cases kd with
  | seq =>
    dsimp only [srcE] at h
    split at h <;> cases h
    cases s <;> first | cases hs | skip
    rename_i a r
    cases r <;> first | cases hs | skip
    have q := pi_seq (tg := tg) (ih.h a iter rfl hc)
    rw [hk] at q
    exact q
  | str =>
    dsimp only [srcE] at h
    split at h <;> cases h
    cases s <;> first | cases hs | skip
    rename_i a r
    cases r <;> first | cases hs | skip
    exact pi_str (ih.h a iter rfl hc)
  | enum =>
    dsimp only [srcE] at h
    split at h
    · rename_i f x es' q1 q2
      split at h <;> cases h
      rename_i hb
      simp only [Bool.and_eq_true, decide_eq_true_eq] at hb
      obtain ⟨⟨rfl, hb⟩, hn⟩ := hb
      obtain ⟨p, p2, rfl⟩ := dCall_ok q1
      obtain ⟨k', p3, rfl⟩ := dT_ok q2
      obtain ⟨a1, a2, _⟩ := A.bltn hb
      have q := pi_enumA (p := p) (pos := p2) (tpos := p3) (elts := es') (kk := k') a1 a2 (ih.a [x] hc) (star_one hn)
      rw [hk] at q
      exact q
    · cases h
  | rng1 =>
    dsimp only [srcE] at h
    split at h
    · rename_i f x q1
      split at h <;> cases h
      rename_i hb
      simp only [Bool.and_eq_true, decide_eq_true_eq] at hb
      obtain ⟨⟨rfl, hb⟩, hn⟩ := hb
      obtain ⟨p, p2, rfl⟩ := dCall_ok q1
      obtain ⟨a1, a2, _⟩ := A.bltn hb
      exact pi_range1 a1 a2 (ih.a [x] hc) (star_one hn)
    · cases h
  | rng2 =>
    dsimp only [srcE] at h
    split at h
    · rename_i f x y q1
      split at h <;> cases h
      rename_i hb
      simp only [Bool.and_eq_true, decide_eq_true_eq] at hb
      obtain ⟨⟨⟨rfl, hb⟩, hn⟩, hn2⟩ := hb
      obtain ⟨p, p2, rfl⟩ := dCall_ok q1
      obtain ⟨a1, a2, _⟩ := A.bltn hb
      exact pi_range2 a1 a2 (ih.a [x, y] hc) (by rw [star_one hn, star_one hn2]; rfl) (star_one hn2)
    · cases h
  | zip => cases h
  | revr =>
    dsimp only [srcE] at h
    split at h
    · rename_i f g x q1
      split at h <;> cases h
      rename_i hb
      simp only [Bool.and_eq_true, decide_eq_true_eq] at hb
      obtain ⟨⟨⟨⟨⟨⟨rfl, rfl⟩, hb⟩, hb2⟩, hn⟩, _⟩, hn2⟩ := hb
      obtain ⟨p, p2, p3, p4, rfl⟩ := dLr_ok q1
      obtain ⟨a1, a2, _⟩ := A.bltn hb
      obtain ⟨b1, b2, _⟩ := A.bltn hb2
      cases s <;> first | cases hs | skip
      rename_i a r
      cases r <;> first | cases hs | skip
      exact pi_revR a1 a2 (prg_1 b1 b2 (ih.h a x rfl hc) (star_one hn)) (by rfl)
    · cases h
def COk (Γ : GE) (d : DE) : Prop := ∀ C k X W, Ass Γ C k X W → CO Γ d C X W
/-- a comprehension's own text -/
structure LcOk (Γ : GE) (C : CC) (X : Cx) (W : WX) (k : IK) (src : DE) (tg : Tg) (own : List Nat) (c b : DE) (l : LCp) : Prop where
  src : PI X l.tg l.iter (rdIt Γ.G k (rd Γ src W))
  blk : BlkOk X.N X.env.scope l.sc (ownN C own)
  tg : ∀ (s : Shared) (H : Hp) (D : Addr) (cl : List (Str × Addr)) (fp : List Addr), PG (X.blk s H l.sc (compEnvC l.sc cl D X.env) fp) l.tg (tgR Γ.G.K tg)
  c : ∀ (s : Shared) (H : Hp) (D : Addr) (cl : List (Str × Addr)) (fp : List Addr), PTs (X.blk s H l.sc (compEnvC l.sc cl D X.env) fp) l.ifs (bif c.noIf then tYes else (rd Γ c W0).t)
  b : ∀ (s : Shared) (H : Hp) (D : Addr) (cl : List (Str × Addr)) (fp : List Addr), PE (X.blk s H l.sc (compEnvC l.sc cl D X.env) fp) l.elt (rd Γ b W0).e
  ns : ∀ x, foldedSetIterable l.iter X.env x = pure x
  hh : C.hot = false
def lcB (k : IK) (src : DE) (tg : Tg) (own : List Nat) (c b : DE) (C : CC) (l : LCp) : Bool := match srcE k C l.iter l.tg with
  | some es => chk src C (.a es) && blkB C l.sc own && chkG (C.blk l.sc) tg l.tg && notSet l.iter && ifsC c.noIf (fun u => chk c (C.blk l.sc) (.t u)) l.ifs && chk b (C.blk l.sc) (.e l.elt)
  | none => false
theorem lc_ok (A : Ass Γ C k X W) {kd : IK} {src : DE} {tg : Tg} {own : List Nat} {c b : DE} {l : LCp} (ihs : COk Γ src) (ihc : COk Γ c) (ihb : COk Γ b) (hs : srcOk kd src = true) (h : lcB kd src tg own c b C l = true) : LcOk Γ C X W kd src tg own c b l := by
  unfold lcB at h
  cases q : srcE kd C l.iter l.tg with
  | none => rw [q] at h; cases h
  | some es =>
    rw [q] at h
    have h : (chk src C (.a es) && blkB C l.sc own && chkG (C.blk l.sc) tg l.tg && notSet l.iter && ifsC c.noIf (fun u => chk c (C.blk l.sc) (.t u)) l.ifs && chk b (C.blk l.sc) (.e l.elt)) = true := h
    simp only [Bool.and_eq_true] at h
    obtain ⟨⟨⟨⟨⟨h1, h2⟩, h3⟩, h4⟩, h5⟩, h6⟩ := h
    have hh := blk_hot h2
    refine ⟨src_ok A (ihs _ _ _ _ A) hs q h1, ?_, fun s H D cl fp => chkG_ok (A.blk hh l.sc s H D cl fp) tg _ h3, fun s H D cl fp => ?_, fun s H D cl fp => (ihb _ _ _ _ (A.blk hh l.sc s H D cl fp)).e _ h6, notSet_ok h4, hh⟩
    · have := blk_ok h2
      rw [A.N, A.sc]
      exact this
    · cases hl : l.ifs with
      | nil =>
        rw [hl] at h5
        have h5 : c.noIf = true := h5
        rw [h5]
        exact pts_nil
      | cons u r =>
        rw [hl] at h5
        cases r with
        | cons u2 r => cases h5
        | nil =>
          have h5 : (!c.noIf && chk c (C.blk l.sc) (.t u)) = true := h5
          rw [Bool.and_eq_true, Bool.not_eq_true'] at h5
          rw [h5.1]
          exact pts_one ((ihc _ _ _ _ (A.blk hh l.sc s H D cl fp)).t u h5.2).1
theorem co_comp (A : Ass Γ C k X W) (kd : IK) (src : DE) (tg : Tg) (own : List Nat) (c b : DE) (ihs : COk Γ src) (ihc : COk Γ c) (ihb : COk Γ b) (hs : srcOk kd src = true) : CO Γ (.comp kd src tg own c b) C X W := by
  refine .ev (f := fun x => match dLC x with | some l => lcB kd src tg own c b C l | none => false) (fun i => rfl) rfl fun x hx => ?_
  cases q : dLC x with
  | none => rw [q] at hx; cases hx
  | some l =>
    rw [q] at hx
    obtain ⟨p, rfl⟩ := dLC_ok q
    have L := lc_ok A ihs ihc ihb hs hx
    have q := pe_lc (pos := p) (A.calm L.hh) A.nd L.src L.blk L.tg L.c L.b L.ns
    rw [own_map] at q
    exact q
/-- a caught exception's field -/
theorem co_xfld (A : Ass Γ C k X W) (j : Nat) (f : Str) (hw : (match Γ.xc with | some c => Γ.xfs.contains (c, f) | none => false) = true) : CO Γ (.xfld j f) C X W := by
  refine .ev (fun i => rfl) rfl fun x hx => ?_
  cases q : dAt x with
  | none => rw [q] at hx; cases hx
  | some w =>
    obtain ⟨y, g⟩ := w
    rw [q] at hx
    obtain ⟨p, rfl⟩ := dAt_ok q
    replace hx : (decide (f = g) && abB y && (match dN y with
      | some nm => decide (C.N[j]? = some nm) && C.vis nm && plainN nm
      | none => false)) = true := hx
    rw [Bool.and_eq_true, Bool.and_eq_true, decide_eq_true_eq] at hx
    obtain ⟨⟨rfl, h2⟩, h3⟩ := hx
    show PE X _ (match Γ.G.ex with
      | some (a, c, o) => tXf a (.ref (Γ.G.cls c)) o (Γ.G.cls c) f (tVar j)
      | none => tNo)
    cases e : Γ.G.ex with
    | none => exact ⟨fun _ _ _ _ _ _ z => z.elim⟩
    | some t =>
      obtain ⟨a, c, o⟩ := t
      have hv := of_name A h3
      obtain ⟨_, hxc, Y, oe, pn, rfl, hz, hf⟩ := A.exx a c o e
      rw [hxc] at hw
      obtain ⟨t1, t2⟩ := A.xfs (c, f) (by simpa using hw)
      have eK : Y.K = Γ.G.K := A.K
      rw [← eK] at t1 t2
      exact pe_xf t1 t2 hz hf hv (ab_ok h2)
/-- isinstance of a caught exception -/
theorem is_x (A : Ass Γ C k X W) {j : Nat} {a c : Addr} {o : Option Addr} {y x : Expr} {f : Str} {p q : Pos} {v : V} (e : Γ.G.ex = some (a, c, o)) (hw : (match Γ.xc with | some c => Γ.xcs.contains c | none => false) = true) (h1 : f = "isinstance") (h2 : C.btl f = true) (hs : nStar y = true) (hs2 : nStar x = true)
    (hy : PE X y (tVar j)) (hx : PE X x (tC v)) : PE X (.Call (.Name f p) [y, x] [] q) (tXis Γ.G.K (Γ.G.cls c) a o (tVar j) v) := by
  subst h1
  obtain ⟨_, hxc, Y, oe, pn, rfl, hz, hf⟩ := A.exx a c o e
  rw [hxc] at hw
  have t := A.xcs c (by simpa using hw)
  have eK : Y.K = Γ.G.K := A.K
  rw [← eK] at t
  obtain ⟨b1, b2, b3, b4⟩ := A.btln h2
  obtain ⟨_, _, _, _, _, _, _, _, b9, _, _⟩ := built1
  have r := pe_callB (p := p) (pos := q) (call_isX (pn := pn) t hz hf) b1 b2 b9 (pa_cons hy (pa_cons hx pa_nil (star_one hs2)) (star_one hs)) b3 b4 (star_one hs) (by rw [star_one hs2]; rfl)
  rw [eK] at r
  exact r
theorem co_xis (A : Ass Γ C k X W) (j c' : Nat) (hw : (match Γ.xc with | some c => Γ.xcs.contains c | none => false) = true) : CO Γ (.xis j c') C X W := by
  refine .ev (fun i => rfl) rfl fun x hx => ?_
  cases q : dCall x with
  | none => rw [q] at hx; cases hx
  | some w =>
    obtain ⟨g, es, ks⟩ := w
    rw [q] at hx
    obtain ⟨p, p2, rfl⟩ := dCall_ok q
    rcases es with _ | ⟨y, _ | ⟨z, _ | ⟨y3, yr⟩⟩⟩ <;> rcases ks with _ | ⟨k1, kr⟩ <;> first | cases hx | skip
    replace hx : (decide (g = "isinstance") && C.btl g && nStar y && nStar z && (match dN z with | some n => C.glo n && decide ((n, c') ∈ C.cl) | none => false) && (match dN y with
      | some nm => decide (C.N[j]? = some nm) && C.vis nm && plainN nm
      | none => false)) = true := hx
    rw [Bool.and_eq_true, Bool.and_eq_true, Bool.and_eq_true, Bool.and_eq_true, Bool.and_eq_true, decide_eq_true_eq] at hx
    obtain ⟨⟨⟨⟨⟨h1, h2⟩, h3⟩, h4⟩, h5⟩, h6⟩ := hx
    show PE X _ (match Γ.G.ex with
      | some (a, c, o) => tXis Γ.G.K (Γ.G.cls c) a o (tVar j) (.ref (Γ.G.cls c'))
      | none => tNo)
    cases e : Γ.G.ex with
    | none => exact ⟨fun _ _ _ _ _ _ z => z.elim⟩
    | some t =>
      obtain ⟨a, c, o⟩ := t
      refine is_x A e hw h1 h2 h3 h4 (of_name A h6) ?_
      cases qn : dN z with
      | none => rw [qn] at h5; cases h5
      | some n =>
        rw [qn] at h5
        obtain ⟨pn, rfl⟩ := dN_ok qn
        replace h5 : (C.glo n && decide ((n, c') ∈ C.cl)) = true := h5
        rw [Bool.and_eq_true, decide_eq_true_eq] at h5
        obtain ⟨a1, a2, _⟩ := A.glo h5.1
        exact pe_glob a1 (A.cls _ h5.2) rfl a2
theorem boot_VE : bootBuiltins "ValueError" = some (.type "ValueError") := by decide +kernel
theorem co_xisV (A : Ass Γ C k X W) (j : Nat) (hw : (match Γ.xc with | some c => Γ.xcs.contains c | none => false) = true) : CO Γ (.xisV j) C X W := by
  refine .ev (fun i => rfl) rfl fun x hx => ?_
  cases q : dCall x with
  | none => rw [q] at hx; cases hx
  | some w =>
    obtain ⟨g, es, ks⟩ := w
    rw [q] at hx
    obtain ⟨p, p2, rfl⟩ := dCall_ok q
    rcases es with _ | ⟨y, _ | ⟨z, _ | ⟨y3, yr⟩⟩⟩ <;> rcases ks with _ | ⟨k1, kr⟩ <;> first | cases hx | skip
    replace hx : (decide (g = "isinstance") && C.btl g && nStar y && nStar z && (match dN z with | some n => decide (n = "ValueError") && C.btl n | none => false) && (match dN y with
      | some nm => decide (C.N[j]? = some nm) && C.vis nm && plainN nm
      | none => false)) = true := hx
    rw [Bool.and_eq_true, Bool.and_eq_true, Bool.and_eq_true, Bool.and_eq_true, Bool.and_eq_true, decide_eq_true_eq] at hx
    obtain ⟨⟨⟨⟨⟨h1, h2⟩, h3⟩, h4⟩, h5⟩, h6⟩ := hx
    show PE X _ (match Γ.G.ex with
      | some (a, c, o) => tXis Γ.G.K (Γ.G.cls c) a o (tVar j) (.ty "ValueError")
      | none => tNo)
    cases e : Γ.G.ex with
    | none => exact ⟨fun _ _ _ _ _ _ z => z.elim⟩
    | some t =>
      obtain ⟨a, c, o⟩ := t
      refine is_x A e hw h1 h2 h3 h4 (of_name A h6) ?_
      cases qn : dN z with
      | none => rw [qn] at h5; cases h5
      | some n =>
        rw [qn] at h5
        obtain ⟨pn, rfl⟩ := dN_ok qn
        replace h5 : (decide (n = "ValueError") && C.btl n) = true := h5
        rw [Bool.and_eq_true, decide_eq_true_eq] at h5
        obtain ⟨rfl, h5⟩ := h5
        obtain ⟨a1, a2, a3, a4⟩ := A.btln h5
        exact pe_bltn a1 a2 boot_VE rfl a3 a4
theorem co_dict1 (A : Ass Γ C k X W) (a b : DE) (iha : CO Γ a C X W) (ihb : CO Γ b C X W) : CO Γ (.dict1 a b) C X W := by
  refine .ev (fun i => rfl) rfl fun x hx => ?_
  cases q : dD1 x with
  | none => rw [q] at hx; cases hx
  | some w =>
    obtain ⟨y, z⟩ := w
    rw [q] at hx
    have hx : (chk a C (.e y) && chk b C (.e z)) = true := hx
    rw [Bool.and_eq_true] at hx
    obtain ⟨p, rfl⟩ := dD1_ok q
    exact pe_disp (pps_cons (iha.e y hx.1) (ihb.e z hx.2) pps_nil) rfl rfl (fun z => by cases z) (show (1 : Nat) ≤ 15 by decide)
theorem co_dcomp (A : Ass Γ C k X W) (kd : IK) (src : DE) (tg : Tg) (own : List Nat) (c a b : DE) (ihs : COk Γ src) (ihc : COk Γ c) (iha : COk Γ a) (ihb : COk Γ b) (hs : srcOk kd src = true) : CO Γ (.dcomp kd src tg own c a b) C X W := by
  refine .ev (f := fun x => match dDC x with | some w => lcB kd src tg own c b C w.1 && chk a (C.blk w.1.sc) (.e w.2) | none => false) (fun i => rfl) rfl fun x hx => ?_
  cases q : dDC x with
  | none => rw [q] at hx; cases hx
  | some w =>
    obtain ⟨l, kx⟩ := w
    rw [q] at hx
    have hx : (lcB kd src tg own c b C l && chk a (C.blk l.sc) (.e kx)) = true := hx
    rw [Bool.and_eq_true] at hx
    obtain ⟨p, rfl⟩ := dDC_ok q
    have L := lc_ok A ihs ihc ihb hs hx.1
    have q := pe_dc (pos := p) (A.calm L.hh) A.nd L.src L.blk L.tg L.c (fun s H D cl fp => (iha _ _ _ _ (A.blk L.hh l.sc s H D cl fp)).e _ hx.2) L.b L.ns
    rw [own_map] at q
    exact q
/-- an expression's text that the checker takes runs as its reading says -/
theorem co_all (Γ : GE) : ∀ (l : Bool) (d : DE), wf Γ l d = true → COk Γ d := fun l d => by
  induction d generalizing l with
  | lit d => exact fun h C k X W A => co_lit A d
  | gl n => exact fun h C k X W A => co_gl A n
  | pk i => exact fun h C k X W A => .ev (fun i => rfl) rfl fun x hx => of_name A hx
  | mv i => exact fun h C k X W A => .ev (fun i => rfl) rfl fun x hx => of_name A hx
  | o1 o a ih =>
    intro h C k X W A
    cases l with
    | true => cases h
    | false =>
      have h : (wf Γ false a && o1Ok Γ.G.cs o) = true := h
      rw [Bool.and_eq_true] at h
      exact co_o1 A o a (ih _ h.1 _ _ _ _ A)
  | o2 o a b iha ihb =>
    intro h C k X W A
    cases l with
    | true => cases h
    | false =>
      have h : (wf Γ false a && wf Γ false b && !meth2 o) = true := h
      simp only [Bool.and_eq_true] at h
      exact co_o2 A o a b (iha _ h.1.1 _ _ _ _ A) (ihb _ h.1.2 _ _ _ _ A)
  | mt o a b iha ihb =>
    intro h C k X W A
    cases l with
    | true => cases h
    | false =>
      have h : (wf Γ false a && wf Γ false b && meth2 o) = true := h
      simp only [Bool.and_eq_true] at h
      exact co_mt A o a b (iha _ h.1.1 _ _ _ _ A) (ihb _ h.1.2 _ _ _ _ A)
  | o3 o a b c iha ihb ihc =>
    intro h C k X W A
    cases l with
    | true => cases h
    | false =>
      have h : (wf Γ false a && wf Γ false b && wf Γ false c && c.movs.isEmpty) = true := h
      simp only [Bool.and_eq_true] at h
      exact co_o3 A o a b c (iha _ h.1.1.1 _ _ _ _ A) (ihb _ h.1.1.2 _ _ _ _ A) (ihc _ h.1.2 _ _ _ _ A)
  | ch2 o p a b c iha ihb ihc =>
    intro h C k X W A
    cases l with
    | true => cases h
    | false =>
      have h : (wf Γ false a && wf Γ false b && wf Γ false c && cmpR o && cmpR p) = true := h
      simp only [Bool.and_eq_true] at h
      exact co_ch2 A o p a b c (iha _ h.1.1.1.1 _ _ _ _ A) (ihb _ h.1.1.1.2 _ _ _ _ A) (ihc _ h.1.1.2 _ _ _ _ A)
  | ch3 o p q a b c d iha ihb ihc ihd =>
    intro h C k X W A
    cases l with
    | true => cases h
    | false =>
      have h : (wf Γ false a && wf Γ false b && wf Γ false c && wf Γ false d && cmpR o && cmpR p && cmpR q) = true := h
      simp only [Bool.and_eq_true] at h
      exact co_ch3 A o p q a b c d (iha _ h.1.1.1.1.1.1 _ _ _ _ A) (ihb _ h.1.1.1.1.1.2 _ _ _ _ A) (ihc _ h.1.1.1.1.2 _ _ _ _ A) (ihd _ h.1.1.1.2 _ _ _ _ A)
  | sl a lo hi iha ihl ihh =>
    intro h C k X W A
    cases l with
    | true => cases h
    | false =>
      have h : (wf Γ false a && wf Γ false lo && wf Γ false hi) = true := h
      simp only [Bool.and_eq_true] at h
      exact co_sl A a lo hi (iha _ h.1.1 _ _ _ _ A) (ihl _ h.1.2 _ _ _ _ A) (ihh _ h.2 _ _ _ _ A)
  | and a b iha ihb =>
    intro h C k X W A
    cases l with
    | true => cases h
    | false =>
      have h : (wf Γ false a && wf Γ false b) = true := h
      simp only [Bool.and_eq_true] at h
      exact co_and A a b (iha _ h.1 _ _ _ _ A) (ihb _ h.2 _ _ _ _ A)
  | or a b iha ihb =>
    intro h C k X W A
    cases l with
    | true => cases h
    | false =>
      have h : (wf Γ false a && wf Γ false b) = true := h
      simp only [Bool.and_eq_true] at h
      exact co_or A a b (iha _ h.1 _ _ _ _ A) (ihb _ h.2 _ _ _ _ A)
  | ite c a b ihc iha ihb =>
    intro h C k X W A
    cases l with
    | true => cases h
    | false =>
      have h : (wf Γ false c && wf Γ false a && wf Γ false b) = true := h
      simp only [Bool.and_eq_true] at h
      exact co_ite A c a b (ihc _ h.1.1 _ _ _ _ A) (iha _ h.1.2 _ _ _ _ A) (ihb _ h.2 _ _ _ _ A)
  | edict t =>
    refine fun h C k X W A => .ev (fun i => rfl) rfl fun x hx => ?_
    obtain ⟨p, rfl⟩ := isED_ok hx
    cases t with
    | true => exact pe_dnewT
    | false => exact pe_dnewK
  | nil => exact fun h C k X W A => co_nil A
  | cons a r iha ihr =>
    intro h C k X W A
    cases l with
    | false => cases h
    | true =>
      have h : (wf Γ false a && wf Γ true r) = true := h
      simp only [Bool.and_eq_true] at h
      exact co_cons A a r (iha _ h.1 _ _ _ _ A) (ihr _ h.2 _ _ _ _ A)
  | lst as ih =>
    intro h C k X W A
    cases l with
    | true => cases h
    | false => exact co_lst A as (ih true h _ _ _ _ A)
  | tup as ih =>
    intro h C k X W A
    cases l with
    | true => cases h
    | false => exact co_tup A as (ih true h _ _ _ _ A)
  | call f as ih =>
    intro h C k X W A
    cases l with
    | true => cases h
    | false =>
      have h : (wf Γ true as && as.movs.isEmpty) = true := h
      rw [Bool.and_eq_true] at h
      exact co_call A f as (ih true h.1 _ _ _ _ A)
  | fld a f ih =>
    intro h C k X W A
    cases l with
    | true => cases h
    | false =>
      have h : (wf Γ false a && Γ.flds.contains f) = true := h
      rw [Bool.and_eq_true] at h
      exact co_fld A a f (ih _ h.1 _ _ _ _ A)
  | comp k src tg own c b ihs ihc ihb =>
    intro h C k' X W A
    cases l with
    | true => cases h
    | false =>
      have h : (wf Γ true src && wf Γ false c && wf Γ false b && srcOk k src && (tgSlots tg).all fun j => own.contains j) = true := h
      simp only [Bool.and_eq_true] at h
      exact co_comp A k src tg own c b (ihs _ h.1.1.1.1) (ihc _ h.1.1.1.2) (ihb _ h.1.1.2) h.1.2
  | xfld j f =>
    intro h C k X W A
    cases l with
    | true => cases h
    | false => exact co_xfld A j f h
  | xis j c =>
    intro h C k X W A
    cases l with
    | true => cases h
    | false => exact co_xis A j c h
  | xisV j =>
    intro h C k X W A
    cases l with
    | true => cases h
    | false => exact co_xisV A j h
  | fz a ih =>
    intro h C k X W A
    cases l with
    | true => cases h
    | false =>
      have h : (wf Γ false a && a.fr && a.movs.isEmpty) = true := h
      simp only [Bool.and_eq_true] at h
      exact .ev (fun i => rfl) rfl fun x hx => (ih _ h.1.1 _ _ _ _ A).e x hx
  | dict1 a b iha ihb =>
    intro h C k X W A
    cases l with
    | true => cases h
    | false =>
      have h : (wf Γ false a && wf Γ false b && a.movs.isEmpty && b.movs.isEmpty) = true := h
      simp only [Bool.and_eq_true] at h
      exact co_dict1 A a b (iha _ h.1.1.1 _ _ _ _ A) (ihb _ h.1.1.2 _ _ _ _ A)
  | dcomp k src tg own c a b ihs ihc iha ihb =>
    intro h C k' X W A
    cases l with
    | true => cases h
    | false =>
      have h : (wf Γ true src && wf Γ false c && wf Γ false a && wf Γ false b && srcOk k src && (tgSlots tg).all fun j => own.contains j) = true := h
      simp only [Bool.and_eq_true] at h
      exact co_dcomp A k src tg own c a b (ihs _ h.1.1.1.1.1) (ihc _ h.1.1.1.1.2) (iha _ h.1.1.1.2) (ihb _ h.1.1.2) h.1.2
end
end MP
set_option Elab.async false
set_option linter.all false
set_option maxRecDepth 100000
set_option maxHeartbeats 1000000
namespace MP
open PySem PyProof.Rows
open L2 hiding St
/-! ### conditions of assignments -/
def isComp : Expr → Bool
  | .ListComp .. => true
  | .SetComp .. => true
  | .DictComp .. => true
  | _ => false
theorem sw_plain {v : Expr} {t : Option Expr} {l : Nat} {env : Env} (h : isComp v = false) : swapsWith v t l env = pure false := by
  cases v <;> first | rfl | cases h
theorem sw_noName {v t : Expr} {l : Nat} {env : Env} (h : dN t = none) : swapsWith v (some t) l env = pure false := by
  cases t <;> first | (cases v <;> rfl) | cases h
theorem sw_cell {v : Expr} {x : Str} {p : Pos} {l : Nat} {env : Env} (h : env.scope.names.lookup x ≠ some .local) : swapsWith v (some (.Name x p)) l env = pure false := by
  have e : (env.kindOf x == some .local) = false := by
    unfold Env.kindOf
    exact beq_eq_false_iff_ne.mpr h
  cases v <;> first | rfl | (unfold swapsWith; simp only [e]; simp)
def notTup : Expr → Bool
  | .Tuple .. => false
  | _ => true
theorem ss_plain {ts : List Expr} {v : Expr} {env : Env} (h : notTup v = true) : swappedStores ts v env = pure none := by
  cases v <;> first | cases h | skip
  all_goals (rcases ts with _ | ⟨t, _ | ⟨t2, r⟩⟩ <;> first | rfl | (cases t <;> rfl))
theorem ss_sub {o i v : Expr} {p : Pos} {env : Env} : swappedStores [.Subscript o i p] v env = pure none := rfl
def notFold : List Expr → Bool := fun vs => !(vs.all (foldedForSure 8)) && !(vs.all (constantsAlone 8))
theorem ss_two {x y : Str} {px py pt pt2 : Pos} {kt k2 : Nat} {a b : Expr} {env : Env} (hk : env.scope.kind = .function) (hx : env.scope.names.lookup x = some .local) (hy : env.scope.names.lookup y = some .local) (hl : py.line = px.line) (hxy : x ≠ y) (h1 : nStar a = true) (h2 : nStar b = true) (hf : notFold [a, b] = true) :
    swappedStores [.Tuple [.Name x px, .Name y py] kt pt] (.Tuple [a, b] k2 pt2) env = pure (some [x, y]) := by
  have kx : env.kindOf x = some .local := hx
  have ky : env.kindOf y = some .local := hy
  have hb : env.blockKind = .function := by unfold Env.blockKind; rw [hk]; rfl
  unfold notFold at hf
  rw [Bool.and_eq_true, Bool.not_eq_true', Bool.not_eq_true'] at hf
  have hs : ([a, b].any fun | .Starred .. => true | _ => false) = false := by
    refine List.any_eq_false.mpr fun e he => ?_
    have hn : nStar e = true := by
      rcases List.mem_cons.mp he with rfl | he
      · exact h1
      · rw [List.mem_singleton.mp he]; exact h2
    clear he hf
    cases e <;> first | exact Bool.false_ne_true | exact nomatch hn
  unfold swappedStores
  simp only [hs, hb, hf.1, hf.2]
  have e1 : (px.line == px.line) = true := by simp
  have e2 : (py.line == px.line) = true := by simp [hl]
  simp only [List.head?_cons, Option.map_some, Option.getD_some, List.filterMap_cons, kx, ky, Expr.pos, e1, e2, List.filterMap_nil, List.length_cons, List.length_nil]
  have hd : ([x, y] : List Str).eraseDups = [x, y] := by
    have : (y == x) = false := beq_eq_false_iff_ne.mpr (Ne.symm hxy)
    simp [List.eraseDups_cons, this]
  simp [hd]
  intro h
  simp only [List.any_cons, List.any_nil, Bool.or_false, Bool.or_eq_false_iff] at hs
  rcases h with h | h
  · exact absurd (hs.1.symm.trans h) Bool.false_ne_true
  · exact absurd (hs.2.symm.trans h) Bool.false_ne_true
inductive InS where
  | one (s : Stmt) | blk (ss : List Stmt)
def DS.isDem : DS → Bool
  | .dem _ => true
  | _ => false
def isDoc : Stmt → Bool
  | .Expr (.Constant (.str _) _ _) _ => true
  | .Pass _ => true
  | _ => false
def dAsg : Stmt → Option (Expr × Expr × Pos)
  | .Assign [t] v p => some (t, v, p)
  | _ => none
theorem dAsg_ok {s : Stmt} {t v : Expr} {p : Pos} (h : dAsg s = some (t, v, p)) : s = .Assign [t] v p := by
  unfold dAsg at h
  split at h <;> cases h
  rfl
def dAug : Stmt → Option (Expr × Operator × Expr)
  | .AugAssign t o v _ => some (t, o, v)
  | _ => none
theorem dAug_ok {s : Stmt} {t v : Expr} {o : Operator} (h : dAug s = some (t, o, v)) : ∃ p, s = .AugAssign t o v p := by
  unfold dAug at h
  split at h <;> cases h
  exact ⟨_, rfl⟩
def dIfS : Stmt → Option (Expr × List Stmt × List Stmt)
  | .If c a b _ => some (c, a, b)
  | _ => none
theorem dIfS_ok {s : Stmt} {c : Expr} {a b : List Stmt} (h : dIfS s = some (c, a, b)) : ∃ p, s = .If c a b p := by
  unfold dIfS at h
  split at h <;> cases h
  exact ⟨_, rfl⟩
def dFor : Stmt → Option (Expr × Expr × List Stmt)
  | .For t i b [] _ => some (t, i, b)
  | _ => none
theorem dFor_ok {s : Stmt} {t i : Expr} {b : List Stmt} (h : dFor s = some (t, i, b)) : ∃ p, s = .For t i b [] p := by
  unfold dFor at h
  split at h <;> cases h
  exact ⟨_, rfl⟩
def dWh : Stmt → Option (Expr × List Stmt)
  | .While c b [] _ => some (c, b)
  | _ => none
theorem dWh_ok {s : Stmt} {c : Expr} {b : List Stmt} (h : dWh s = some (c, b)) : ∃ p, s = .While c b [] p := by
  unfold dWh at h
  split at h <;> cases h
  exact ⟨_, rfl⟩
def dRet : Stmt → Option (Option Expr)
  | .Return v _ => some v
  | _ => none
theorem dRet_ok {s : Stmt} {v : Option Expr} (h : dRet s = some v) : ∃ p, s = .Return v p := by
  unfold dRet at h
  split at h <;> cases h
  exact ⟨_, rfl⟩
def dEx : Stmt → Option Expr
  | .Expr v _ => some v
  | _ => none
theorem dEx_ok {s : Stmt} {v : Expr} (h : dEx s = some v) : ∃ p, s = .Expr v p := by
  unfold dEx at h
  split at h <;> cases h
  exact ⟨_, rfl⟩
def isBrk : Stmt → Bool
  | .Break _ => true
  | _ => false
def isCnt : Stmt → Bool
  | .Continue _ => true
  | _ => false
/-- o.m(..) as a statement -/
def dMeS (s : Stmt) : Option (Expr × Str × List Expr) := match dEx s with
  | some v => dMe v
  | none => none
theorem dMeS_ok {s : Stmt} {o : Expr} {m : Str} {es : List Expr} (h : dMeS s = some (o, m, es)) : ∃ p q r, s = .Expr (.Call (.Attribute o m p) es [] q) r ∧ (p.endLine == q.line) = true := by
  unfold dMeS at h
  cases e : dEx s with
  | none => rw [e] at h; cases h
  | some v =>
    rw [e] at h
    obtain ⟨r, rfl⟩ := dEx_ok e
    obtain ⟨p, q, rfl, hl⟩ := dMe_ok h
    exact ⟨p, q, r, rfl, hl⟩
def CC.var (C : CC) (i : Nat) (x : Expr) : Bool := match dN x with
  | some nm => decide (C.N[i]? = some nm) && C.vis nm && plainN nm
  | none => false
def augO : Op2 → Option Operator
  | .add => some .Add
  | .sub => some .Sub
  | _ => none
/-- a name's own store of a comprehension's list -/
def swB (C : CC) (x : Str) (px : Pos) (e : DE) (v : Expr) : Bool := match isComp v with
  | false => true
  | true => match decide (C.sc.names.lookup x = some .local) with
    | false => true
    | true => match e, dLC v with
      | .comp .., some l => (px.line == v.pos.line) && !(l.sc.names.any fun (n, k) => n == x && (k == .local || k == .cell)) && decide (C.sc.kind = .function)
      | .dcomp .., _ => match dDC v with
        | some w => (px.line == v.pos.line) && !(w.1.sc.names.any fun (n, k) => n == x && (k == .local || k == .cell)) && decide (C.sc.kind = .function)
        | none => false
      | _, _ => false
def dNp : Expr → Option (Str × Pos)
  | .Name x p => some (x, p)
  | _ => none
theorem dNp_ok {e : Expr} {x : Str} {p : Pos} (h : dNp e = some (x, p)) : e = .Name x p := by
  unfold dNp at h
  split at h <;> cases h
  rfl
def isEL : Expr → Bool
  | .List [] _ => true
  | _ => false
theorem isEL_ok {e : Expr} (h : isEL e = true) : ∃ p, e = .List [] p := by
  unfold isEL at h
  split at h
  · exact ⟨_, rfl⟩
  · cases h
def dWn : Expr → Option (Str × Expr × Expr)
  | .Compare (.NamedExpr (.Name x _) v _) [.IsNot] [c] _ => some (x, v, c)
  | _ => none
theorem dWn_ok {e v c : Expr} {x : Str} (h : dWn e = some (x, v, c)) : ∃ p q r, e = .Compare (.NamedExpr (.Name x p) v q) [.IsNot] [c] r := by
  unfold dWn at h
  split at h <;> cases h
  exact ⟨_, _, _, rfl⟩
def parB (C : CC) (i j : Nat) (t v : Expr) (f : List Expr → Bool) : Bool := match d2 t, dT v with
  | some (x, y), some [a, b] => match dNp x, dNp y with
    | some (n, px), some (m, py) => decide (C.N[i]? = some n) && decide (C.N[j]? = some m) && decide (i ≠ j) && decide (n ≠ m) && decide (py.line = px.line) && decide (C.sc.names.lookup n = some .local) && decide (C.sc.names.lookup m = some .local) && decide (C.sc.kind = .function) && nStar a && nStar b && notFold [a, b] && f [a, b] && !C.hot
    | _, _ => false
  | _, _ => false
/-- raise C(..) -/
def dRs : Stmt → Option (Str × List Expr)
  | .Raise (some (.Call (.Name x _) es [] _)) none _ => some (x, es)
  | _ => none
theorem dRs_ok {s : Stmt} {x : Str} {es : List Expr} (h : dRs s = some (x, es)) : ∃ p q r, s = .Raise (some (.Call (.Name x p) es [] q)) none r := by
  unfold dRs at h
  split at h <;> cases h
  exact ⟨_, _, _, rfl⟩
/-- try: body, except x as n: suite -/
def dTry : Stmt → Option (List Stmt × Str × Option Str × Stmt × List Stmt)
  | .Try b [.ExceptHandler (some (.Name x _)) on (s :: r) _] [] [] _ => some (b, x, on, s, r)
  | _ => none
theorem dTry_ok {s b0 : Stmt} {b r : List Stmt} {x : Str} {on : Option Str} (h : dTry s = some (b, x, on, b0, r)) : ∃ p q q2, s = .Try b [.ExceptHandler (some (.Name x p)) on (b0 :: r) q] [] [] q2 := by
  unfold dTry at h
  split at h <;> cases h
  exact ⟨_, _, _, rfl⟩
def xfOk (C : CC) (oi : Option Nat) (f : Str) (e : Expr) : Bool := match oi with
  | some i => match dAt e with
    | some (o, g) => decide (f = g) && C.var i o && abB o
    | none => false
  | none => false
def chkA (C : CC) (oi : Option Nat) : List HA → List Expr → Bool
  | [], [] => true
  | .lit d :: r, e :: es => (match dK e with | some c => litC d c | none => false) && nStar e && chkA C oi r es
  | .xf f :: r, e :: es => xfOk C oi f e && nStar e && chkA C oi r es
  | _, _ => false
def dTup : Expr → Option (List Expr)
  | .Tuple es _ _ => some es
  | _ => none
theorem dTup_ok {e : Expr} {es : List Expr} (h : dTup e = some es) : ∃ k p, e = .Tuple es k p := by
  unfold dTup at h
  split at h <;> cases h
  exact ⟨_, _, rfl⟩
def tupOk (C : CC) (oi : Option Nat) (as : List HA) (v : Expr) : Bool := match dTup v with
  | some es => chkA C oi as es
  | none => false
def asgOk (C : CC) (oi : Option Nat) (j : Nat) (as : List HA) (t v : Expr) : Bool := match dNp t with
  | some (x, px) => decide (C.N[j]? = some x) && C.loc x && tupOk C oi as v
  | none => false
def chkH (C : CC) (oi : Option Nat) : HS → Stmt → Bool
  | .ret as, s => match dRet s with
    | some (some v) => tupOk C oi as v
    | _ => false
  | .retL d, s => match dRet s with
    | some (some v) => (match dK v with | some c => litC d c | none => false)
    | _ => false
  | .asg j as, s => match dAsg s with
    | some (t, v, p) => asgOk C oi j as t v
    | none => false
def onOk (C : CC) : Option Nat → Option Str → Bool
  | some i, some n => decide (C.N[i]? = some n) && decide (C.sc.names.lookup n = some .local)
  | none, none => true
  | _, _ => false
/-- within an except suite -/
def CC.suite (C : CC) : CC := { C with sg := C.hs, xg := [], tr := false, hot := true }
def chkS : DS → CC → InS → Bool
  | .seq a b, C, .blk sts => match a.isDem with
    | true => chkS b C (.blk sts)
    | false => match sts with
      | s :: r => chkS a C (.one s) && chkS b C (.blk r)
      | [] => false
  | .skip, C, .blk sts => sts.isEmpty
  | .nev, C, _ => true
  | .skip, C, .one s => isDoc s
  | .asg i e, C, .one s => match dAsg s with
    | some (t, v, p) => match dNp t with
      | some (x, px) => decide (C.N[i]? = some x) && C.loc x && chk e C (.e v) && swB C x px e v
      | none => false
    | none => false
  | .asgT tg e, C, .one s => match dAsg s with
    | some (t, v, p) => chkG C tg t && nStar t && decide (dN t = none) && notTup v && chk e C (.e v)
    | none => false
  | .par i j as, C, .one s => match dAsg s with
    | some (t, v, p) => parB C i j t v (fun es => chk as C (.a es))
    | none => false
  | .aug i o e, C, .one s => match dAug s with
    | some (t, op, v) => match dN t with
      | some x => decide (C.N[i]? = some x) && C.loc x && decide (augO o = some op) && chk e C (.e v)
      | none => false
    | none => false
  | .ifs c a b, C, .one s => match dIfS s with
    | some (x, p, q) => chk c C (.t x) && chkS a C (.blk p) && chkS b C (.blk q)
    | none => false
  | .forS k src tg b, C, .one s => match dFor s with
    | some (t, i, p) => match srcE k C i t with
      | some es => chk src C (.a es) && chkG C tg t && notSet i && chkS b C (.blk p) && !C.hot
      | none => false
    | none => false
  | .whl c b, C, .one s => match dWh s with
    | some (x, p) => chk c C (.t x) && chkS b C (.blk p)
    | none => false
  | .ret e, C, .one s => match dRet s with
    | some (some v) => chk e C (.e v)
    | _ => false
  | .retN, C, .one s => match dRet s with
    | some none => true
    | _ => false
  | .brk, C, .one s => isBrk s
  | .cnt, C, .one s => isCnt s
  | .expr e, C, .one s => match dEx s with
    | some v => !isComp v && chk e C (.e v)
    | none => false
  | .app i e, C, .one s => match dMeS s with
    | some (o, m, [v]) => decide (m = "append") && C.var i o && nStar v && abB o && chk e C (.e v)
    | _ => false
  | .appPop j i k, C, .one s => match dMeS s with
    | some (o, m, [v]) => decide (m = "append") && C.var j o && abB o && (match dMe v with
      | some (o2, m2, [w]) => decide (m2 = "pop") && C.var i o2 && nStar w && abB o2 && chk k C (.e w)
      | _ => false)
    | _ => false
  | .setI i k e, C, .one s => match dAsg s with
    | some (t, v, p) => match dSub t with
      | some (o, ix) => C.var i o && ixB ix && chk k C (.e ix) && chk e C (.e v)
      | none => false
    | none => false
  | .rev i, C, .one s => match dMeS s with
    | some (o, m, []) => decide (m = "reverse") && C.var i o && abB o
    | _ => false
  | .clr i, C, .one s => match dMeS s with
    | some (o, m, []) => decide (m = "clear") && C.var i o && abB o
    | _ => false
  | .ins i a b, C, .one s => match dMeS s with
    | some (o, m, [v, w]) => decide (m = "insert") && C.var i o && abB o && nStar v && nStar w && chk a C (.e v) && chk b C (.e w)
    | _ => false
  | .pop i k, C, .one s => match dMeS s with
    | some (o, m, [v]) => decide (m = "pop") && C.var i o && abB o && nStar v && chk k C (.e v)
    | _ => false
  | .rem i a, C, .one s => match dMeS s with
    | some (o, m, [v]) => decide (m = "remove") && C.var i o && abB o && nStar v && chk a C (.e v) && !C.hot
    | _ => false
  | .setA i f e, C, .one s => match dAsg s with
    | some (t, v, p) => match dAt t with
      | some (o, g) => decide (f = g) && C.var i o && chk e C (.e v)
      | none => false
    | none => false
  | .augI i k o e, C, .one s => match dAug s with
    | some (t, op, v) => match dSub t with
      | some (ob, ix) => C.var i ob && ixB ix && decide (augO o = some op) && chk k C (.e ix) && chk e C (.e v)
      | none => false
    | none => false
  | .sdApp i k e, C, .one s => match dMeS s with
    | some (o, m, [v]) => decide (m = "append") && nStar v && chk e C (.e v) && (match dMe o with
      | some (o2, m2, [w, z]) => decide (m2 = "setdefault") && C.var i o2 && abB o2 && nStar w && nStar z && isEL z && chk k C (.e w)
      | _ => false)
    | _ => false
  | .whlN i e b, C, .one s => match dWh s with
    | some (x, p) => match dWn x with
      | some (n, v, c) => decide (C.N[i]? = some n) && C.loc n && decide (dK c = some .none) && chk e C (.e v) && chkS b C (.blk p)
      | none => false
    | none => false
  | .popL i, C, .one s => match dMeS s with
    | some (o, m, []) => decide (m = "pop") && C.var i o && abB o
    | _ => false
  | .rse c n as, C, .one s => match dRs s with
    | some (x, e :: es) => (C.xg.any fun p => decide (p.1 = x) && decide (p.2.np = es.length + 1) && decide (p.2.c = c) && decide (p.2.n = n)) && C.glo x && (e :: es).all nStar && decide (as.cnt = es.length + 1) && chk as C (.a (e :: es))
    | _ => false
  | .tryA c cC oi b h, C, .one s => match dTry s with
    | some (bd, x, on, s0, r) => C.tr && (C.cl.any fun p => decide (p.1 = x) && decide (p.2 = cC)) && C.glo x && onOk C oi on && chkS b C (.blk bd) && r.isEmpty && chkH C oi h s0
    | none => false
  | .tryS c cC oi b s, C, .one st => match dTry st with
    | some (bd, x, on, s0, r) => C.tr && (C.cl.any fun p => decide (p.1 = x) && decide (p.2 = cC)) && C.glo x && onOk C oi on && chkS b C (.blk bd) && chkS s C.suite (.blk (s0 :: r))
    | none => false
  | _, _, _ => false
end MP
set_option Elab.async false
set_option linter.all false
set_option maxRecDepth 100000
set_option maxHeartbeats 1000000
namespace MP
open PySem PyProof.Rows
open L2 hiding St
structure SO (Γ : GE) (s : DS) (C : CC) (X : Cx) (W : WX) : Prop where
  one : ∀ st, chkS s C (.one st) = true → PS X st (rdS Γ s W)
  blk : ∀ sts, chkS s C (.blk sts) = true → PSs X sts (rdS Γ s W)
section
variable {Γ : GE} {C : CC} {X : Cx} {W : WX} {k : Nat}
theorem PS.congr {st : Stmt} {t u : TS} (h : PS X st t) (e : t = u) : PS X st u := e ▸ h
theorem var_ok (A : Ass Γ C k X W) {i : Nat} {x : Expr} (h : C.var i x = true) : PE X x (tVar i) := of_name A h
theorem sw_trueD {kx elt : Expr} {gs : List Comprehension} {scope : Scope} {pos py : Pos} {y : Str} {l : Nat} {env : Env} (hk : env.scope.kind = .function) (hy : env.scope.names.lookup y = some .local) (hl : (py.line == pos.line) = true)
    (ha : (scope.names.any fun (n, k) => n == y && (k == .local || k == .cell)) = false) : swapsWith (.DictComp kx elt gs scope pos) (some (.Name y py)) l env = pure true := by
  have ky : env.kindOf y = some .local := hy
  have hb : env.blockKind = .function := by unfold Env.blockKind; rw [hk]; rfl
  unfold swapsWith
  simp only [hb, ky, ha, Expr.pos, hl]
  rfl
/-- name = {..} on one line, the name a local -/
theorem ps_setDc {i : Nat} {y : Str} {py : Pos} {kx elt tg iter : Expr} {ifs : List Expr} {scope : Scope} {own : List (Str × Nat)} {pos spos : Pos} {wi : TI} {g : TG} {tt : TT} {tk te : TE} (hc : X.calm = true) (hN : X.N.Nodup) (hy : X.N[i]? = some y) (hyl : X.env.scope.names.lookup y = some .local)
    (hsw : swapsWith (.DictComp kx elt [⟨tg, iter, ifs, 0⟩] scope pos) (some (.Name y py)) spos.line X.env = pure true) (hi : PI X tg iter wi) (ok : BlkOk X.N X.env.scope scope own)
    (hg : ∀ (s : Shared) (H : Hp) (C : Addr) (cl : List (Str × Addr)) (fp : List Addr), PG (X.blk s H scope (compEnvC scope cl C X.env) fp) tg g) (ht : ∀ (s : Shared) (H : Hp) (C : Addr) (cl : List (Str × Addr)) (fp : List Addr), PTs (X.blk s H scope (compEnvC scope cl C X.env) fp) ifs tt)
    (hk : ∀ (s : Shared) (H : Hp) (C : Addr) (cl : List (Str × Addr)) (fp : List Addr), PE (X.blk s H scope (compEnvC scope cl C X.env) fp) kx tk)
    (he : ∀ (s : Shared) (H : Hp) (C : Addr) (cl : List (Str × Addr)) (fp : List Addr), PE (X.blk s H scope (compEnvC scope cl C X.env) fp) elt te) (hs : ∀ x, foldedSetIterable iter X.env x = pure x := by intro _; rfl) :
    PS X (.Assign [.Name y py] (.DictComp kx elt [⟨tg, iter, ifs, 0⟩] scope pos) spos) (tAsg (tDc wi g tt tk te (own.map (·.2))) (gName i)) := by
  refine ⟨fun pins s σ H D I h => ?_⟩
  rw [exec_Assign_Name_used _ _ _ _ hsw]
  refine wpAny_bind (wpAny_standAt (wpAny_bind ?_))
  show wpAny _ X.A (do let _ ← comprehension (.DictComp kx elt [⟨tg, iter, ifs, 0⟩] scope pos) scope X.env (firstIterPos [⟨tg, iter, ifs, 0⟩] pos) newDict false (eval iter X.env) (some (assign (.Name y py) X.env))) _ _ s
  have h : tDc wi g tt tk te (own.map (·.2)) σ H (fun x H1 => gName i x σ H1 D.nx) := h
  refine wpAny_bind (thn (dc_core (Qf := fun _ s' => SP X pins D .next s') hc hN I hi ok hg ht hk he hs h fun L C s' m H' I' q hn f => ?_) fun _ s' hq => wpAny_pure (wpAny_pure hq))
  show wpAny _ _ (assign (.Name y py) X.env (.ref L)) _ _ _
  refine wpAny_assign_Name (store_ok2 (v := V.ref L) I' hN hy (.inl hyl) rfl (fun s2 I2 ⟨a, sb, ha⟩ => ?_) (.inr hyl))
  obtain ⟨f0, f1, f2, f3, f4, f5⟩ := f
  have haC : C ≠ a := by
    rcases ha with z | z
    · rw [z]; exact f1
    · exact fun e => f4 y a z e.symm
  refine ⟨m, hn.sameBut sb haC, fun h3 sb3 => ?_⟩
  exact ⟨_, H', I2.turned (t' := s2.toks) (fun b o hb e => (sb3.2 b hb).trans e) f0 f1 f3 f4 f5, q⟩
theorem so_asg (A : Ass Γ C k X W) (i : Nat) (e : DE) (hw : wf Γ false e = true) : SO Γ (.asg i e) C X W := by
  refine ⟨fun st h0 => ?_, fun sts hx => nomatch hx⟩
  have he := co_all Γ false e hw C k X W A
  have hx : (match dAsg st with
    | some (t, v, p) => match dNp t with
      | some (x, px) => decide (C.N[i]? = some x) && C.loc x && chk e C (.e v) && swB C x px e v
      | none => false
    | none => false) = true := h0
  clear h0
  cases q : dAsg st with
  | none => rw [q] at hx; cases hx
  | some w =>
    obtain ⟨t, v, p⟩ := w
    rw [q] at hx
    obtain rfl := dAsg_ok q
    dsimp only at hx
    cases q2 : dNp t with
    | none => rw [q2] at hx; cases hx
    | some w =>
      obtain ⟨x, px⟩ := w
      rw [q2] at hx
      obtain rfl := dNp_ok q2
      have hx : (decide (C.N[i]? = some x) && C.loc x && chk e C (.e v) && swB C x px e v) = true := hx
      simp only [Bool.and_eq_true, decide_eq_true_eq] at hx
      obtain ⟨⟨⟨h1, h2⟩, h3⟩, h4⟩ := hx
      obtain ⟨a1, a2⟩ := A.loc h2
      have hN : X.N[i]? = some x := by rw [A.N]; exact h1
      unfold swB at h4
      cases hc : isComp v with
      | false => exact ps_set A.nd hN a1 (he.e v h3) (sw_plain hc) a2
      | true =>
        rw [hc] at h4
        dsimp only at h4
        cases hl : decide (C.sc.names.lookup x = some .local) with
        | false => exact ps_set A.nd hN a1 (he.e v h3) (sw_cell (by rw [A.sc]; exact of_decide_eq_false hl)) a2
        | true =>
          rw [hl] at h4
          dsimp only at h4
          cases e <;> first | cases h4 | skip
          rotate_left
          · rename_i kd src tg own c a b
            cases ql : dDC v with
            | none => rw [ql] at h4; cases h4
            | some w =>
              obtain ⟨l, kx⟩ := w
              rw [ql] at h4
              have h4 : ((px.line == v.pos.line) && !(l.sc.names.any fun (n, k) => n == x && (k == .local || k == .cell)) && decide (C.sc.kind = .function)) = true := h4
              simp only [Bool.and_eq_true, Bool.not_eq_true', decide_eq_true_eq] at h4
              have g3 : (match dDC v with | some w => lcB kd src tg own c b C w.1 && chk a (C.blk w.1.sc) (.e w.2) | none => false) = true := h3
              rw [ql] at g3
              have g3 : (lcB kd src tg own c b C l && chk a (C.blk l.sc) (.e kx)) = true := g3
              rw [Bool.and_eq_true] at g3
              obtain ⟨p', rfl⟩ := dDC_ok ql
              have hw : (wf Γ true src && wf Γ false c && wf Γ false a && wf Γ false b && srcOk kd src && (tgSlots tg).all fun j => own.contains j) = true := hw
              simp only [Bool.and_eq_true] at hw
              have L := lc_ok A (co_all Γ _ _ hw.1.1.1.1.1) (co_all Γ _ _ hw.1.1.1.1.2) (co_all Γ _ _ hw.1.1.2) hw.1.2 g3.1
              have hyl : X.env.scope.names.lookup x = some .local := by rw [A.sc]; exact of_decide_eq_true hl
              have q := ps_setDc (py := px) (pos := p') (spos := p) (A.calm L.hh) A.nd hN hyl (sw_trueD (by rw [A.sc]; exact h4.2) hyl h4.1.1 h4.1.2) L.src L.blk L.tg L.c (fun s H D cl fp => (co_all Γ _ _ hw.1.1.1.2 _ _ _ _ (A.blk L.hh l.sc s H D cl fp)).e _ g3.2) L.b L.ns
              rw [own_map] at q
              exact q
          rename_i kd src tg own c b
          cases ql : dLC v with
          | none => rw [ql] at h4; cases h4
          | some l =>
            rw [ql] at h4
            have h4 : ((px.line == v.pos.line) && !(l.sc.names.any fun (n, k) => n == x && (k == .local || k == .cell)) && decide (C.sc.kind = .function)) = true := h4
            simp only [Bool.and_eq_true, Bool.not_eq_true', decide_eq_true_eq] at h4
            have h3 : (match dLC v with | some l => lcB kd src tg own c b C l | none => false) = true := h3
            rw [ql] at h3
            obtain ⟨p', rfl⟩ := dLC_ok ql
            have hw : (wf Γ true src && wf Γ false c && wf Γ false b && srcOk kd src && (tgSlots tg).all fun j => own.contains j) = true := hw
            simp only [Bool.and_eq_true] at hw
            have L := lc_ok A (co_all Γ _ _ hw.1.1.1.1) (co_all Γ _ _ hw.1.1.1.2) (co_all Γ _ _ hw.1.1.2) hw.1.2 h3
            have hyl : X.env.scope.names.lookup x = some .local := by rw [A.sc]; exact of_decide_eq_true hl
            have q := ps_setLc (py := px) (pos := p') (spos := p) (A.calm L.hh) A.nd hN hyl (sw_true (by rw [A.sc]; exact h4.2) hyl h4.1.1 h4.1.2) L.src L.blk L.tg L.c L.b L.ns
            rw [own_map] at q
            exact q
theorem so_asgT (A : Ass Γ C k X W) (tg : Tg) (e : DE) (hw : wf Γ false e = true) : SO Γ (.asgT tg e) C X W := by
  refine ⟨fun st h0 => ?_, fun sts hx => nomatch hx⟩
  have he := co_all Γ false e hw C k X W A
  have hx : (match dAsg st with
    | some (t, v, p) => chkG C tg t && nStar t && decide (dN t = none) && notTup v && chk e C (.e v)
    | none => false) = true := h0
  clear h0
  cases q : dAsg st with
  | none => rw [q] at hx; cases hx
  | some w =>
    obtain ⟨t, v, p⟩ := w
    rw [q] at hx
    obtain rfl := dAsg_ok q
    have hx : (chkG C tg t && nStar t && decide (dN t = none) && notTup v && chk e C (.e v)) = true := hx
    simp only [Bool.and_eq_true, decide_eq_true_eq] at hx
    obtain ⟨⟨⟨⟨h1, h2⟩, h3⟩, h4⟩, h5⟩ := hx
    exact ps_asg (he.e v h5) (chkG_ok A tg t h1) (sw_noName h3) (ss_plain h4) (by rw [asg_each h2]; rfl)
theorem so_par (A : Ass Γ C k X W) (i j : Nat) (as : DE) (hw : wf Γ true as = true) : SO Γ (.par i j as) C X W := by
  refine ⟨fun st h0 => ?_, fun sts hx => nomatch hx⟩
  have he := co_all Γ true as hw C k X W A
  have hx : (match dAsg st with
    | some (t, v, p) => parB C i j t v (fun es => chk as C (.a es))
    | none => false) = true := h0
  clear h0
  cases q : dAsg st with
  | none => rw [q] at hx; cases hx
  | some w =>
    obtain ⟨t, v, p⟩ := w
    rw [q] at hx
    obtain rfl := dAsg_ok q
    have hp : parB C i j t v (fun es => chk as C (.a es)) = true := hx
    clear hx
    unfold parB at hp
    cases q1 : d2 t with
    | none => rw [q1] at hp; cases hp
    | some w =>
      obtain ⟨x, y⟩ := w
      cases q2 : dT v with
      | none => rw [q1, q2] at hp; cases hp
      | some es =>
        rw [q1, q2] at hp
        rcases es with _ | ⟨a, _ | ⟨b, _ | ⟨c, r⟩⟩⟩ <;> first | cases hp | skip
        dsimp only at hp
        cases q3 : dNp x with
        | none => rw [q3] at hp; cases hp
        | some w =>
          obtain ⟨n, px⟩ := w
          cases q4 : dNp y with
          | none => rw [q3, q4] at hp; cases hp
          | some w =>
            obtain ⟨m, py⟩ := w
            rw [q3, q4] at hp
            dsimp only at hp
            obtain ⟨kt, pt, rfl⟩ := d2_ok q1
            obtain ⟨k2, pt2, rfl⟩ := dT_ok q2
            obtain rfl := dNp_ok q3
            obtain rfl := dNp_ok q4
            simp only [Bool.and_eq_true, decide_eq_true_eq, Bool.not_eq_true'] at hp
            obtain ⟨⟨⟨⟨⟨⟨⟨⟨⟨⟨⟨⟨h1, h2⟩, h3⟩, h4⟩, h5⟩, h6⟩, h7⟩, h8⟩, h9⟩, h10⟩, h11⟩, h12⟩, hh⟩ := hp
            have hx : X.env.scope.names.lookup n = some .local := by rw [A.sc]; exact h6
            have hy : X.env.scope.names.lookup m = some .local := by rw [A.sc]; exact h7
            exact ps_par (A.calm hh) A.nd (by rw [A.N]; exact h1) (by rw [A.N]; exact h2) h3 hx hy (he.a _ h12) (ss_two (by rw [A.sc]; exact h8) hx hy h5 h4 h9 h10 h11) rfl
theorem so_aug (A : Ass Γ C k X W) (i : Nat) (o : Op2) (e : DE) (hw : wf Γ false e = true) : SO Γ (.aug i o e) C X W := by
  refine ⟨fun st h0 => ?_, fun sts hx => nomatch hx⟩
  have he := co_all Γ false e hw C k X W A
  have hx : (match dAug st with
    | some (t, op, v) => match dN t with
      | some x => decide (C.N[i]? = some x) && C.loc x && decide (augO o = some op) && chk e C (.e v)
      | none => false
    | none => false) = true := h0
  clear h0
  cases q : dAug st with
  | none => rw [q] at hx; cases hx
  | some w =>
    obtain ⟨t, op, v⟩ := w
    rw [q] at hx
    obtain ⟨p, rfl⟩ := dAug_ok q
    dsimp only at hx
    cases q2 : dN t with
    | none => rw [q2] at hx; cases hx
    | some x =>
      rw [q2] at hx
      obtain ⟨px, rfl⟩ := dN_ok q2
      have hx : (decide (C.N[i]? = some x) && C.loc x && decide (augO o = some op) && chk e C (.e v)) = true := hx
      simp only [Bool.and_eq_true, decide_eq_true_eq] at hx
      obtain ⟨⟨⟨h1, h2⟩, h3⟩, h4⟩ := hx
      obtain ⟨a1, a2⟩ := A.loc h2
      have hN : X.N[i]? = some x := by rw [A.N]; exact h1
      cases o <;> cases h3
      · exact ps_aug A.nd hN a1 (he.e v h4) ip_addA a2
      · exact ps_aug A.nd hN a1 (he.e v h4) ip_sub a2
theorem list1 (A : Ass Γ C k X W) {r : V → List V → Hp → VK → Prop} {o v : Expr} {m : Str} {id : String} {to tv : TE} {p q : Pos} (sl : Slot "list" m id) (ty : typeOf (.builtin id) = pure (.type "method_descriptor")) (hm : MtR X id r) (ho : PE X o to) (hv : PE X v tv) (hb : abB o = true) (hs : nStar v = true) (hl : (p.endLine == q.line) = true) :
    PE X (.Call (.Attribute o m p) [v] [] q) (tBM Γ.G.K "list" r to (tCons tv tNil)) := by
  have z := pe_bm (cpos := q) (apos := p) F.plainAttrs_list sl ty hm ho (pa_cons hv pa_nil (star_one hs)) (ab_ok hb) (by rw [star_one hs]; rfl) hl (star_one hs) rfl
  rw [A.K] at z
  exact z
theorem list0 (A : Ass Γ C k X W) {r : V → List V → Hp → VK → Prop} {o : Expr} {m : Str} {id : String} {to : TE} {p q : Pos} (sl : Slot "list" m id) (ty : typeOf (.builtin id) = pure (.type "method_descriptor")) (hm : MtR X id r) (ho : PE X o to) (hb : abB o = true) (hl : (p.endLine == q.line) = true) :
    PE X (.Call (.Attribute o m p) [] [] q) (tBM Γ.G.K "list" r to tNil) := by
  have z := pe_bm0 (cpos := q) (apos := p) F.plainAttrs_list sl ty hm ho (ab_ok hb) hl
  rw [A.K] at z
  exact z
theorem so_app (A : Ass Γ C k X W) (i : Nat) (e : DE) (hw : wf Γ false e = true) : SO Γ (.app i e) C X W := by
  refine ⟨fun st h0 => ?_, fun sts hx => nomatch hx⟩
  have he := co_all Γ false e hw C k X W A
  have hx : (match dMeS st with
    | some (o, m, [v]) => decide (m = "append") && C.var i o && nStar v && abB o && chk e C (.e v)
    | _ => false) = true := h0
  clear h0
  cases q : dMeS st with
  | none => rw [q] at hx; cases hx
  | some w =>
    obtain ⟨o, m, es⟩ := w
    rw [q] at hx
    obtain ⟨p, q', r, rfl, hl⟩ := dMeS_ok q
    rcases es with _ | ⟨v, _ | ⟨v2, vr⟩⟩ <;> first | cases hx | skip
    have hx : (decide (m = "append") && C.var i o && nStar v && abB o && chk e C (.e v)) = true := hx
    simp only [Bool.and_eq_true, decide_eq_true_eq] at hx
    obtain ⟨⟨⟨⟨rfl, h2⟩, h3⟩, h4⟩, h5⟩ := hx
    exact ps_expr (list1 A F.slot_list_append F.type_list_append mt_append (var_ok A h2) (he.e v h5) h4 h3 hl) (sw_plain rfl)
theorem so_pop (A : Ass Γ C k X W) (i : Nat) (e : DE) (hw : wf Γ false e = true) : SO Γ (.pop i e) C X W := by
  refine ⟨fun st h0 => ?_, fun sts hx => nomatch hx⟩
  have he := co_all Γ false e hw C k X W A
  have hx : (match dMeS st with
    | some (o, m, [v]) => decide (m = "pop") && C.var i o && abB o && nStar v && chk e C (.e v)
    | _ => false) = true := h0
  clear h0
  cases q : dMeS st with
  | none => rw [q] at hx; cases hx
  | some w =>
    obtain ⟨o, m, es⟩ := w
    rw [q] at hx
    obtain ⟨p, q', r, rfl, hl⟩ := dMeS_ok q
    rcases es with _ | ⟨v, _ | ⟨v2, vr⟩⟩ <;> first | cases hx | skip
    have hx : (decide (m = "pop") && C.var i o && abB o && nStar v && chk e C (.e v)) = true := hx
    simp only [Bool.and_eq_true, decide_eq_true_eq] at hx
    obtain ⟨⟨⟨⟨rfl, h2⟩, h3⟩, h4⟩, h5⟩ := hx
    exact ps_expr (list1 A F.slot_list_pop F.type_list_pop mt_popAt (var_ok A h2) (he.e v h5) h3 h4 hl) (sw_plain rfl)
theorem so_rev (A : Ass Γ C k X W) (i : Nat) : SO Γ (.rev i) C X W := by
  refine ⟨fun st h0 => ?_, fun sts hx => nomatch hx⟩
  have hx : (match dMeS st with
    | some (o, m, []) => decide (m = "reverse") && C.var i o && abB o
    | _ => false) = true := h0
  clear h0
  cases q : dMeS st with
  | none => rw [q] at hx; cases hx
  | some w =>
    obtain ⟨o, m, es⟩ := w
    rw [q] at hx
    obtain ⟨p, q', r, rfl, hl⟩ := dMeS_ok q
    cases es <;> first | cases hx | skip
    have hx : (decide (m = "reverse") && C.var i o && abB o) = true := hx
    simp only [Bool.and_eq_true, decide_eq_true_eq] at hx
    obtain ⟨⟨rfl, h2⟩, h3⟩ := hx
    exact ps_expr (list0 A F.slot_list_reverse F.type_list_reverse mt_reverse (var_ok A h2) h3 hl) (sw_plain rfl)
theorem so_clr (A : Ass Γ C k X W) (i : Nat) : SO Γ (.clr i) C X W := by
  refine ⟨fun st h0 => ?_, fun sts hx => nomatch hx⟩
  have hx : (match dMeS st with
    | some (o, m, []) => decide (m = "clear") && C.var i o && abB o
    | _ => false) = true := h0
  clear h0
  cases q : dMeS st with
  | none => rw [q] at hx; cases hx
  | some w =>
    obtain ⟨o, m, es⟩ := w
    rw [q] at hx
    obtain ⟨p, q', r, rfl, hl⟩ := dMeS_ok q
    cases es <;> first | cases hx | skip
    have hx : (decide (m = "clear") && C.var i o && abB o) = true := hx
    simp only [Bool.and_eq_true, decide_eq_true_eq] at hx
    obtain ⟨⟨rfl, h2⟩, h3⟩ := hx
    exact ps_expr (list0 A F.slot_list_clear F.type_list_clear mt_clear (var_ok A h2) h3 hl) (sw_plain rfl)
theorem so_ins (A : Ass Γ C k X W) (i : Nat) (a b : DE) (hw1 : wf Γ false a = true) (hw2 : wf Γ false b = true) : SO Γ (.ins i a b) C X W := by
  refine ⟨fun st h0 => ?_, fun sts hx => nomatch hx⟩
  have ha := co_all Γ false a hw1 C k X W A
  have hb := co_all Γ false b hw2 C k X W A
  have hx : (match dMeS st with
    | some (o, m, [v, w]) => decide (m = "insert") && C.var i o && abB o && nStar v && nStar w && chk a C (.e v) && chk b C (.e w)
    | _ => false) = true := h0
  clear h0
  cases q : dMeS st with
  | none => rw [q] at hx; cases hx
  | some w =>
    obtain ⟨o, m, es⟩ := w
    rw [q] at hx
    obtain ⟨p, q', r, rfl, hl⟩ := dMeS_ok q
    rcases es with _ | ⟨v, _ | ⟨w, _ | ⟨v2, vr⟩⟩⟩ <;> first | cases hx | skip
    have hx : (decide (m = "insert") && C.var i o && abB o && nStar v && nStar w && chk a C (.e v) && chk b C (.e w)) = true := hx
    simp only [Bool.and_eq_true, decide_eq_true_eq] at hx
    obtain ⟨⟨⟨⟨⟨⟨rfl, h2⟩, h3⟩, h4⟩, h5⟩, h6⟩, h7⟩ := hx
    have z := pe_bm (cpos := q') (apos := p) F.plainAttrs_list F.slot_list_insert F.type_list_insert mt_insert (var_ok A h2) (pa_cons (ha.e v h6) (pa_cons (hb.e w h7) pa_nil (star_one h5)) (star_one h4)) (ab_ok h3) (by rw [star_one h4, star_one h5]; rfl) hl (star_one h4) (by rw [star_one h5]; rfl)
    rw [A.K] at z
    exact ps_expr z (sw_plain rfl)
theorem so_appPop (A : Ass Γ C k X W) (j i : Nat) (e : DE) (hw : wf Γ false e = true) : SO Γ (.appPop j i e) C X W := by
  refine ⟨fun st h0 => ?_, fun sts hx => nomatch hx⟩
  have he := co_all Γ false e hw C k X W A
  have hx : (match dMeS st with
    | some (o, m, [v]) => decide (m = "append") && C.var j o && abB o && (match dMe v with
      | some (o2, m2, [w]) => decide (m2 = "pop") && C.var i o2 && nStar w && abB o2 && chk e C (.e w)
      | _ => false)
    | _ => false) = true := h0
  clear h0
  cases q : dMeS st with
  | none => rw [q] at hx; cases hx
  | some w =>
    obtain ⟨o, m, es⟩ := w
    rw [q] at hx
    obtain ⟨p, q', r, rfl, hl⟩ := dMeS_ok q
    rcases es with _ | ⟨v, _ | ⟨v2, vr⟩⟩ <;> first | cases hx | skip
    cases q2 : dMe v with
    | none =>
      dsimp only at hx
      rw [q2, Bool.and_eq_true] at hx
      cases hx.2
    | some w =>
      obtain ⟨o2, m2, es⟩ := w
      dsimp only at hx
      rw [q2] at hx
      obtain ⟨p2, q3, rfl, hl2⟩ := dMe_ok q2
      rcases es with _ | ⟨w, _ | ⟨v2, vr⟩⟩ <;> first | (rw [Bool.and_eq_true] at hx; cases hx.2) | skip
      simp only [Bool.and_eq_true, decide_eq_true_eq] at hx
      obtain ⟨⟨⟨rfl, h2⟩, h3⟩, ⟨⟨⟨rfl, h5⟩, h6⟩, h7⟩, h8⟩ := hx
      exact ps_expr (list1 A F.slot_list_append F.type_list_append mt_append (var_ok A h2) (list1 A F.slot_list_pop F.type_list_pop mt_popAt (var_ok A h5) (he.e w h8) h7 h6 hl2) h3 rfl hl) (sw_plain rfl)
theorem takesL0 {Y : Cx} : L2.Takes Y noW := fun _ _ x => by
  obtain ⟨_, _, _, _, _, _, _, _, _, _, _, _, _, _, _, _, z⟩ := x
  exact z.elim
theorem takesN0 {Y : Cx} : L2N.Takes Y noW := fun _ _ x => by
  obtain ⟨_, _, _, _, _, _, _, _, _, _, _, _, _, _, _, _, z⟩ := x
  exact z.elim
theorem so_rem (A : Ass Γ C k X W) (i : Nat) (e : DE) (hw : wf Γ false e = true) : SO Γ (.rem i e) C X W := by
  refine ⟨fun st h0 => ?_, fun sts hx => nomatch hx⟩
  have he := co_all Γ false e hw C k X W A
  have hx : (match dMeS st with
    | some (o, m, [v]) => decide (m = "remove") && C.var i o && abB o && nStar v && chk e C (.e v) && !C.hot
    | _ => false) = true := h0
  clear h0
  cases q : dMeS st with
  | none => rw [q] at hx; cases hx
  | some w =>
    obtain ⟨o, m, es⟩ := w
    rw [q] at hx
    obtain ⟨p, q', r, rfl, hl⟩ := dMeS_ok q
    rcases es with _ | ⟨v, _ | ⟨v2, vr⟩⟩ <;> first | cases hx | skip
    have hx : (decide (m = "remove") && C.var i o && abB o && nStar v && chk e C (.e v) && !C.hot) = true := hx
    simp only [Bool.and_eq_true, decide_eq_true_eq, Bool.not_eq_true'] at hx
    obtain ⟨⟨⟨⟨⟨rfl, h2⟩, h3⟩, h4⟩, h5⟩, hh⟩ := hx
    have z := pe_remX (W := noW) (cpos := q') (apos := p) (A.calm hh) takesL0 (var_ok A h2) (he.e v h5) (ab_ok h3) (by rw [star_one h4]; rfl) hl (star_one h4) rfl
    rw [A.K] at z
    exact ps_expr z (sw_plain rfl)
theorem so_setA (A : Ass Γ C k X W) (i : Nat) (f : Str) (e : DE) (hw : wf Γ false e = true) : SO Γ (.setA i f e) C X W := by
  refine ⟨fun st h0 => ?_, fun sts hx => nomatch hx⟩
  have he := co_all Γ false e hw C k X W A
  have hx : (match dAsg st with
    | some (t, v, p) => match dAt t with
      | some (o, g) => decide (f = g) && C.var i o && chk e C (.e v)
      | none => false
    | none => false) = true := h0
  clear h0
  cases q : dAsg st with
  | none => rw [q] at hx; cases hx
  | some w =>
    obtain ⟨t, v, p⟩ := w
    rw [q] at hx
    obtain rfl := dAsg_ok q
    dsimp only at hx
    cases q2 : dAt t with
    | none => rw [q2] at hx; cases hx
    | some w =>
      obtain ⟨o, g⟩ := w
      rw [q2] at hx
      obtain ⟨p2, rfl⟩ := dAt_ok q2
      have hx : (decide (f = g) && C.var i o && chk e C (.e v)) = true := hx
      simp only [Bool.and_eq_true, decide_eq_true_eq] at hx
      obtain ⟨⟨rfl, h2⟩, h3⟩ := hx
      have z := ps_fld (pos := p) (pos' := p2) (f := f) (var_ok A h2) (he.e v h3) (sw_noName (t := .Attribute o f p2) rfl)
      rw [A.K] at z
      exact z
theorem so_setI (A : Ass Γ C k X W) (i : Nat) (kk e : DE) (hw1 : wf Γ false kk = true) (hw2 : wf Γ false e = true) : SO Γ (.setI i kk e) C X W := by
  refine ⟨fun st h0 => ?_, fun sts hx => nomatch hx⟩
  have hk := co_all Γ false kk hw1 C k X W A
  have he := co_all Γ false e hw2 C k X W A
  have hx : (match dAsg st with
    | some (t, v, p) => match dSub t with
      | some (o, ix) => C.var i o && ixB ix && chk kk C (.e ix) && chk e C (.e v)
      | none => false
    | none => false) = true := h0
  clear h0
  cases q : dAsg st with
  | none => rw [q] at hx; cases hx
  | some w =>
    obtain ⟨t, v, p⟩ := w
    rw [q] at hx
    obtain rfl := dAsg_ok q
    dsimp only at hx
    cases q2 : dSub t with
    | none => rw [q2] at hx; cases hx
    | some w =>
      obtain ⟨o, ix⟩ := w
      rw [q2] at hx
      obtain ⟨p2, rfl⟩ := dSub_ok q2
      have hx : (C.var i o && ixB ix && chk kk C (.e ix) && chk e C (.e v)) = true := hx
      simp only [Bool.and_eq_true] at hx
      obtain ⟨⟨⟨h1, h2⟩, h3⟩, h4⟩ := hx
      have e1 : PS X (.Assign [.Subscript o ix p2] v p) (tAsg (rd Γ e W).e (gSub (tVar i) (rd Γ kk W).e rSetL)) :=
        ps_asg (he.e v h4) (pg_sub (var_ok A h1) (hk.e ix h3) set_list fun v => by cases ix <;> first | rfl | cases h2) (sw_noName (t := .Subscript o ix p2) (l := p.line) (env := X.env) rfl) ss_sub rfl
      exact ps_or e1 (ps_dput (by have := A.hu; omega) (var_ok A h1) (hk.e ix h3) (he.e v h4) (sw_noName (t := .Subscript o ix p2) rfl))
theorem so_popL (A : Ass Γ C k X W) (i : Nat) : SO Γ (.popL i) C X W := by
  refine ⟨fun st h0 => ?_, fun sts hx => nomatch hx⟩
  have hx : (match dMeS st with
    | some (o, m, []) => decide (m = "pop") && C.var i o && abB o
    | _ => false) = true := h0
  clear h0
  cases q : dMeS st with
  | none => rw [q] at hx; cases hx
  | some w =>
    obtain ⟨o, m, es⟩ := w
    rw [q] at hx
    obtain ⟨p, q', r, rfl, hl⟩ := dMeS_ok q
    cases es <;> first | cases hx | skip
    have hx : (decide (m = "pop") && C.var i o && abB o) = true := hx
    simp only [Bool.and_eq_true, decide_eq_true_eq] at hx
    obtain ⟨⟨rfl, h2⟩, h3⟩ := hx
    exact ps_expr (list0 A F.slot_list_pop F.type_list_pop mt_pop (var_ok A h2) h3 hl) (sw_plain rfl)
theorem so_augI (A : Ass Γ C k X W) (i : Nat) (kk : DE) (o : Op2) (e : DE) (hw1 : wf Γ false kk = true) (hw2 : wf Γ false e = true) : SO Γ (.augI i kk o e) C X W := by
  refine ⟨fun st h0 => ?_, fun sts hx => nomatch hx⟩
  have hk := co_all Γ false kk hw1 C k X W A
  have he := co_all Γ false e hw2 C k X W A
  have hx : (match dAug st with
    | some (t, op, v) => match dSub t with
      | some (ob, ix) => C.var i ob && ixB ix && decide (augO o = some op) && chk kk C (.e ix) && chk e C (.e v)
      | none => false
    | none => false) = true := h0
  clear h0
  cases q : dAug st with
  | none => rw [q] at hx; cases hx
  | some w =>
    obtain ⟨t, op, v⟩ := w
    rw [q] at hx
    obtain ⟨p, rfl⟩ := dAug_ok q
    dsimp only at hx
    cases q2 : dSub t with
    | none => rw [q2] at hx; cases hx
    | some w =>
      obtain ⟨ob, ix⟩ := w
      rw [q2] at hx
      obtain ⟨p2, rfl⟩ := dSub_ok q2
      have hx : (C.var i ob && ixB ix && decide (augO o = some op) && chk kk C (.e ix) && chk e C (.e v)) = true := hx
      simp only [Bool.and_eq_true, decide_eq_true_eq] at hx
      obtain ⟨⟨⟨⟨h1, h2⟩, h3⟩, h4⟩, h5⟩ := hx
      have hu : X.A.units + 1 < cLine := by have := A.hu; omega
      cases o <;> cases h3
      · exact ps_daug hu (var_ok A h1) (hk.e ix h4) (he.e v h5) in_add fun _ _ _ => by cases ix <;> first | rfl | cases h2
      · exact ps_daug hu (var_ok A h1) (hk.e ix h4) (he.e v h5) in_sub fun _ _ _ => by cases ix <;> first | rfl | cases h2
theorem so_sdApp (A : Ass Γ C k X W) (i : Nat) (kk e : DE) (hw : wf Γ false kk = true) (hs : sdOk i e = true) : SO Γ (.sdApp i kk e) C X W := by
  refine ⟨fun st h0 => ?_, fun sts hx => nomatch hx⟩
  have hk := co_all Γ false kk hw C k X W A
  have hx : (match dMeS st with
    | some (o, m, [v]) => decide (m = "append") && nStar v && chk e C (.e v) && (match dMe o with
      | some (o2, m2, [w, z]) => decide (m2 = "setdefault") && C.var i o2 && abB o2 && nStar w && nStar z && isEL z && chk kk C (.e w)
      | _ => false)
    | _ => false) = true := h0
  clear h0
  cases q : dMeS st with
  | none => rw [q] at hx; cases hx
  | some w =>
    obtain ⟨o, m, es⟩ := w
    rw [q] at hx
    obtain ⟨p, q', r, rfl, hl⟩ := dMeS_ok q
    rcases es with _ | ⟨v, _ | ⟨v2, vr⟩⟩ <;> first | cases hx | skip
    cases q2 : dMe o with
    | none =>
      dsimp only at hx
      rw [q2, Bool.and_eq_true] at hx
      cases hx.2
    | some w =>
      obtain ⟨o2, m2, es⟩ := w
      dsimp only at hx
      rw [q2] at hx
      obtain ⟨p2, q3, rfl, hl2⟩ := dMe_ok q2
      rcases es with _ | ⟨w, _ | ⟨z, _ | ⟨v2, vr⟩⟩⟩ <;> first | (rw [Bool.and_eq_true] at hx; cases hx.2) | skip
      simp only [Bool.and_eq_true, decide_eq_true_eq] at hx
      obtain ⟨⟨⟨rfl, h2⟩, h4⟩, ⟨⟨⟨⟨⟨rfl, h5⟩, h6⟩, h7⟩, h8⟩, h9⟩, h10⟩ := hx
      obtain ⟨pl, rfl⟩ := isEL_ok h9
      cases e <;> first | (cases hs; done) | skip
      rename_i j
      have hj : PE X v (tVar j) := of_name A h4
      have e1 := pe_dsetd (cpos := q3) (apos := p2) (var_ok A h5) (hk.e w h10) (pe_lst (pos := pl) pa_nil) ⟨ab_ok h6, by rw [star_one h7, star_one h8]; rfl, hl2, by rw [star_one h7, star_one h8]; rfl⟩
      have z := pe_bm (cpos := q') (apos := p) F.plainAttrs_list F.slot_list_append F.type_list_append mt_append e1 (pa_cons hj pa_nil (star_one h2)) (by rfl) (by rw [star_one h2]; rfl) hl (star_one h2) rfl
      rw [A.K] at z
      exact ps_expr z (sw_plain rfl)
end
end MP
set_option Elab.async false
set_option linter.all false
set_option maxRecDepth 100000
set_option maxHeartbeats 1000000
namespace MP
open PySem PyProof.Rows
open L2 hiding St
theorem SO.ofOne {Γ : GE} {s : DS} {C : CC} {X : Cx} {W : WX} (h : ∀ st, chkS s C (.one st) = true → PS X st (rdS Γ s W)) (n : ∀ sts, chkS s C (.blk sts) = false) : SO Γ s C X W :=
  ⟨h, fun sts z => nomatch (n sts).symm.trans z⟩
section
variable {Γ : GE} {C : CC} {X : Cx} {W : WX} {k : Nat}
theorem lit_pe {Y : Cx} {d : D} {e : Expr} (h : (match dK e with | some c => litC d c | none => false) = true) : PE Y e (tC (litV d)) := by
  cases q : dK e with
  | none => rw [q] at h; cases h
  | some c =>
    rw [q] at h
    obtain ⟨k', p, rfl⟩ := dK_ok q
    replace h : litC d c = true := h
    cases d <;> cases c <;> first | cases h | skip
    · exact pe_non
    · rename_i a b
      have : a = b := of_decide_eq_true h
      subst this
      exact pe_bl
    · rename_i a b
      have : a = b := of_decide_eq_true h
      subst this
      exact pe_int
    · rename_i a b
      have : a = b := of_decide_eq_true h
      subst this
      exact pe_str
theorem su_atoms (A : Ass Γ C k X W) {a : Addr} {oe : Obj} {cls : Value} {d : Option Addr} {pn : List (Addr × Obj)} {c : Nat} {oi : Option Nat} (hz : Zc cls d oe) (hf : ∃ vs, oe.data = .fields vs) : ∀ (as : List HA) (es : List Expr), (∀ f ∈ haFlds as, (c, f) ∈ Γ.xfs) → chkA C oi as es = true →
    PA (X.suite a ((a, oe) :: pn)) es (hAts a cls d (Γ.G.cls c) (oi.getD 0) as)
  | [], [], _, _ => pa_nil
  | [], e :: es, _, h => nomatch h
  | .lit d0 :: r, [], _, h => nomatch h
  | .xf f :: r, [], _, h => nomatch h
  | .lit d0 :: r, e :: es, hx, h => by
    have h : ((match dK e with | some c => litC d0 c | none => false) && nStar e && chkA C oi r es) = true := h
    rw [Bool.and_eq_true, Bool.and_eq_true] at h
    exact pa_cons (lit_pe h.1.1) (su_atoms A hz hf r es hx h.2) (star_one h.1.2)
  | .xf f :: r, e :: es, hx, h => by
    have h : (xfOk C oi f e && nStar e && chkA C oi r es) = true := h
    rw [Bool.and_eq_true, Bool.and_eq_true] at h
    obtain ⟨⟨h1, h2⟩, h3⟩ := h
    refine pa_cons ?_ (su_atoms A hz hf r es (fun g hg => hx g (List.mem_cons_of_mem _ hg)) h3) (star_one h2)
    cases oi with
    | none => cases h1
    | some i =>
      unfold xfOk at h1
      cases q : dAt e with
      | none => rw [q] at h1; cases h1
      | some w =>
        obtain ⟨o, g⟩ := w
        rw [q] at h1
        have h1 : (decide (f = g) && C.var i o && abB o) = true := h1
        simp only [Bool.and_eq_true, decide_eq_true_eq] at h1
        obtain ⟨⟨rfl, h5⟩, h6⟩ := h1
        obtain ⟨p, rfl⟩ := dAt_ok q
        obtain ⟨t1, t2⟩ := A.xfs (c, f) (hx f List.mem_cons_self)
        rw [← A.K] at t1 t2
        have ho : PE (X.suite a ((a, oe) :: pn)) o (tVar i) := by
          unfold CC.var at h5
          cases q2 : dN o with
          | none => rw [q2] at h5; cases h5
          | some nm =>
            rw [q2] at h5
            obtain ⟨p2, rfl⟩ := dN_ok q2
            have h5 : (decide (C.N[i]? = some nm) && C.vis nm && plainN nm) = true := h5
            simp only [Bool.and_eq_true, decide_eq_true_eq] at h5
            obtain ⟨n1, n2, _⟩ := plainN_ok h5.2
            exact pe_var (X := X.suite a ((a, oe) :: pn)) (by show X.N[i]? = _; rw [A.N]; exact h5.1.1) (A.vis h5.1.2) n1 n2
        exact pe_xf t1 t2 hz hf ho (ab_ok h6)
theorem su_ok (A : Ass Γ C k X W) {a : Addr} {oe : Obj} {cls : Value} {d : Option Addr} {pn : List (Addr × Obj)} {c : Nat} {oi : Option Nat} (hz : Zc cls d oe) (hf : ∃ vs, oe.data = .fields vs) (h : HS) (s0 : Stmt) (hx : ∀ f ∈ h.flds, (c, f) ∈ Γ.xfs) (hc : chkH C oi h s0 = true) :
    PSs (X.suite a ((a, oe) :: pn)) [s0] (hRd (Γ.G.cls c) (oi.getD 0) h a cls d) := by
  cases h with
  | ret as =>
    have hc : (match dRet s0 with
      | some (some v) => tupOk C oi as v
      | _ => false) = true := hc
    cases q : dRet s0 with
    | none => rw [q] at hc; cases hc
    | some w =>
      cases w with
      | none => rw [q] at hc; cases hc
      | some v =>
        rw [q] at hc
        obtain ⟨p, rfl⟩ := dRet_ok q
        replace hc : tupOk C oi as v = true := hc
        unfold tupOk at hc
        cases q2 : dTup v with
        | none => rw [q2] at hc; cases hc
        | some es =>
          rw [q2] at hc
          obtain ⟨k', p', rfl⟩ := dTup_ok q2
          exact pss_one (ps_ret (pe_tup (su_atoms A hz hf as es hx hc)))
  | retL d0 =>
    have hc : (match dRet s0 with
      | some (some v) => (match dK v with | some c => litC d0 c | none => false)
      | _ => false) = true := hc
    cases q : dRet s0 with
    | none => rw [q] at hc; cases hc
    | some w =>
      cases w with
      | none => rw [q] at hc; cases hc
      | some v =>
        rw [q] at hc
        obtain ⟨p, rfl⟩ := dRet_ok q
        exact pss_one (ps_ret (lit_pe hc))
  | asg j as =>
    have hc : (match dAsg s0 with
      | some (t, v, p) => asgOk C oi j as t v
      | none => false) = true := hc
    cases q : dAsg s0 with
    | none => rw [q] at hc; cases hc
    | some w =>
      obtain ⟨t, v, p⟩ := w
      rw [q] at hc
      obtain rfl := dAsg_ok q
      replace hc : asgOk C oi j as t v = true := hc
      unfold asgOk at hc
      cases q2 : dNp t with
      | none => rw [q2] at hc; cases hc
      | some w =>
        obtain ⟨x, px⟩ := w
        rw [q2] at hc
        obtain rfl := dNp_ok q2
        replace hc : (decide (C.N[j]? = some x) && C.loc x && tupOk C oi as v) = true := hc
        unfold tupOk at hc
        cases q3 : dTup v with
        | none => rw [q3] at hc; simp at hc
        | some es =>
          rw [q3] at hc
          obtain ⟨k', p', rfl⟩ := dTup_ok q3
          replace hc : (decide (C.N[j]? = some x) && C.loc x && chkA C oi as es) = true := hc
          simp only [Bool.and_eq_true, decide_eq_true_eq] at hc
          obtain ⟨a1, a2⟩ := A.loc hc.1.2
          exact pss_one (ps_set (X := X.suite a ((a, oe) :: pn)) A.nd (by show X.N[j]? = _; rw [A.N]; exact hc.1.1) a1 (pe_tup (su_atoms A hz hf as es hx hc.2)) (sw_plain rfl) a2)
theorem Ass.toTr (A : Ass Γ C k X W) (hh : C.hot = false) {pn : List (Addr × Obj)} {xe : Value → Shared → Prop} {W' : WX} (tk : L2N.Takes (X.tr pn xe) W') : Ass Γ C k (X.tr pn xe) W' :=
  { N := A.N, nd := A.nd, sc := A.sc, K := A.K, calm := A.calm, hu := A.hu, room := ⟨A.room.h, A.room.c, fun z => nomatch hh.symm.trans z⟩, tk := tk, fn := A.fn, sigs := A.sigs, hsg := A.hsg, glb := A.glb, cls := A.cls, exs := A.exs, xfs := A.xfs, xcs := A.xcs, stk := A.stk, exx := (fun a c o h => nomatch hh.symm.trans (A.exx a c o h).1), blt := A.blt }
theorem so_rse (A : Ass Γ C k X W) (c n : Nat) (as : DE) (hw : (wf Γ true as && as.movs.isEmpty) = true) : SO Γ (.rse c n as) C X W := by
  refine .ofOne (fun st h0 => ?_) fun sts => rfl
  rw [Bool.and_eq_true] at hw
  have hx : (match dRs st with
    | some (x, e :: es) => (C.xg.any fun p => decide (p.1 = x) && decide (p.2.np = es.length + 1) && decide (p.2.c = c) && decide (p.2.n = n)) && C.glo x && (e :: es).all nStar && decide (as.cnt = es.length + 1) && chk as C (.a (e :: es))
    | _ => false) = true := h0
  clear h0
  cases q : dRs st with
  | none => rw [q] at hx; cases hx
  | some w =>
    obtain ⟨x, es⟩ := w
    cases es with
    | nil => rw [q] at hx; cases hx
    | cons e es =>
      rw [q] at hx
      obtain ⟨p, p2, p3, rfl⟩ := dRs_ok q
      simp only [Bool.and_eq_true, decide_eq_true_eq, List.any_eq_true] at hx
      obtain ⟨⟨⟨⟨⟨y, hy, ⟨⟨h1, h2⟩, h3⟩, h4⟩, h5⟩, h6⟩, h7⟩, h8⟩ := hx
      obtain ⟨hh, e1, e2⟩ := A.exs y hy
      subst h3 h4
      rw [h1] at e2
      have h6' : (e :: es).all nStar = true := by simpa using h6
      unfold CC.glo at h5
      rw [Bool.and_eq_true, decide_eq_true_eq] at h5
      have q := L2N.ps_raise (pos := p3) (A.calm hh) A.tk (e2 X rfl rfl rfl rfl rfl (A.room.c hh) e es _ p p2 h2.symm (show X.env.scope.names.lookup x = _ by rw [A.sc]; exact h5.1) (plainN_ok h5.2).1 h6' ((co_all Γ true as hw.1 C k X W A).a _ h8))
      rw [h2] at q
      have e3 : rdS Γ (.rse y.2.c y.2.n as) W = tRse (Γ.G.cls y.2.c) (spX Γ.G (Γ.G.cls y.2.c) y.2.c (as.cnt + 1) (Γ.Φ.fn y.2.n)) (rd Γ as W).a W := by rw [rdS]
      rw [e3, h7]
      exact q
theorem sh_nox : (∀ d : D, d.isSh = true → d.nox = true) ∧ ∀ ds : List D, D.isShL ds = true → D.noxL ds = true := by
  have h : ∀ n, (∀ d : D, sizeOf d < n → d.isSh = true → d.nox = true) ∧ ∀ ds : List D, sizeOf ds < n → D.isShL ds = true → D.noxL ds = true := fun n => by
    induction n with
    | zero => exact ⟨fun d z => absurd z (by omega), fun d z => absurd z (by omega)⟩
    | succ n ih =>
      refine ⟨fun d z k => ?_, fun ds z k => ?_⟩
      · cases d with
        | exn c ns vs => cases k
        | lst o xs => exact ih.2 xs (by simp at z; omega) (Bool.and_eq_true_iff.mp k).2
        | tup o xs => exact ih.2 xs (by simp at z; omega) (Bool.and_eq_true_iff.mp k).2
        | dct o t ks vs => exact ih.2 vs (by simp at z; omega) (Bool.and_eq_true_iff.mp k).2
        | obj o c ns vs => exact ih.2 vs (by simp at z; omega) (Bool.and_eq_true_iff.mp k).2
        | _ => rfl
      · cases ds with
        | nil => rfl
        | cons d r =>
          have k : (d.isSh && D.isShL r) = true := k
          rw [Bool.and_eq_true] at k
          show (d.nox && D.noxL r) = true
          rw [ih.1 d (by simp at z; omega) k.1, ih.2 r (by simp at z; omega) k.2]
          rfl
  exact ⟨fun d => (h _).1 d (Nat.lt_succ_self _), fun ds => (h _).2 ds (Nat.lt_succ_self _)⟩
/-- a call's promise, seen from an except suite -/
theorem spD_wx {G : GX} {e : Option (Addr × Nat × Option Addr)} {n : Nat} {f : List D → Res D} (h0 : G.ex = none) {vs : List V} {H : Hp} {Q : VK} {E : XK} (h : spD (G.wx e) n f vs H Q E) : spD G n f vs H Q E := by
  obtain ⟨hl, F, ds, s, r, hs, p⟩ := h
  refine ⟨hl, F, ds, s, Reps.unex (fun p o h _ => h) (fun p h => h) _ r (sh_nox.2 ds hs), hs, ?_⟩
  unfold PostF at p ⊢
  cases e1 : f ds with
  | ok d => rw [e1] at p; exact fun v F' H' T g r t => p v F' H' T g (Rep.toex h0 _ r) t
  | exc x =>
    rw [e1] at p
    refine fun c dx F' H' T g xr => p c dx F' H' T g ⟨xr.1, xr.2.imp id fun ⟨d, fs, z1, z2, z3, z4, z5, z6⟩ => ⟨d, fs, z1, z2, z3, z4, Reps.toex h0 _ z5, z6⟩⟩
  | stuck => rw [e1] at p; exact p.elim
theorem pss_gate {Y : Cx} {p : Prop} {t : TS} {sts : List Stmt} (h : p → PSs Y sts t) : PSs Y sts (gateS p t) := ⟨fun pins s σ H D I q => (h q.1).run pins s σ H D I q.2⟩
/-- the context of an except suite -/
theorem Ass.hotSuite (A : Ass Γ C k X W) (h0 : Γ.G.ex = none) {a : Addr} {oe : Obj} {d : Option Addr} {pn : List (Addr × Obj)} {c : Nat} (hz : L2N.Zn (.ref (Γ.G.cls c)) d oe) (hf : ∃ vs, oe.data = .fields vs) : Ass (Γ.wx a c d) C.suite k (X.suite a ((a, oe) :: pn)) noW :=
  { N := A.N, nd := A.nd, sc := A.sc, K := A.K, calm := (fun z => nomatch z), hu := A.hu,
    room := ⟨⟨A.room.h.dp, A.room.h.un⟩, (fun z => nomatch z), fun _ => ⟨(a, oe), ⟨rfl, hf.imp fun vs e => ⟨e, hz.2.2 vs e⟩⟩, List.mem_cons_self⟩⟩,
    tk := takesN0, fn := A.fn, sigs := fun p hp => (A.hsg p hp).imp fun vs H Q E h => spD_wx h0 h, hsg := fun p hp => (A.hsg p hp).imp fun vs H Q E h => spD_wx h0 h,
    glb := A.glb, cls := A.cls, exs := (fun _ z => nomatch z), xfs := A.xfs, xcs := A.xcs, stk := (fun z => nomatch z),
    exx := (fun a' c' o h => by cases h; exact ⟨rfl, rfl, X, oe, pn, rfl, hz.zc, hf⟩), blt := A.blt }
theorem Ass.hotSuite0 (A : Ass Γ C k X W) (h0 : Γ.G.ex = none) {a : Addr} {oe : Obj} {cls : Value} {d : Option Addr} {pn : List (Addr × Obj)} (hz : L2N.Zn cls d oe) (hf : ∃ vs, oe.data = .fields vs) : Ass Γ C.suite k (X.suite a ((a, oe) :: pn)) noW :=
  { N := A.N, nd := A.nd, sc := A.sc, K := A.K, calm := (fun z => nomatch z), hu := A.hu,
    room := ⟨⟨A.room.h.dp, A.room.h.un⟩, (fun z => nomatch z), fun _ => ⟨(a, oe), ⟨rfl, hf.imp fun vs e => ⟨e, hz.2.2 vs e⟩⟩, List.mem_cons_self⟩⟩,
    tk := takesN0, fn := A.fn, sigs := A.hsg, hsg := A.hsg,
    glb := A.glb, cls := A.cls, exs := (fun _ z => nomatch z), xfs := A.xfs, xcs := A.xcs, stk := (fun z => nomatch z),
    exx := (fun a' c' o h => by rw [h0] at h; cases h), blt := A.blt }
theorem so_tryS (A : Ass Γ C k X W) (c cC : Nat) (oi : Option Nat) (b s : DS) (hw : wfS Γ (.tryS c cC oi b s) = true) (ih : ∀ {Y : Cx} {V : WX}, Ass Γ C k Y V → PassesOwn (model Y.prog Y.w) Y.A Y.env Y.xe → SO Γ b C Y V)
    (ihs : ∀ {Γ' : GE} {C' : CC} {Y : Cx} {V : WX}, Ass Γ' C' k Y V → PassesOwn (model Y.prog Y.w) Y.A Y.env Y.xe → wfS Γ' s = true → SO Γ' s C' Y V) : SO Γ (.tryS c cC oi b s) C X W := by
  refine .ofOne (fun st hq => ?_) fun sts => rfl
  have hx : (match dTry st with
    | some (bd, x, on, s0, r) => C.tr && (C.cl.any fun p => decide (p.1 = x) && decide (p.2 = cC)) && C.glo x && onOk C oi on && chkS b C (.blk bd) && chkS s C.suite (.blk (s0 :: r))
    | none => false) = true := hq
  clear hq
  cases q : dTry st with
  | none => rw [q] at hx; cases hx
  | some w =>
    obtain ⟨bd, x, on, s0, r⟩ := w
    rw [q] at hx
    obtain ⟨p, p2, p3, rfl⟩ := dTry_ok q
    simp only [Bool.and_eq_true, decide_eq_true_eq, List.any_eq_true] at hx
    obtain ⟨⟨⟨⟨⟨h1, ⟨y, hy, h2, h3⟩⟩, h4⟩, h5⟩, h6⟩, h7⟩ := hx
    obtain ⟨s1, s2, hh⟩ := A.stk h1
    have h0 : Γ.G.ex = none := by
      cases e : Γ.G.ex with
      | none => rfl
      | some t =>
        obtain ⟨a, c, o⟩ := t
        exact nomatch hh.symm.trans (A.exx a c o e).1
    unfold CC.glo at h4
    rw [Bool.and_eq_true, decide_eq_true_eq] at h4
    have hN : Names X x (.ref (Γ.G.cls cC)) := ⟨show X.env.scope.names.lookup x = _ by rw [A.sc]; exact h4.1, (plainN_ok h4.2).1, .inl (by rw [← h2, ← h3]; exact A.cls y hy)⟩
    have body : ∀ (V : WX) (pn : List (Addr × Obj)) (xe : Value → Shared → Prop), L2N.Takes (X.tr pn xe) V → PassesOwn (model X.prog X.w) X.A X.env xe → PSs (X.tr pn xe) bd (rdS Γ b V) := fun V pn xe tk hp => (ih (A.toTr hh tk) hp).blk bd h6
    cases oi with
    | some i =>
      replace hw : (wfS Γ b && Γ.exm.contains (c, cC) && Γ.xc.isNone && wfS { Γ with xc := some c } s) = true := hw
      rw [Bool.and_eq_true] at hw
      cases on with
      | none => cases h5
      | some n =>
        replace h5 : (decide (C.N[i]? = some n) && decide (C.sc.names.lookup n = some .local)) = true := h5
        simp only [Bool.and_eq_true, decide_eq_true_eq] at h5
        have q := L2N.ps_try_as (pos := p3) (pos' := p2) (np := p) (ts := fun a cls d => gateS (cls = .ref (Γ.G.cls c)) (rdS (Γ.wx a c d) s noW)) s1 s2 A.nd (by rw [A.N]; exact h5.1) (show X.env.scope.names.lookup n = _ by rw [A.sc]; exact h5.2) hN A.tk body fun a oe cls d pn hz hf => pss_gate fun hc => by
          subst hc
          exact (ihs (A.hotSuite h0 hz hf) PassesOwn.never ((wfS_ate Γ.Φ (some (a, c, d)) { Γ with xc := some c } s).trans hw.2)).blk _ h7
        rw [A.K] at q
        exact q
    | none =>
      replace hw : (wfS Γ b && Γ.exm.contains (c, cC) && wfS Γ s) = true := hw
      rw [Bool.and_eq_true] at hw
      cases on with
      | some n => cases h5
      | none =>
        have q := L2N.ps_try_many (pos := p3) (l := [(_, fun _ _ _ => rdS Γ s noW)]) s1 s2 A.tk body (.cons (np := p) (pos' := p2) hN (fun a oe cls d pn hz hf => (ihs (A.hotSuite0 h0 hz hf) PassesOwn.never hw.2).blk _ h7) .nil)
        rw [A.K] at q
        exact q
theorem so_try (A : Ass Γ C k X W) (c cC : Nat) (oi : Option Nat) (b : DS) (h : HS) (hf : (h.flds.all fun f => Γ.xfs.contains (c, f)) = true) (ih : ∀ {Y : Cx} {V : WX}, Ass Γ C k Y V → PassesOwn (model Y.prog Y.w) Y.A Y.env Y.xe → SO Γ b C Y V) : SO Γ (.tryA c cC oi b h) C X W := by
  refine .ofOne (fun st h0 => ?_) fun sts => rfl
  have hx : (match dTry st with
    | some (bd, x, on, s0, r) => C.tr && (C.cl.any fun p => decide (p.1 = x) && decide (p.2 = cC)) && C.glo x && onOk C oi on && chkS b C (.blk bd) && r.isEmpty && chkH C oi h s0
    | none => false) = true := h0
  clear h0
  cases q : dTry st with
  | none => rw [q] at hx; cases hx
  | some w =>
    obtain ⟨bd, x, on, s0, r⟩ := w
    rw [q] at hx
    obtain ⟨p, p2, p3, rfl⟩ := dTry_ok q
    simp only [Bool.and_eq_true, decide_eq_true_eq, List.any_eq_true] at hx
    obtain ⟨⟨⟨⟨⟨⟨h1, ⟨y, hy, h2, h3⟩⟩, h4⟩, h5⟩, h6⟩, h7⟩, h8⟩ := hx
    have h7 : r = [] := List.isEmpty_iff.mp h7
    subst h7
    obtain ⟨s1, s2, hh⟩ := A.stk h1
    unfold CC.glo at h4
    rw [Bool.and_eq_true, decide_eq_true_eq] at h4
    have hN : Names X x (.ref (Γ.G.cls cC)) := ⟨show X.env.scope.names.lookup x = _ by rw [A.sc]; exact h4.1, (plainN_ok h4.2).1, .inl (by rw [← h2, ← h3]; exact A.cls y hy)⟩
    have hfl : ∀ f ∈ h.flds, (c, f) ∈ Γ.xfs := fun f hf' => by simpa using List.all_eq_true.mp hf f hf'
    have body : ∀ (V : WX) (pn : List (Addr × Obj)) (xe : Value → Shared → Prop), L2N.Takes (X.tr pn xe) V → PassesOwn (model X.prog X.w) X.A X.env xe → PSs (X.tr pn xe) bd (rdS Γ b V) := fun V pn xe tk hp => (ih (A.toTr hh tk) hp).blk bd h6
    cases oi with
    | some i =>
      cases on with
      | none => cases h5
      | some n =>
        have h5 : (decide (C.N[i]? = some n) && decide (C.sc.names.lookup n = some .local)) = true := h5
        simp only [Bool.and_eq_true, decide_eq_true_eq] at h5
        have q := L2N.ps_try_as (pos := p3) (pos' := p2) (np := p) (ts := hRd (Γ.G.cls c) i h) s1 s2 A.nd (by rw [A.N]; exact h5.1) (show X.env.scope.names.lookup n = _ by rw [A.sc]; exact h5.2) hN A.tk body fun a oe cls d pn hz hf => su_ok A hz.zc hf h s0 hfl h8
        rw [A.K] at q
        exact q
    | none =>
      cases on with
      | some n => cases h5
      | none =>
        have q := L2N.ps_try_many (pos := p3) (l := [(_, hRd (Γ.G.cls c) 0 h)]) s1 s2 A.tk body (.cons (np := p) (pos' := p2) hN (fun a oe cls d pn hz hf => su_ok A hz.zc hf h s0 hfl h8) .nil)
        rw [A.K] at q
        exact q
end
/-- a def's body that the checker takes runs as its reading says -/
theorem so_all {Γ : GE} {C : CC} {X : Cx} {W : WX} {k : Nat} (A : Ass Γ C k X W) (hp : PassesOwn (model X.prog X.w) X.A X.env X.xe) : ∀ s : DS, wfS Γ s = true → SO Γ s C X W := fun s => by
  induction s generalizing Γ C X W with
  | nev => exact fun _ => ⟨fun st _ => ps_never, fun sts _ => pss_never⟩
  | skip =>
    refine fun _ => ⟨fun st h => ?_, fun sts h => ?_⟩
    · have h : isDoc st = true := h
      unfold isDoc at h
      split at h
      · exact ps_doc
      · exact ps_pass
      · cases h
    · have h : sts.isEmpty = true := h
      rw [List.isEmpty_iff.mp h]
      exact pss_nil
  | seq a b iha ihb =>
    intro h
    have h : (wfS Γ a && wfS Γ b) = true := h
    rw [Bool.and_eq_true] at h
    refine ⟨(fun st h => nomatch h), fun sts hs => ?_⟩
    cases hd : a.isDem with
    | true =>
      have hs : chkS b C (.blk sts) = true := by
        have q : chkS (.seq a b) C (.blk sts) = chkS b C (.blk sts) := by
          cases a <;> first | rfl | cases hd
        rw [← q]
        exact hs
      have e : rdS Γ a W = tNext := by
        cases a <;> first | rfl | cases hd
      have q := (ihb A hp h.2).blk sts hs
      show PSs X sts (tSeq (rdS Γ a W) (rdS Γ b W))
      rw [e]
      exact q
    | false =>
      cases sts with
      | nil =>
        have q : chkS (.seq a b) C (.blk []) = false := by
          cases a <;> first | rfl | cases hd
        rw [q] at hs
        cases hs
      | cons st r =>
        have hs : (chkS a C (.one st) && chkS b C (.blk r)) = true := by
          have q : chkS (.seq a b) C (.blk (st :: r)) = (chkS a C (.one st) && chkS b C (.blk r)) := by
            cases a <;> first | rfl | cases hd
          rw [← q]
          exact hs
        rw [Bool.and_eq_true] at hs
        exact pss_cons ((iha A hp h.1).one st hs.1) ((ihb A hp h.2).blk r hs.2)
  | asg i e => exact fun h => so_asg A i e h
  | asgT t e => exact fun h => so_asgT A t e h
  | par i j as => exact fun h => so_par A i j as h
  | aug i o e => exact fun h => so_aug A i o e h
  | ifs c a b iha ihb =>
    intro h
    have h : (wf Γ false c && wfS Γ a && wfS Γ b) = true := h
    simp only [Bool.and_eq_true] at h
    refine .ofOne (fun st h0 => ?_) fun sts => rfl
    have hx : (match dIfS st with
      | some (x, p, q) => chk c C (.t x) && chkS a C (.blk p) && chkS b C (.blk q)
      | none => false) = true := h0
    clear h0
    cases q : dIfS st with
    | none => rw [q] at hx; cases hx
    | some w =>
      obtain ⟨x, p, q'⟩ := w
      rw [q] at hx
      obtain ⟨ps, rfl⟩ := dIfS_ok q
      have hx : (chk c C (.t x) && chkS a C (.blk p) && chkS b C (.blk q')) = true := hx
      simp only [Bool.and_eq_true] at hx
      exact ps_if ((co_all Γ _ c h.1.1 C k X W A).t x hx.1.1).1 ((iha A hp h.1.2).blk p hx.1.2) ((ihb A hp h.2).blk q' hx.2)
  | forS kd src tg b ih =>
    intro h
    have h : (wf Γ true src && srcOk kd src && wfS Γ b) = true := h
    simp only [Bool.and_eq_true] at h
    refine .ofOne (fun st h0 => ?_) fun sts => rfl
    have hx : (match dFor st with
      | some (t, i, p) => match srcE kd C i t with
        | some es => chk src C (.a es) && chkG C tg t && notSet i && chkS b C (.blk p) && !C.hot
        | none => false
      | none => false) = true := h0
    clear h0
    cases q : dFor st with
    | none => rw [q] at hx; cases hx
    | some w =>
      obtain ⟨t, i, p⟩ := w
      rw [q] at hx
      obtain ⟨ps, rfl⟩ := dFor_ok q
      dsimp only at hx
      cases q2 : srcE kd C i t with
      | none => rw [q2] at hx; cases hx
      | some es =>
        rw [q2] at hx
        have hx : (chk src C (.a es) && chkG C tg t && notSet i && chkS b C (.blk p) && !C.hot) = true := hx
        simp only [Bool.and_eq_true] at hx
        exact ps_for hp (A.calm (by simpa using hx.2)) (src_ok A (co_all Γ _ src h.1.1 C k X W A) h.1.2 q2 hx.1.1.1.1) (chkG_ok A tg t hx.1.1.1.2) ((ih A hp h.2).blk p hx.1.2) (notSet_ok hx.1.1.2)
  | whl c b ih =>
    intro h
    have h : (wf Γ false c && wfS Γ b) = true := h
    simp only [Bool.and_eq_true] at h
    refine .ofOne (fun st h0 => ?_) fun sts => rfl
    have hx : (match dWh st with
      | some (x, p) => chk c C (.t x) && chkS b C (.blk p)
      | none => false) = true := h0
    clear h0
    cases q : dWh st with
    | none => rw [q] at hx; cases hx
    | some w =>
      obtain ⟨x, p⟩ := w
      rw [q] at hx
      obtain ⟨ps, rfl⟩ := dWh_ok q
      have hx : (chk c C (.t x) && chkS b C (.blk p)) = true := hx
      simp only [Bool.and_eq_true] at hx
      exact ps_while hp ((co_all Γ _ c h.1 C k X W A).t x hx.1).1 ((ih A hp h.2).blk p hx.2)
  | ret e =>
    intro h
    refine .ofOne (fun st h0 => ?_) fun sts => rfl
    have hx : (match dRet st with
      | some (some v) => chk e C (.e v)
      | _ => false) = true := h0
    clear h0
    cases q : dRet st with
    | none => rw [q] at hx; cases hx
    | some w =>
      cases w with
      | none => rw [q] at hx; cases hx
      | some v =>
        rw [q] at hx
        obtain ⟨ps, rfl⟩ := dRet_ok q
        exact ps_ret ((co_all Γ false e h C k X W A).e v hx)
  | retN =>
    refine fun _ => .ofOne (fun st h0 => ?_) fun sts => rfl
    have hx : (match dRet st with
      | some none => true
      | _ => false) = true := h0
    clear h0
    cases q : dRet st with
    | none => rw [q] at hx; cases hx
    | some w =>
      cases w with
      | none =>
        obtain ⟨ps, rfl⟩ := dRet_ok q
        exact ps_retN
      | some v => rw [q] at hx; cases hx
  | brk =>
    refine fun _ => .ofOne (fun st h0 => ?_) fun sts => rfl
    cases st <;> first | exact ps_break | cases h0
  | cnt =>
    refine fun _ => .ofOne (fun st h0 => ?_) fun sts => rfl
    cases st <;> first | exact ps_continue | cases h0
  | expr e =>
    intro h
    have h : (wf Γ false e && e.movs.isEmpty) = true := h
    rw [Bool.and_eq_true] at h
    refine .ofOne (fun st h0 => ?_) fun sts => rfl
    have hx : (match dEx st with
      | some v => !isComp v && chk e C (.e v)
      | none => false) = true := h0
    clear h0
    cases q : dEx st with
    | none => rw [q] at hx; cases hx
    | some v =>
      rw [q] at hx
      obtain ⟨ps, rfl⟩ := dEx_ok q
      have hx : (!isComp v && chk e C (.e v)) = true := hx
      rw [Bool.and_eq_true, Bool.not_eq_true'] at hx
      exact ps_expr ((co_all Γ false e h.1 C k X W A).e v hx.2) (sw_plain hx.1)
  | app i e => exact fun h => so_app A i e h
  | appPop j i e => exact fun h => so_appPop A j i e h
  | setI i kk e =>
    intro h
    have h : (wf Γ false kk && wf Γ false e) = true := h
    rw [Bool.and_eq_true] at h
    exact so_setI A i kk e h.1 h.2
  | augI i kk o e =>
    intro h
    have h : (wf Γ false kk && wf Γ false e) = true := h
    rw [Bool.and_eq_true] at h
    exact so_augI A i kk o e h.1 h.2
  | rev i => exact fun h => so_rev A i
  | clr i => exact fun h => so_clr A i
  | ins i a b =>
    intro h
    have h : (wf Γ false a && wf Γ false b && a.movs.isEmpty && b.movs.isEmpty) = true := h
    simp only [Bool.and_eq_true] at h
    exact so_ins A i a b h.1.1.1 h.1.1.2
  | pop i kk => exact fun h => so_pop A i kk h
  | sdApp i kk e =>
    intro h
    have h : (wf Γ false kk && sdOk i e) = true := h
    rw [Bool.and_eq_true] at h
    exact so_sdApp A i kk e h.1 h.2
  | popL i => exact fun h => so_popL A i
  | whlN i e b ih =>
    intro h
    have h : (wf Γ false e && wfS Γ b) = true := h
    rw [Bool.and_eq_true] at h
    refine .ofOne (fun st h0 => ?_) fun sts => rfl
    have hx : (match dWh st with
      | some (x, p) => match dWn x with
        | some (n, v, c) => decide (C.N[i]? = some n) && C.loc n && decide (dK c = some .none) && chk e C (.e v) && chkS b C (.blk p)
        | none => false
      | none => false) = true := h0
    clear h0
    cases q : dWh st with
    | none => rw [q] at hx; cases hx
    | some w =>
      obtain ⟨x, p⟩ := w
      rw [q] at hx
      obtain ⟨ps, rfl⟩ := dWh_ok q
      dsimp only at hx
      cases q2 : dWn x with
      | none => rw [q2] at hx; cases hx
      | some w =>
        obtain ⟨n, v, c⟩ := w
        rw [q2] at hx
        obtain ⟨p1, p2, p3, rfl⟩ := dWn_ok q2
        have hx : (decide (C.N[i]? = some n) && C.loc n && decide (dK c = some .none) && chk e C (.e v) && chkS b C (.blk p)) = true := hx
        simp only [Bool.and_eq_true, decide_eq_true_eq] at hx
        obtain ⟨⟨⟨⟨h1, h2⟩, h3⟩, h4⟩, h5⟩ := hx
        obtain ⟨a1, a2⟩ := A.loc h2
        have hN : X.N[i]? = some n := by rw [A.N]; exact h1
        obtain ⟨j, pc, rfl⟩ := dK_ok h3
        exact ps_whileW hp (ptw_cmp op_notN (pew_named A.nd hN a1 (pew_of ((co_all Γ _ e h.1 C k X W A).e v h4)) a2) pe_non (nomark _)) ((ih A hp h.2).blk p h5) pss_nil
  | rem i a => exact fun h => so_rem A i a h
  | setA i f e =>
    intro h
    have h : (wf Γ false e && Γ.flds.contains f) = true := h
    rw [Bool.and_eq_true] at h
    exact so_setA A i f e h.1
  | dem i => exact fun _ => ⟨(fun st h => nomatch h), (fun sts h => nomatch h)⟩
  | rse c n as => exact fun h => so_rse A c n as h
  | tryA c cC oi b h0 ih =>
    intro h
    have h : (wfS Γ b && Γ.exm.contains (c, cC) && h0.ok && (oi.isSome || h0.noX) && h0.flds.all fun f => Γ.xfs.contains (c, f)) = true := h
    rw [Bool.and_eq_true] at h
    refine so_try A c cC oi b h0 h.2 fun {Y V} AY hpY => ih AY hpY ?_
    have h1 := h.1
    simp only [Bool.and_eq_true] at h1
    exact h1.1.1.1
  | tryS c cC oi b s ihb ihs =>
    intro h
    refine so_tryS A c cC oi b s h (fun {Y V} AY hpY => ihb AY hpY ?_) fun {Γ' C' Y V} AY hpY w => ihs AY hpY w
    cases oi with
    | some i =>
      have h : (wfS Γ b && Γ.exm.contains (c, cC) && Γ.xc.isNone && wfS { Γ with xc := some c } s) = true := h
      simp only [Bool.and_eq_true] at h
      exact h.1.1.1
    | none =>
      have h : (wfS Γ b && Γ.exm.contains (c, cC) && wfS Γ s) = true := h
      simp only [Bool.and_eq_true] at h
      exact h.1.1
end MP
set_option Elab.async false
set_option linter.all false
set_option maxRecDepth 100000
set_option maxHeartbeats 1000000
namespace MP
open PySem PyProof.Rows
open L2 hiding St
/-- what the row gives to every def: its classes, constants, builtins; the defs below -/
structure Bas (Γ : GE) (sg : List (Str × Sig)) (gl cl : List (Str × Nat)) (xg : List (Str × XSig)) (hs : List (Str × Sig)) (k : Nat) (P : Program) (w : World) (K : PySem.W.Frag) (mg : Str → Option Value) (base : Heap) : Prop where
  hK : K = Γ.G.K
  ok : GOk Γ
  sigs : ∀ p ∈ sg, CallAll false P w K mg base k p.1 p.2.np p.2.ks (spD Γ.G (p.2.np + p.2.ks.length) (Γ.Φ.fn p.2.f))
  glb : ∀ p ∈ gl, ∃ u, mg p.1 = some u ∧ RelV (Γ.gv p.2) u
  cls : ∀ p ∈ cl, mg p.1 = some (.ref (Γ.G.cls p.2))
  blt : ∀ x ∈ bltNames, mg x = none
  ex0 : Γ.G.ex = none
  hsg : ∀ p ∈ hs, CallAll true P w K mg base k p.1 p.2.np p.2.ks (spD Γ.G (p.2.np + p.2.ks.length) (Γ.Φ.fn p.2.f))
  exs : ∀ p ∈ xg, RaiseAll P w K mg base k p.1 p.2.np (Γ.G.cls p.2.c) (spX Γ.G (Γ.G.cls p.2.c) p.2.c (p.2.np + 1) (Γ.Φ.fn p.2.n))
def CC.of (N : List Str) (sc : Scope) (sg : List (Str × Sig)) (gl cl : List (Str × Nat)) (xg : List (Str × XSig)) (hs : List (Str × Sig)) : CC := ⟨N, sc, fun _ => true, sg, gl, cl, xg, true, false, hs⟩
/-- a def that is called within an except suite -/
def CC.ofH (N : List Str) (sc : Scope) (gl cl : List (Str × Nat)) (hs : List (Str × Sig)) : CC := ⟨N, sc, fun _ => true, hs, gl, cl, [], false, true, hs⟩
section
variable {Γ : GE} {sg : List (Str × Sig)} {gl cl : List (Str × Nat)} {xg : List (Str × XSig)} {hs : List (Str × Sig)} {k : Nat} {P : Program} {w : World} {K : PySem.W.Frag} {mg : Str → Option Value} {base : Heap}
theorem ok_start {G : GX} {F H : Hp} {N : List Str} {vs : List V} {ds : List D} (e : Same F H) (r : Reps G F H ds vs []) (hl : vs.length ≤ N.length) : Ok G F H (L2.start N vs) (ds ++ List.replicate (N.length - ds.length) .dead) fun _ => [] := by
  have hlen := r.len
  refine ⟨e, ?_, fun i => ?_, fun i => List.nodup_nil, fun i j p h => nomatch h⟩
  · unfold L2.start
    simp [hlen]
  · by_cases hi : i < vs.length
    · have hd : ds[i]? = some (ds[i]'(by omega)) := List.getElem?_eq_getElem (by omega)
      obtain ⟨v, hv, rv⟩ := r.sh_get hd
      refine .inr ⟨v, ?_, ?_⟩
      · unfold gv L2.start
        rw [List.getElem?_append_left (by simpa using hi), List.getElem?_map, hv]
        rfl
      · have : gd (ds ++ List.replicate (N.length - ds.length) .dead) i = ds[i]'(by omega) := by
          unfold gd
          rw [List.getD_eq_getElem?_getD, List.getElem?_append_left (by omega), hd]
          rfl
        rw [this]
        exact rv
    · refine .inl ⟨?_, rfl⟩
      unfold gd
      rw [List.getD_eq_getElem?_getD, List.getElem?_append_right (by omega), List.getElem?_replicate]
      split <;> rfl
theorem gr_of {F H F' H' : Hp} {S' : Nat → List Addr} (g : GrS F H (fun _ => []) F' H' S') (e : Same F' H') : Gr F H F' H' :=
  ⟨g.f, (fun b o h => g.keep b o h fun i z => nomatch z), e, fun p a b => (g.new p a b).elim id fun ⟨i, z⟩ => nomatch z⟩
theorem fun_okN {CX : CXT} {x qual : Str} {st : Stmt} {f : Addr} {fd : FuncData} {N ps : List Str} {sp : Sp} (F : L2.Fun K x qual st f fd) (S : FnScope N ps (defScope st)) (len : ∀ vs H Q E, sp vs H Q E → vs.length = ps.length)
    (hbody : ∀ (cdv : Value) (A : Around) (outer : List Env) (s : Shared) (H : Hp) (vs : List V) (Q : VK) (E : XK), Room k (A.deeper (envOfC qual (defScope st) s.heap.objs.size f cdv)) → sp vs H Q E →
      ∃ t, PSs (cxOf CX P w K mg base N qual (defScope st) f cdv A outer s H E) (defBody st) t ∧ t { nx := fun _ H' => Q .non H', rt := Q } (L2.start N vs) H) : FnOk P w K mg base CX (k + 1) f fd ps sp := by
  obtain ⟨oc, od, kV, doc, pm, an, cdv, ct, osl, rfl, lk, hcd⟩ := F.ex
  exact fn_of lk hcd S len fun A outer s H vs Q E hr hsp => hbody cdv A outer s H vs Q E hr hsp
theorem fun_okH {CX : CXT} {x qual : Str} {st : Stmt} {f : Addr} {fd : FuncData} {N ps : List Str} {sp : Sp} (F : L2.Fun K x qual st f fd) (S : FnScope N ps (defScope st)) (len : ∀ vs H Q E, sp vs H Q E → vs.length = ps.length)
    (hbody : ∀ (cdv : Value) (A : Around) (outer : List Env) (s : Shared) (H : Hp) (vs : List V) (Q : VK) (E : XK) (p : Addr × Obj), L2H.Hot1 A p → L2H.RoomH k (A.deeper (envOfC qual (defScope st) s.heap.objs.size f cdv)) → sp vs H Q E →
      ∃ t, PSs (L2H.cxH CX P w K mg base N qual (defScope st) f cdv A outer s H E p) (defBody st) t ∧ t { nx := fun _ H' => Q .non H', rt := Q } (L2.start N vs) H) : L2H.FnH P w K mg base CX (k + 1) f fd ps sp := by
  obtain ⟨oc, od, kV, doc, pm, an, cdv, ct, osl, rfl, lk, hcd⟩ := F.ex
  exact L2H.fn_ofH lk hcd S len fun A outer s H vs Q E p h1 hr hsp => hbody cdv A outer s H vs Q E p h1 hr hsp
/-- a def whose text the checker takes keeps what its interpretation says -/
theorem fn_den {x qual : Str} {st : Stmt} {f : Addr} {fd : FuncData} {N ps : List Str} {b : DS} (n : Nat) (B : Bas Γ sg gl cl xg hs k P w K mg base) (Fn : L2.Fun K x qual st f fd) (S : FnScope N ps (defScope st)) (hw : wfS Γ b = true) (hc : chkS b (CC.of N (defScope st) sg gl cl xg hs) (.blk (defBody st)) = true) :
    FnOk P w K mg base (L2N.CX P w) (k + 1) f fd ps (spD Γ.G ps.length (runF Γ.Φ n N.length b)) := by
  refine fun_okN Fn S (fun vs H Q E h => h.1) fun cdv A outer s H vs Q E hr hsp => ?_
  obtain ⟨hl, F, ds, e, rs, hsh, post⟩ := hsp
  have As : Ass Γ (CC.of N (defScope st) sg gl cl xg hs) k (cxOf (L2N.CX P w) P w K mg base N qual (defScope st) f cdv A outer s H E) (fun cls d _ H => E cls d H) :=
    { N := rfl, nd := S.nd, sc := rfl, K := B.hK, calm := fun _ => rfl, hu := by have := hr.un; show (A.deeper _).units + 65 < cLine; omega, room := roomC_of hr, tk := L2N.takes_of rfl rfl rfl rfl, fn := fun _ _ => rfl, sigs := B.sigs, hsg := B.hsg, glb := B.glb, cls := B.cls, blt := B.blt, exs := fun p hp => ⟨rfl, B.exs p hp⟩, xfs := B.ok.xfs, xcs := fun c h => (B.ok.xcs c h).1, stk := fun _ => ⟨rfl, rfl, rfl⟩, exx := fun a c o h => nomatch B.ex0.symm.trans h }
  refine ⟨rdS Γ b (fun cls d _ H => E cls d H), (so_all As (passes_of rfl) b hw).blk _ hc, ?_⟩
  have hpl : ps.length ≤ N.length := by have := congrArg List.length S.pre; rw [List.length_take] at this; omega
  refine den_allS Γ B.ok n _ b hw (L2.start N vs) F H _ (fun _ => []) _ (ok_start e rs (by omega)) ?_
  unfold runF at post
  cases h : evalS Γ.Φ n b (ds ++ List.replicate (N.length - ds.length) .dead) with
  | nx δ =>
    rw [h] at post
    exact fun σ' F' H' S' g k' => post .non F' H' [] (gr_of g k'.fh) ⟨rfl, rfl⟩ List.nodup_nil fun p z => nomatch z
  | rt d =>
    rw [h] at post
    exact fun v F' H' T g r t => post v F' H' T ⟨g.f, (fun b o h => g.keep b o h fun i z => nomatch z), g.fh, fun p a b => (g.new p a b).elim id fun ⟨i, z⟩ => nomatch z⟩ r t.1 fun p hp => (t.2 p hp).elim id fun ⟨i, z⟩ => nomatch z
  | bk δ => rw [h] at post; exact post.elim
  | ct δ => rw [h] at post; exact post.elim
  | exc x δ =>
    rw [h] at post
    exact fun c dx σ' F' H' S' T g k' xr => post c dx F' H' T (gr_of g k'.fh) xr
  | stuck => rw [h] at post; exact post.elim
theorem fn_denH {x qual : Str} {st : Stmt} {f : Addr} {fd : FuncData} {N ps : List Str} {b : DS} (n : Nat) (B : Bas Γ sg gl cl xg hs k P w K mg base) (Fn : L2.Fun K x qual st f fd) (S : FnScope N ps (defScope st)) (hw : wfS Γ b = true) (hc : chkS b (CC.ofH N (defScope st) gl cl hs) (.blk (defBody st)) = true) :
    L2H.FnH P w K mg base (L2N.CX P w) (k + 1) f fd ps (spD Γ.G ps.length (runF Γ.Φ n N.length b)) := by
  refine fun_okH Fn S (fun vs H Q E h => h.1) fun cdv A outer s H vs Q E pp hot hr hsp => ?_
  obtain ⟨hl, F, ds, e, rs, hsh, post⟩ := hsp
  have As : Ass Γ (CC.ofH N (defScope st) gl cl hs) k (L2H.cxH (L2N.CX P w) P w K mg base N qual (defScope st) f cdv A outer s H E pp) (fun cls d _ H => E cls d H) :=
    { N := rfl, nd := S.nd, sc := rfl, K := B.hK, calm := (fun z => nomatch z), hu := by have := hr.un; show (A.deeper _).units + 65 < cLine; omega, room := ⟨hr, (fun z => nomatch z), fun _ => ⟨pp, hot, List.mem_cons_self⟩⟩, tk := L2N.takes_of rfl rfl rfl rfl, fn := fun _ _ => rfl, sigs := B.hsg, hsg := B.hsg, glb := B.glb, cls := B.cls, blt := B.blt, exs := (fun _ z => nomatch z), xfs := B.ok.xfs, xcs := fun c h => (B.ok.xcs c h).1, stk := (fun z => nomatch z), exx := fun a c o h => nomatch B.ex0.symm.trans h }
  refine ⟨rdS Γ b (fun cls d _ H => E cls d H), (so_all As (passes_of rfl) b hw).blk _ hc, ?_⟩
  have hpl : ps.length ≤ N.length := by have := congrArg List.length S.pre; rw [List.length_take] at this; omega
  refine den_allS Γ B.ok n _ b hw (L2.start N vs) F H _ (fun _ => []) _ (ok_start e rs (by omega)) ?_
  unfold runF at post
  cases h : evalS Γ.Φ n b (ds ++ List.replicate (N.length - ds.length) .dead) with
  | nx δ =>
    rw [h] at post
    exact fun σ' F' H' S' g k' => post .non F' H' [] (gr_of g k'.fh) ⟨rfl, rfl⟩ List.nodup_nil fun p z => nomatch z
  | rt d =>
    rw [h] at post
    exact fun v F' H' T g r t => post v F' H' T ⟨g.f, (fun b o h => g.keep b o h fun i z => nomatch z), g.fh, fun p a b => (g.new p a b).elim id fun ⟨i, z⟩ => nomatch z⟩ r t.1 fun p hp => (t.2 p hp).elim id fun ⟨i, z⟩ => nomatch z
  | bk δ => rw [h] at post; exact post.elim
  | ct δ => rw [h] at post; exact post.elim
  | exc x δ =>
    rw [h] at post
    exact fun c dx σ' F' H' S' T g k' xr => post c dx F' H' T (gr_of g k'.fh) xr
  | stuck => rw [h] at post; exact post.elim
/-- the same for a def with defaults -/
theorem fn_denD {x qual : Str} {params : Arguments} {body : List Stmt} {scope : Scope} {dvs : List V} {kws : List (Str × V)} {f : Addr} {fd : FuncData} {N ps : List Str} {b : DS} (n : Nat) (B : Bas Γ sg gl cl xg hs k P w K mg base) (Fn : FunD K x qual params body scope dvs kws f fd) (S : FnScope N ps scope) (hw : wfS Γ b = true) (hc : chkS b (CC.of N scope sg gl cl xg hs) (.blk body) = true) :
    FnOk P w K mg base (L2N.CX P w) (k + 1) f fd ps (spD Γ.G ps.length (runF Γ.Φ n N.length b)) := by
  refine Fn.ok S (fun vs H Q E h => h.1) fun cdv A outer s H vs Q E hr hsp => ?_
  obtain ⟨hl, F, ds, e, rs, hsh, post⟩ := hsp
  have As : Ass Γ (CC.of N scope sg gl cl xg hs) k (cxOf (L2N.CX P w) P w K mg base N qual scope f cdv A outer s H E) (fun cls d _ H => E cls d H) :=
    { N := rfl, nd := S.nd, sc := rfl, K := B.hK, calm := fun _ => rfl, hu := by have := hr.un; show (A.deeper _).units + 65 < cLine; omega, room := roomC_of hr, tk := L2N.takes_of rfl rfl rfl rfl, fn := fun _ _ => rfl, sigs := B.sigs, hsg := B.hsg, glb := B.glb, cls := B.cls, blt := B.blt, exs := fun p hp => ⟨rfl, B.exs p hp⟩, xfs := B.ok.xfs, xcs := fun c h => (B.ok.xcs c h).1, stk := fun _ => ⟨rfl, rfl, rfl⟩, exx := fun a c o h => nomatch B.ex0.symm.trans h }
  refine ⟨rdS Γ b (fun cls d _ H => E cls d H), (so_all As (passes_of rfl) b hw).blk _ hc, ?_⟩
  have hpl : ps.length ≤ N.length := by have := congrArg List.length S.pre; rw [List.length_take] at this; omega
  refine den_allS Γ B.ok n _ b hw (L2.start N vs) F H _ (fun _ => []) _ (ok_start e rs (by omega)) ?_
  unfold runF at post
  cases h : evalS Γ.Φ n b (ds ++ List.replicate (N.length - ds.length) .dead) with
  | nx δ =>
    rw [h] at post
    exact fun σ' F' H' S' g k' => post .non F' H' [] (gr_of g k'.fh) ⟨rfl, rfl⟩ List.nodup_nil fun p z => nomatch z
  | rt d =>
    rw [h] at post
    exact fun v F' H' T g r t => post v F' H' T ⟨g.f, (fun b o h => g.keep b o h fun i z => nomatch z), g.fh, fun p a b => (g.new p a b).elim id fun ⟨i, z⟩ => nomatch z⟩ r t.1 fun p hp => (t.2 p hp).elim id fun ⟨i, z⟩ => nomatch z
  | bk δ => rw [h] at post; exact post.elim
  | ct δ => rw [h] at post; exact post.elim
  | exc x δ =>
    rw [h] at post
    exact fun c dx σ' F' H' S' T g k' xr => post c dx F' H' T (gr_of g k'.fh) xr
  | stuck => rw [h] at post; exact post.elim
theorem call_fn {x : Str} {f : Addr} {fd : FuncData} {ps : List Str} {sp : Sp} (F : FnOk P w K mg base (L2N.CX P w) k f fd ps sp) (hm : mg x = some (.ref f)) (hk : PySem.W.keepIn K (.ref f) = true) (hb : Binds K fd ps []) : CallAll false P w K mg base k x ps.length [] sp := by
  refine ⟨.ref f, hm, hk, fun X h1 h2 h3 h4 h5 hr W tk pins s σ H Q vs zs us ws I r1 r2 l1 l2 q => ?_⟩
  subst h1 h2 h3 h4 h5
  cases r2 with
  | cons _ _ => cases l2
  | nil =>
    rw [List.append_nil] at q
    exact run_fnS (E := WE W) F (hr.c rfl) hb (L2N.passAt tk σ) I r1 q
theorem call_fnH {x : Str} {f : Addr} {fd : FuncData} {ps : List Str} {sp : Sp} (F : L2H.FnH P w K mg base (L2N.CX P w) k f fd ps sp) (hm : mg x = some (.ref f)) (hk : PySem.W.keepIn K (.ref f) = true) (hb : Binds K fd ps []) : CallAll true P w K mg base k x ps.length [] sp := by
  refine ⟨.ref f, hm, hk, fun X h1 h2 h3 h4 h5 hr W tk pins s σ H Q vs zs us ws I r1 r2 l1 l2 q => ?_⟩
  subst h1 h2 h3 h4 h5
  cases r2 with
  | cons _ _ => cases l2
  | nil =>
    rw [List.append_nil] at q
    exact L2H.run_fnH (E := WE W) F hr.h (hr.x rfl) hb (L2N.passAt tk σ) I r1 q
end
end MP
set_option Elab.async false
set_option linter.all false
set_option maxRecDepth 100000
set_option maxHeartbeats 1000000
namespace MP
open PySem PyProof.Rows
open L2 hiding St
/-! ### bodies that keep their first slot's value: what a class makes -/
def PostK (G : GX) (W : WX) (F H : Hp) (S : Nat → List Addr) (D : Ends) (z : V) : SR → Prop
  | .nx δ' => ∀ σ' F' H' S', σ'[0]? = some (some z) → GrS F H S F' H' S' → Ok G F' H' σ' δ' S' → D.nx σ' H'
  | .ct δ' => ∀ σ' F' H' S', σ'[0]? = some (some z) → GrS F H S F' H' S' → Ok G F' H' σ' δ' S' → D.ct σ' H'
  | .bk δ' => ∀ σ' F' H' S', σ'[0]? = some (some z) → GrS F H S F' H' S' → Ok G F' H' σ' δ' S' → D.bk σ' H'
  | .exc x δ' => ∀ c dx σ' F' H' S' T, GrS F H S F' H' S' → Ok G F' H' σ' δ' S' → XRep G F' H' x c dx T → W c dx σ' H'
  | _ => False
def DenK (G : GX) (W : WX) (t : TS) (g : List D → SR) : Prop :=
  ∀ σ F H δ S D z, σ[0]? = some (some z) → Ok G F H σ δ S → PostK G W F H S D z (g δ) → t D σ H
section
variable {G : GX} {W : WX} {F H F' H' : Hp} {S S' : Nat → List Addr} {D : Ends} {z : V}
theorem PostK.step {r : SR} (p : PostK G W F H S D z r) (g : GrS F H S F' H' S') : PostK G W F' H' S' D z r := by
  cases r with
  | nx δ => exact fun σ2 F2 H2 S2 e g2 k => p σ2 F2 H2 S2 e (g.trans g2) k
  | ct δ => exact fun σ2 F2 H2 S2 e g2 k => p σ2 F2 H2 S2 e (g.trans g2) k
  | bk δ => exact fun σ2 F2 H2 S2 e g2 k => p σ2 F2 H2 S2 e (g.trans g2) k
  | exc x δ => exact fun c dx σ2 F2 H2 S2 T g2 k xr => p c dx σ2 F2 H2 S2 T (g.trans g2) k xr
  | _ => exact p
theorem PostK.guard {b : Bool} {r : SR} (p : PostK G W F H S D z (guardS b r)) : b = true ∧ PostK G W F H S D z r := by
  cases b with
  | true => exact ⟨rfl, p⟩
  | false => exact p.elim
end
section
variable {G : GX} {W : WX} {ta : TE} {φ : List D → Res D} {fr : Bool} {ms : List Nat} {t u : TS} {f g : List D → SR}
theorem DenE.goK (h : DenE G W ta φ fr ms) {σ : St} {F H : Hp} {δ : List D} {S : Nat → List Addr} {E : Ends} {z : V} {Q : VK} (k : Ok G F H σ δ S) {f : D → SR}
    (p : PostK G W F H S E z (SR.of (tkOk fr (φ δ)) δ f)) (n : ∀ d v F' H' T, φ δ = .ok d → Gr F H F' H' → Ok G F' H' σ δ S → Rep G F' H' d v T → (ms.Nodup → Fre H S ms T) → PostK G W F H S E z (f d) → Q v H') : ta σ H Q := by
  refine h σ F H δ S Q k ?_
  cases e : φ δ with
  | ok d =>
    rw [e] at p
    have p : PostK G W F H S E z (SR.of (guardR (fr || d.isSh) (.ok d)) δ f) := p
    cases hg : (fr || d.isSh) with
    | false => rw [hg] at p; exact p.elim
    | true =>
      rw [hg] at p
      intro v F' H' T g r q
      refine n d v F' H' T e g (k.gr g) r (fun nd => ?_) p
      cases hf : fr with
      | true => exact q hf nd
      | false =>
        rw [hf] at hg
        have z := Rep.shn _ r (by simpa using hg)
        subst z
        exact fre_nil
  | exc x => rw [e] at p; exact fun c dx F' H' T g xr => p c dx σ F' H' S T (.of g) (k.gr g) xr
  | stuck => rw [e] at p; exact p.elim
theorem k_skip : DenK G W tNext fun δ => .nx δ := fun σ F H δ S E z e k p => p σ F H S e (.refl k.fh) k
theorem k_nev : DenK G W tNever fun _ => .stuck := fun σ F H δ S E z e k p => p.elim
theorem k_seq (ha : DenK G W t f) (hb : DenK G W u g) : DenK G W (tSeq t u) fun δ => match f δ with
    | .nx δ2 => g δ2
    | o => o := by
  intro σ F H δ S E z e0 k p
  refine ha σ F H δ S _ z e0 k ?_
  dsimp only at p
  cases e : f δ with
  | nx δ2 =>
    rw [e] at p
    exact fun σ2 F2 H2 S2 e2 g2 k2 => hb σ2 F2 H2 δ2 S2 E z e2 k2 (p.step g2)
  | rt d => rw [e] at p; exact p
  | bk δ2 => rw [e] at p; exact p
  | ct δ2 => rw [e] at p; exact p
  | exc x δ2 => rw [e] at p; exact p
  | stuck => rw [e] at p; exact p
theorem k_expr (he : DenE G W ta φ fr []) : DenK G W (tDrop ta) fun δ => SR.of (φ δ) δ fun _ => .nx δ := by
  intro σ F H δ S E z e0 k p
  refine he σ F H δ S _ k ?_
  dsimp only at p
  cases e : φ δ with
  | ok d => rw [e] at p; exact fun v F' H' T g r q => p σ F' H' S e0 (.of g) (k.gr g)
  | exc x => rw [e] at p; exact fun c dx F' H' T g xr => p c dx σ F' H' S T (.of g) (k.gr g) xr
  | stuck => rw [e] at p; exact p.elim
theorem k_asg {i : Nat} (hi0 : i ≠ 0) (he : DenE G W ta φ fr ms) : DenK G W (tAsg ta (gName i)) fun δ => SR.of (tkOk fr (φ δ)) δ fun d => guardS (decide (i < δ.length) && nodupB ms) (.nx ((kill ms δ).set i d)) := by
  intro σ F H δ S E z e0 k p
  refine he.goK k p fun d v F1 H1 T e1 g1 k1 r1 q1 p1 => ?_
  obtain ⟨hg, p1⟩ := PostK.guard p1
  rw [Bool.and_eq_true] at hg
  have f1 := q1 (nodup_of hg.2)
  have k2 := k1.kills ms
  have k3 := k2.set (by rw [kill_len]; exact of_decide_eq_true hg.1) r1 f1.1 fun j p _ hp => fre_sep (F' := F1) (H' := H1) k f1 hp
  exact p1 _ F1 H1 _ (by rw [List.getElem?_set_ne hi0]; exact e0) (g1.set (fun j p h => (killS_sub h).1) f1.sm) k3
theorem k_setA {i : Nat} {f : Str} (hc : ∀ c ∈ G.cs, Cls G.K (G.cls c)) (hf : ∀ c ∈ G.cs, NoAttr G.K (G.cls c) f) (he : DenE G W ta φ fr ms) :
    DenK G W (sFld G.K (tVar i) ta f) fun δ => SR.of (tkOk fr (φ δ)) δ fun d => match gd δ i with
    | .obj true c ns vs => guardS (nodupB (i :: ms) && !ns.contains f && decide (ns.length < 900)) (.nx ((kill ms δ).set i (.obj true c (ns ++ [f]) (vs ++ [d]))))
    | _ => .stuck := by
  intro σ F H δ S E z e0 k p
  refine he.goK k p fun d v F1 H1 T1 e1 g1 k1 r1 q1 p1 => ?_
  have hx : ∃ c ns vs, gd δ i = .obj true c ns vs := by
    cases q : gd δ i with
    | obj o c ns vs => cases o with
      | true => exact ⟨c, ns, vs, rfl⟩
      | false => rw [q] at p1; exact p1.elim
    | _ => rw [q] at p1; exact p1.elim
  obtain ⟨c, ns, vs, e⟩ := hx
  rw [e] at p1
  obtain ⟨hg, p1⟩ := PostK.guard p1
  simp only [Bool.and_eq_true, Bool.not_eq_true', decide_eq_true_eq] at hg
  obtain ⟨⟨h1, h2⟩, h3⟩ := hg
  have hnd := List.nodup_cons.mp (nodup_of h1)
  have f1 := q1 hnd.2
  have k2 := k1.kills ms
  have e2 : gd (kill ms δ) i = .obj true c ns vs := by rw [gd_kill hnd.1]; exact e
  obtain ⟨u, hu, ru⟩ := k2.get e2 (fun z => nomatch z)
  obtain ⟨l, dx, fs, T, rfl, hr, ⟨hn, hcs⟩, hH, nl, hS⟩ := ru
  have hi := gd_lt e2 (fun z => nomatch z)
  have hsep : ∀ j p, p ∈ T1 → p ∉ killS ms S j := fun j p hp => fre_sep (F' := F1) (H' := H1) k f1 hp
  have hlT1 : l ∉ T1 := fun z => hsep i l z (by rw [hS]; exact List.mem_cons_self)
  have ndS := k2.nd i
  rw [hS, List.nodup_cons] at ndS
  have hnf : (fs.map (·.1)).contains f = false := by rw [← hn]; exact h2
  have ra := hr.app (Reps.cons r1 Reps.nil)
  rw [List.append_nil] at ra
  refine ⟨.ref l, hu, l, G.cls c, dx, fs, rfl, hH, hc c hcs, hf c hcs, by
    have : fs.length = ns.length := by rw [hn, List.length_map]
    omega, ?_⟩
  rw [putF_new hnf]
  have hrep : Rep G F1 (upd H1 l (.ins (G.cls c) dx (fs ++ [(f, v)]))) (.obj true c (ns ++ [f]) (vs ++ [d])) (.ref l) (l :: (T ++ T1)) := by
    refine ⟨l, dx, fs ++ [(f, v)], T ++ T1, rfl, ?_, ⟨by rw [List.map_append, hn]; rfl, hcs⟩, upd_same, nl, rfl⟩
    rw [List.map_append]
    exact Reps.mono (Same.refl _) _ ra fun p hp => ⟨(Reps.own _ ra p hp).1, upd_ne fun z => (List.mem_append.mp hp).elim (fun h => ndS.1 (z ▸ h)) fun h => hlT1 (z ▸ h)⟩
  have hlS : ∃ j, l ∈ S j := ⟨i, by rw [← killS_same (ms := ms) (S := S) hnd.1, hS]; exact List.mem_cons_self⟩
  have k3 := k2.mut (H2 := upd H1 l (.ins (G.cls c) dx (fs ++ [(f, v)]))) hi (fun q hq => .inl (upd_ne fun z => hq (by rw [hS, z]; exact List.mem_cons_self))) hu hrep (List.nodup_cons.mpr ⟨fun z => (List.mem_append.mp z).elim ndS.1 hlT1, List.nodup_append.mpr ⟨ndS.2, f1.1, fun p hp q hq z => by
    subst z
    exact hsep i p hq (by rw [hS]; exact List.mem_cons_of_mem _ hp)⟩⟩) fun j p hj hp => by
      rcases List.mem_cons.mp hp with rfl | hp
      · exact fun z => hj (k2.sep j i p z (by rw [hS]; exact List.mem_cons_self))
      · rcases List.mem_append.mp hp with z | z
        · exact fun y => hj (k2.sep j i p y (by rw [hS]; exact List.mem_cons_of_mem _ z))
        · exact hsep j p z
  refine p1 σ F1 _ _ e0 (g1.put hlS (fun j p h => (killS_sub h).1) fun p hp => ?_) k3
  rcases List.mem_cons.mp hp with rfl | hp
  · exact .inr hlS
  · rcases List.mem_append.mp hp with z | z
    · exact .inr ⟨i, by rw [← killS_same (ms := ms) (S := S) hnd.1, hS]; exact List.mem_cons_of_mem _ z⟩
    · exact f1.sm p z
theorem k_same (hc : ∀ δ δ', g δ ≠ .ct δ' ∧ g δ ≠ .bk δ') (hs : ∀ (E : Ends) (nx : St → Hp → Prop) σ H, (∀ H', nx σ H' = E.nx σ H') → t { E with nx := nx } σ H → t E σ H) (h : DenS G W t g) : DenK G W t g := by
  intro σ F H δ S E z e0 k p
  refine hs E (fun σ' H' => σ'[0]? = some (some z) → E.nx σ' H') σ H (fun H' => propext ⟨fun h => h e0, fun h _ => h⟩) (h σ F H δ S _ k ?_)
  have hct := hc δ
  cases e : g δ with
  | nx δ' => rw [e] at p; exact fun σ' F' H' S' g' k' e' => p σ' F' H' S' e' g' k'
  | exc x δ' => rw [e] at p; exact p
  | ct δ' => exact absurd e (hct δ').1
  | bk δ' => exact absurd e (hct δ').2
  | _ => rw [e] at p; exact p.elim
theorem same_next (E : Ends) (nx : St → Hp → Prop) (σ : St) (H : Hp) (h : ∀ H', nx σ H' = E.nx σ H') (q : tNext { E with nx := nx } σ H) : tNext E σ H := by
  show E.nx σ H
  rw [← h]; exact q
theorem same_drop (ta : TE) (E : Ends) (nx : St → Hp → Prop) (σ : St) (H : Hp) (h : ∀ H', nx σ H' = E.nx σ H') (q : tDrop ta { E with nx := nx } σ H) : tDrop ta E σ H := by
  have e : (fun (_ : V) H1 => E.nx σ H1) = fun (_ : V) H1 => nx σ H1 := funext fun _ => funext fun H1 => (h H1).symm
  show ta σ H fun _ H1 => E.nx σ H1
  rw [e]; exact q
theorem k_if {c : TT} (hc : DenT G W c φ) (ha : DenK G W t f) (hb : DenK G W u g) : DenK G W (tIfS c t u) fun δ => SR.of (φ δ) δ fun x => match x with
    | .bl true => f δ
    | .bl false => g δ
    | _ => .stuck := by
  intro σ F H δ S E z e0 k p
  refine hc σ F H δ S _ k ?_
  dsimp only at p
  cases e : φ δ with
  | stuck => rw [e] at p; exact p.elim
  | exc x => rw [e] at p; exact fun c dx F' H' T g xr => p c dx σ F' H' S T (.of g) (k.gr g) xr
  | ok d =>
    rw [e] at p
    cases d with
    | bl b =>
      intro F1 H1 g1
      cases b with
      | true => exact ha σ F1 H1 δ S E z e0 (k.gr g1) (PostK.step p (.of g1))
      | false => exact hb σ F1 H1 δ S E z e0 (k.gr g1) (PostK.step p (.of g1))
    | _ => exact p.elim
theorem k_for {kk : IK} {wi : TI} {φs : List D → Res (List D)} {tg : Tg} {tb : TS} (h0 : 0 ∉ tgSlots tg) (hi : DenI G W kk wi φs) (hb : DenK G W tb g) :
    DenK G W (tFor wi (tgR G.K tg) tb) fun δ => SR.of (φs δ) δ fun xs => guardS (D.isShL xs) (match itemsOf kk (D.flatL xs) with
    | some ys => forL tg g ys δ
    | none => .stuck) := by
  intro σ F H δ S E z e0 k0 p
  refine hi σ F H δ S _ k0 ?_
  dsimp only at p
  cases e : φs δ with
  | stuck => rw [e] at p; exact p.elim
  | exc x => rw [e] at p; exact fun c dx F' H' T g xr => p c dx σ F' H' S T (.of g) (k0.gr g) xr
  | ok xs =>
    rw [e] at p
    obtain ⟨hs, p⟩ := PostK.guard p
    cases e2 : itemsOf kk (D.flatL xs) with
    | none => rw [e2] at p; exact p.elim
    | some ys =>
      rw [e2] at p
      dsimp only at p
      refine ⟨hs, ys, e2, fun J F1 H1 g1 io => ?_⟩
      refine ⟨fun i m σi Hi => m = ys.length - i ∧ i ≤ ys.length ∧ ∃ Fi Si δi, Same F1 Fi ∧ σi[0]? = some (some z) ∧ Ok G Fi Hi σi δi Si ∧ PostK G W Fi Hi Si E z (forL tg g (ys.drop i) δi),
        ⟨ys.length, rfl, Nat.zero_le _, F1, S, δ, Same.refl _, e0, k0.gr g1, p.step (.of g1)⟩, ?_⟩
      rintro i m σi Hi ⟨rfl, hile, Fi, Si, δi, sF, ei0, ki, pi⟩
      by_cases hlt : i < ys.length
      · refine .inr ⟨io.go i Fi Hi hlt sF ki.fh, fun σ' H' => i + 1 ≤ ys.length ∧ ∃ Fi Si δi, Same F1 Fi ∧ σ'[0]? = some (some z) ∧ Ok G Fi H' σ' δi Si ∧ PostK G W Fi H' Si E z (forL tg g (ys.drop (i + 1)) δi),
          fun σ' H' h' => ⟨ys.length - (i + 1), by omega, rfl, h'.1, h'.2⟩, fun x H2 hy => ?_⟩
        obtain ⟨F2, d, g2, hd, rd⟩ := io.yld i Fi Hi x H2 hlt sF ki.fh hy
        rw [List.drop_eq_getElem_cons hlt] at pi
        rw [List.getElem?_eq_getElem hlt] at hd
        cases hd
        have pi := pi.step (.of g2)
        unfold forL at pi
        cases et : tgSet tg ys[i] δi with
        | none => rw [et] at pi; exact pi.elim
        | some δ1 =>
          rw [et] at pi
          dsimp only at pi
          refine tg_ok tg (ki.gr g2) rd List.nodup_nil (fun _ _ z => nomatch z) et fun σ2 S2 ⟨k2, m2, s0⟩ => ?_
          have pi := pi.step (F' := F2) (H' := H2) (S' := S2) ⟨Same.refl _, fun _ _ h _ => h, fun _ h => h, fun p a b => absurd a b, fun j p h => (m2 j p h).elim (fun z => .inr ⟨j, z⟩) fun z => nomatch z⟩
          have s2 := sF.trans g2.f
          refine hb σ2 F2 H2 δ1 S2 _ z ((s0 0 h0).trans ei0) k2 ?_
          cases eb : g δ1 with
          | stuck => rw [eb] at pi; exact pi.elim
          | exc x δ' => rw [eb] at pi; exact pi
          | rt d => rw [eb] at pi; exact pi.elim
          | nx δ' => rw [eb] at pi; exact fun σ' F' H' S' e' g' k' => ⟨by omega, F', S', δ', s2.trans g'.f, e', k', PostK.step pi g'⟩
          | ct δ' => rw [eb] at pi; exact fun σ' F' H' S' e' g' k' => ⟨by omega, F', S', δ', s2.trans g'.f, e', k', PostK.step pi g'⟩
          | bk δ' => rw [eb] at pi; exact pi
      · have ei : i = ys.length := by omega
        subst ei
        rw [List.drop_length] at pi
        exact .inl ⟨io.stop Fi Hi sF ki.fh, pi σi Fi Hi Si ei0 (.refl ki.fh) ki⟩
end
/-- the forms of such a body -/
def initB : DS → Bool
  | .nev => true
  | .skip => true
  | .seq a b => initB a && initB b
  | .asg i _ => decide (i ≠ 0)
  | .expr _ => true
  | .setA _ _ _ => true
  | .ifs _ a b => initB a && initB b
  | .forS _ _ tg b => !(tgSlots tg).contains 0 && initB b
  | .app _ _ => true
  | .dem _ => true
  | _ => false
theorem app_ct {Φ : Tab} {n i : Nat} {e : DE} (δ δ' : List D) : evalS Φ n (.app i e) δ ≠ .ct δ' ∧ evalS Φ n (.app i e) δ ≠ .bk δ' := by
  have ho : ∀ {r : Res D} {f : D → SR}, (∀ a, f a ≠ .ct δ' ∧ f a ≠ .bk δ') → SR.of r δ f ≠ .ct δ' ∧ SR.of r δ f ≠ .bk δ' := fun {r f} h => by
    cases r with
    | ok a => exact h a
    | _ => exact ⟨(fun z => nomatch z), (fun z => nomatch z)⟩
  rw [evalS]
  split
  · refine ho fun d => ?_
    unfold guardS
    split <;> exact ⟨(fun z => nomatch z), (fun z => nomatch z)⟩
  · exact ⟨(fun z => nomatch z), (fun z => nomatch z)⟩
theorem k_all (Γ : GE) (ok : GOk Γ) (n : Nat) (W : WX) : ∀ s : DS, wfS Γ s = true → initB s = true → DenK Γ.G W (rdS Γ s W) (evalS Γ.Φ n s) := fun s => by
  induction s with
  | nev => exact fun _ _ => k_nev
  | skip => exact fun _ _ => k_skip
  | seq a b iha ihb =>
    intro h h2
    have h : (wfS Γ a && wfS Γ b) = true := h
    have h2 : (initB a && initB b) = true := h2
    rw [Bool.and_eq_true] at h h2
    exact k_seq (iha h.1 h2.1) (ihb h.2 h2.2)
  | asg i e => exact fun h h2 => k_asg (of_decide_eq_true h2) ((den_all Γ ok e).e W h).1
  | expr e =>
    intro h _
    have h : (wf Γ false e && e.movs.isEmpty) = true := h
    rw [Bool.and_eq_true] at h
    have q := ((den_all Γ ok e).e W h.1).1
    rw [List.isEmpty_iff.mp h.2] at q
    exact k_expr q
  | setA i f e =>
    intro h _
    have h : (wf Γ false e && Γ.flds.contains f) = true := h
    rw [Bool.and_eq_true] at h
    exact k_setA ok.cls (ok.noa f (by simpa using h.2)) ((den_all Γ ok e).e W h.1).1
  | ifs c a b iha ihb =>
    intro h h2
    have h : (wf Γ false c && wfS Γ a && wfS Γ b) = true := h
    have h2 : (initB a && initB b) = true := h2
    simp only [Bool.and_eq_true] at h h2
    exact k_if ((den_all Γ ok c).e W h.1.1).2 (iha h.1.2 h2.1) (ihb h.2 h2.2)
  | forS k src tg b ih =>
    intro h h2
    have h : (wf Γ true src && srcOk k src && wfS Γ b) = true := h
    have h2 : (!(tgSlots tg).contains 0 && initB b) = true := h2
    simp only [Bool.and_eq_true, Bool.not_eq_true'] at h h2
    exact k_for (by simpa using h2.1) (den_src (den_all Γ ok src) h.1.2 h.1.1) (ih h.2 h2.2)
  | app i e => exact fun h _ => k_same (app_ct (n := n)) (same_drop _) (den_app ((den_all Γ ok e).e W h).1)
  | dem i => exact fun _ _ => k_same (fun _ _ => ⟨(fun h => nomatch h), (fun h => nomatch h)⟩) same_next den_dem
  | _ => exact fun _ h => nomatch h
/-- an __init__'s promise: at any state -/
def spS (Γ : GE) (N : List Str) (np fuel : Nat) (b : DS) : Sp := fun vs H Q E => vs.length = np ∧ ∃ F δ S z, (L2.start N vs)[0]? = some (some z) ∧ Ok Γ.G F H (L2.start N vs) δ S ∧
  PostK Γ.G (fun cls d _ H => E cls d H) F H S { nx := fun _ H' => Q .non H', rt := Q } z (evalS Γ.Φ fuel b δ)
section
variable {Γ : GE} {sg : List (Str × Sig)} {gl cl : List (Str × Nat)} {xg : List (Str × XSig)} {hs : List (Str × Sig)} {k : Nat} {P : Program} {w : World} {K : PySem.W.Frag} {mg : Str → Option Value} {base : Heap}
theorem init_den {x qual : Str} {params : Arguments} {body : List Stmt} {scope : Scope} {dvs : List V} {kws : List (Str × V)} {f : Addr} {fd : FuncData} {N ps : List Str} {b : DS} (n : Nat) (B : Bas Γ sg gl cl xg hs k P w K mg base) (Fn : FunD K x qual params body scope dvs kws f fd) (S : FnScope N ps scope) (hw : wfS Γ b = true) (hi : initB b = true) (hc : chkS b (CC.of N scope sg gl cl xg hs) (.blk body) = true) :
    FnOk P w K mg base (L2N.CX P w) (k + 1) f fd ps (spS Γ N ps.length n b) := by
  refine Fn.ok S (fun vs H Q E h => h.1) fun cdv A outer s H vs Q E hr hsp => ?_
  obtain ⟨hl, F, δ, S', z, e0, k0, post⟩ := hsp
  have As : Ass Γ (CC.of N scope sg gl cl xg hs) k (cxOf (L2N.CX P w) P w K mg base N qual scope f cdv A outer s H E) (fun cls d _ H => E cls d H) :=
    { N := rfl, nd := S.nd, sc := rfl, K := B.hK, calm := fun _ => rfl, hu := by have := hr.un; show (A.deeper _).units + 65 < cLine; omega, room := roomC_of hr, tk := L2N.takes_of rfl rfl rfl rfl, fn := fun _ _ => rfl, sigs := B.sigs, hsg := B.hsg, glb := B.glb, cls := B.cls, blt := B.blt, exs := fun p hp => ⟨rfl, B.exs p hp⟩, xfs := B.ok.xfs, xcs := fun c h => (B.ok.xcs c h).1, stk := fun _ => ⟨rfl, rfl, rfl⟩, exx := fun a c o h => nomatch B.ex0.symm.trans h }
  exact ⟨rdS Γ b (fun cls d _ H => E cls d H), (so_all As (passes_of rfl) b hw).blk _ hc, k_all Γ B.ok n _ b hw hi (L2.start N vs) F H δ S' _ z e0 k0 post⟩
end
end MP
set_option Elab.async false
set_option linter.all false
set_option maxRecDepth 100000
set_option maxHeartbeats 1000000
namespace MP
open PySem PyProof.Rows
open L2 hiding St
section
variable {Γ : GE} {k : Nat} {P : Program} {w : World} {K : PySem.W.Frag} {mg : Str → Option Value} {base : Heap}
/-- a class is called: a new instance, its __init__, with what the caller's own slots say of exceptions -/
theorem make_at {X : Cx} {CX : CXT} {j n : Nat} {f C : Addr} {fd : FuncData} {ps ks : List Str} {sp : Sp} {E : XK} {g : List Value → List Value → List Value} {gV : List V → List V → List V} {pins : List (Addr × Obj)} {σ : St} {H : Hp} {s : Shared} {Q : VK} {us ws : List Value} {vs zs : List V}
    (M : Mk X.K C f) (F : FnOk X.prog X.w X.K X.mg X.base CX j f fd ps sp) (room : Room (j + 1) X.A) (kb : KBn X.K fd ps (n + 1) ks g gV) (px : PassesAt CX X σ E) (inv : Inv X pins σ H s) (ru : Vals vs us) (rz : Vals zs ws) (hn : vs.length = n) (hm : zs.length = ks.length)
    (go : ∀ a d, H a = none → H d = none → d ≠ a → sp (gV (.ref a :: vs) zs) (upd (upd H d (.own a)) a (.ins C d [])) (fun v H2 => v = .non ∧ Q (.ref a) H2) E) :
    wpAny (model X.prog X.w) X.A (call (.ref C) us (ks.zip ws)) (EP X pins σ Q) X.xe s := by
  have size := s.heap.objs.size
  have g0 := go (s.heap.objs.size + 1) s.heap.objs.size (inv.hok.fresh (Nat.le_succ _)) (inv.hok.fresh (Nat.le_refl _)) (Nat.ne_of_lt (Nat.lt_succ_self _))
  have inv2 := Inv.made (C := C) inv
  have rs : Vals (V.ref (s.heap.objs.size + 1) :: vs) (Value.ref (s.heap.objs.size + 1) :: us) := .cons rfl ru
  have hlen : (Value.ref (s.heap.objs.size + 1) :: us).length = n + 1 := congrArg (· + 1) (ru.length.symm.trans hn)
  have bound := kb.to _ (Value.ref (s.heap.objs.size + 1) :: us) ws inv2.kIn hlen (rz.length.symm.trans hm)
  have ran := F.run _ X.stack _ _ ⟨Value.ref (s.heap.objs.size + 1) :: us, ks.zip ws⟩ _ _ _ E (room.make C us (ks.zip ws)) (inv2.env0.make C us (ks.zip ws)) bound (kb.rel rs rz) g0
  refine wpAny_call (make_map (f := f) inv.kIn M.makes M.init (beq_iff_eq.mp M.fn) (codeAny_mono ran fun r s2 out => ?_))
  rcases r with e | fl
  · exact px pins _ _ e s2 inv2 out
  · cases fl <;> first | exact False.elim out | skip
    obtain ⟨v, H3, inv3, rv, rfl, q⟩ := inv2.after out
    exact ⟨rv, ⟨V.ref (s.heap.objs.size + 1), H3, inv3, rfl, q⟩⟩
/-- a def is called with keywords, with what the caller's own slots say of exceptions -/
theorem fn_at {X : Cx} {CX : CXT} {j n : Nat} {f : Addr} {fd : FuncData} {ps ks : List Str} {sp : Sp} {E : XK} {g : List Value → List Value → List Value} {gV : List V → List V → List V} {pins : List (Addr × Obj)} {σ : St} {H : Hp} {s : Shared} {Q : VK} {us ws : List Value} {vs zs : List V}
    (F : FnOk X.prog X.w X.K X.mg X.base CX j f fd ps sp) (room : Room j X.A) (kb : KBn X.K fd ps n ks g gV) (px : PassesAt CX X σ E) (inv : Inv X pins σ H s) (ru : Vals vs us) (rz : Vals zs ws) (hn : vs.length = n) (hm : zs.length = ks.length)
    (go : sp (gV vs zs) H Q E) : wpAny (model X.prog X.w) X.A (call (.ref f) us (ks.zip ws)) (EP X pins σ Q) X.xe s := by
  have bound := kb.to s us ws inv.kIn (ru.length.symm.trans hn) (rz.length.symm.trans hm)
  have ran := F.run _ X.stack _ _ ⟨us, ks.zip ws⟩ _ _ _ E room inv.env0 bound (kb.rel ru rz) go
  refine wpAny_call (codeAny_mono ran fun r s2 out => ?_)
  rcases r with e | fl
  · exact px pins _ _ e s2 inv out
  · cases fl <;> first | exact False.elim out | exact inv.after out
/-- the arguments as the def takes them -/
structure ReF (G : GX) (np : Nat) (ks : List Str) (m : Nat) (gV : List V → List V → List V) (re : List D → List D) : Prop where
  ok : ∀ F H vs zs ds, Reps G F H ds (vs ++ zs) [] → vs.length = np → zs.length = ks.length → (gV vs zs).length = m ∧ Reps G F H (re ds) (gV vs zs) []
  sh : ∀ ds, D.isShL ds = true → D.isShL (re ds) = true
theorem call_fnK {x : Str} {f : Addr} {fd : FuncData} {ps ks : List Str} {np : Nat} {g : List Value → List Value → List Value} {gV : List V → List V → List V} {re : List D → List D} {f' : List D → Res D} {G : GX}
    (F : FnOk P w K mg base (L2N.CX P w) k f fd ps (spD G ps.length f')) (hm : mg x = some (.ref f)) (hk : PySem.W.keepIn K (.ref f) = true) (kb : KBn K fd ps np ks g gV) (R : ReF G np ks ps.length gV re) :
    CallAll false P w K mg base k x np ks (spD G (np + ks.length) fun ds => f' (re ds)) := by
  refine ⟨.ref f, hm, hk, fun X h1 h2 h3 h4 h5 hr W tk pins s σ H Q vs zs us ws I r1 r2 l1 l2 q => ?_⟩
  subst h1 h2 h3 h4 h5
  obtain ⟨hl, F0, ds, e, rs, hs, post⟩ := q
  obtain ⟨h1, h2⟩ := R.ok F0 H vs zs ds rs l1 l2
  exact fn_at (E := WE W σ) F (hr.c rfl) kb (L2N.passAt tk σ) I r1 r2 l1 l2 ⟨h1, F0, re ds, e, h2, R.sh ds hs, post⟩
/-- the arguments as the class's __init__ takes them -/
structure ReOk (G : GX) (np : Nat) (ks : List Str) (gV : List V → List V → List V) (re : List D → List D) : Prop where
  ok : ∀ F H x vs zs ds, Reps G F H ds (vs ++ zs) [] → vs.length = np → zs.length = ks.length → ∃ r, gV (.ref x :: vs) zs = .ref x :: r ∧ Reps G F H (re ds) r []
  sh : ∀ ds, D.isShL ds = true → D.isShL (re ds) = true
theorem call_cls {c : Nat} {x : Str} {f : Addr} {fd : FuncData} {ps ks : List Str} {np n : Nat} {N : List Str} {b : DS} {g : List Value → List Value → List Value} {gV : List V → List V → List V} {re : List D → List D} (hK : K = Γ.G.K) (hcs : c ∈ Γ.G.cs)
    (M : Mk K (Γ.G.cls c) f) (F : FnOk P w K mg base (L2N.CX P w) k f fd ps (spS Γ N ps.length n b)) (hN : ps.length ≤ N.length) (hm : mg x = some (.ref (Γ.G.cls c))) (kb : KBn K fd ps (np + 1) ks g gV) (R : ReOk Γ.G np ks gV re) (hps : ∀ a vs zs, vs.length = np → zs.length = ks.length → (gV (.ref a :: vs) zs).length = ps.length) :
    CallAll false P w K mg base (k + 1) x np ks (spD Γ.G (np + ks.length) fun ds => initF Γ.Φ n N.length b c (re ds)) := by
  refine ⟨.ref (Γ.G.cls c), hm, M.kp, fun X h1 h2 h3 h4 h5 hr W tk pins s σ H Q vs zs us ws I r1 r2 l1 l2 q => ?_⟩
  subst h1 h2 h3 h4 h5
  obtain ⟨hl, F0, ds, e, rs, hs, post⟩ := q
  refine make_at (E := WE W σ) M F (hr.c rfl) kb (L2N.passAt tk σ) I r1 r2 l1 l2 fun a d ha hd hda => ?_
  obtain ⟨r, er, rr⟩ := R.ok F0 H a vs zs ds rs l1 l2
  have hlen := hps a vs zs l1 l2
  have nF : F0 a = none := e.free ha
  have nFd : F0 d = none := e.free hd
  have hH : ∀ p, p ≠ a → p ≠ d → (upd (upd H d (.own a)) a (.ins (Γ.G.cls c) d [])) p = H p := fun p h1 h2 => by rw [upd_ne h1, upd_ne h2]
  have sH : Same H (upd (upd H d (.own a)) a (.ins (Γ.G.cls c) d [])) := fun p o h => by
    rw [hH p (ne_of_none h ha) (ne_of_none h hd)]
    exact h
  have e2 : Same F0 (upd (upd H d (.own a)) a (.ins (Γ.G.cls c) d [])) := e.trans sH
  rw [er] at hlen ⊢
  have rr2 : Reps Γ.G F0 (upd (upd H d (.own a)) a (.ins (Γ.G.cls c) d [])) (re ds) r [] := Reps.mono (Same.refl _) _ rr fun p hp => nomatch hp
  have hrl : r.length + 1 = ps.length := hlen
  have k0 := ok_start (G := Γ.G) (F := F0) (N := N) (vs := .ref a :: r) (ds := .dead :: re ds) e2 (Reps.cons (S := []) (by rfl) rr2) (by show r.length + 1 ≤ _; omega)
  have hv : (L2.start N (.ref a :: r))[0]? = some (some (.ref a)) := rfl
  have k1 := k0.mut (i := 0) (H2 := upd (upd H d (.own a)) a (.ins (Γ.G.cls c) d [])) (Nat.zero_lt_succ _) (fun q _ => .inl rfl) (d := .obj true c [] []) (T := [a]) hv ⟨a, d, [], [], rfl, Reps.nil, ⟨rfl, hcs⟩, upd_same, nF, rfl⟩ (by simp) fun j p _ _ z => nomatch z
  have k2 : Ok Γ.G F0 (upd (upd H d (.own a)) a (.ins (Γ.G.cls c) d [])) (L2.start N (.ref a :: r)) (D.obj true c [] [] :: (re ds ++ List.replicate (N.length - ((re ds).length + 1)) D.dead)) (setS (fun _ => []) 0 [a]) := k1
  refine ⟨hlen, F0, D.obj true c [] [] :: (re ds ++ List.replicate (N.length - ((re ds).length + 1)) D.dead), _, .ref a, rfl, k2, ?_⟩
  have toGr : ∀ {F' H' S'}, GrS F0 (upd (upd H d (.own a)) a (.ins (Γ.G.cls c) d [])) (setS (fun _ => []) 0 [a]) F' H' S' → Same F' H' → Gr F0 H F' H' := fun {F' H' S'} g fh => by
    have back : ∀ p, ((upd (upd H d (.own a)) a (.ins (Γ.G.cls c) d [])) p = none ∨ ∃ i, p ∈ setS (fun _ => []) 0 [a] i) → H p = none := fun p h => by
      rcases h with h | ⟨i, h⟩
      · exact sH.free h
      · unfold setS at h
        split at h
        · rw [List.mem_singleton.mp h]; exact ha
        · cases h
    refine ⟨g.f, fun p o h => g.keep p o (sH p o h) fun i hi => ?_, fh, fun p x y => back p (g.new p x y)⟩
    have := back p (.inr ⟨i, hi⟩)
    rw [h] at this
    cases this
  have own : ∀ {F' H' S'}, GrS F0 (upd (upd H d (.own a)) a (.ins (Γ.G.cls c) d [])) (setS (fun _ => []) 0 [a]) F' H' S' → ∀ i, ∀ p ∈ S' i, H p = none := fun {F' H' S'} g i p hp => by
    rcases g.own i p hp with h | ⟨j, h⟩
    · exact sH.free h
    · unfold setS at h
      split at h
      · rw [List.mem_singleton.mp h]; exact ha
      · cases h
  dsimp only [initF] at post
  cases hE : evalS Γ.Φ n b (D.obj true c [] [] :: (re ds ++ List.replicate (N.length - ((re ds).length + 1)) D.dead)) with
  | nx δ' =>
    rw [hE] at post
    intro σ' F' H' S' hz g k'
    refine ⟨rfl, post (.ref a) F' H' (S' 0) (toGr g k'.fh) ?_ (k'.nd 0) (own g 0)⟩
    rcases k'.slot 0 with ⟨e1, e2⟩ | ⟨v, e1, rv⟩
    · rw [e1]
      exact e2
    · unfold gv at e1
      rw [hz] at e1
      cases e1
      exact rv
  | exc x δ' =>
    rw [hE] at post
    exact fun c' dx σ' F' H' S' T g k' xr => post c' dx F' H' T (toGr g k'.fh) xr
  | rt d => rw [hE] at post; exact post.elim
  | bk d => rw [hE] at post; exact post.elim
  | ct d => rw [hE] at post; exact post.elim
  | stuck => rw [hE] at post; exact post.elim
end
end MP
set_option Elab.async false
set_option linter.all false
set_option maxRecDepth 100000
set_option maxHeartbeats 2000000
namespace MP
open PySem PyProof.Rows
open L2 hiding St
/-- what stands of an own exception class over ValueError whose __init__ says super().__init__(..) -/
structure SupC (X : Cx) (f cc cda C : Addr) (a0 : Str) : Prop where
  T : OexC X.K C
  hf : ∃ oc od fd osl ar, X.K.lookup f = some ⟨oc, od, .func fd, osl⟩ ∧ (fd.params.posonlyargs ++ fd.params.args).head? = some ar ∧ ar.arg = a0
  hcode : ∃ cl cd vs sl file tf, X.K.lookup cda = some ⟨cl, cd, .fields vs, sl⟩ ∧ vs[2]? = some (.str file tf) ∧ ((X.prog.main.file : Str) == file) = true
  hcell : ∃ cl cd sl, X.K.lookup cc = some ⟨cl, cd, .cell (some (.ref C)), sl⟩
  hsub : PySem.W.mroIn X.K C (.ref C) = some true
  hno : PySem.W.nsIn X.K cStatics "thirdparty.any" = some none
  hm : PySem.W.ks_superIn X.K C C "__init__" = some (some (.builtin "ValueError.__init__"))
  hB : PySem.W.subIn X.K (.ref C) (.type "ValueError") = some true
  htop : (X.prog.main.scope.names.lookup ("super" : Str)).isSome = false
  mgS : X.mg "super" = none
  envf : X.env.func = some f
  envc : X.env.code = .ref cda
  envl : X.env.cells = [(("__class__" : Str), cc)]
  kS : X.env.kindOf "super" = some .globalImplicit
  kC : X.env.kindOf "__class__" = some .free
  kA : X.env.kindOf a0 = some .local
  n0 : X.N[0]? = some a0
/-- its reading -/
def tSup (C : Addr) (ta : TA) : TS := fun D σ H => ∃ a, σ[0]? = some (some (V.ref a)) ∧ H a = some (exo a C none) ∧ ta σ H fun vs H1 => H1 a = some (exo a C none) ∧ vs.length ≤ 1000 ∧ D.nx σ H1
section
variable {X : Cx}
theorem pin_add {pins : List (Addr × Obj)} {σ : St} {H : Hp} {s : Shared} {u : Addr} {o : Obj} (I : Inv X pins σ H s) (hu : s.heap.get? u = some o) (hH : H u = none) (hl : u ≠ X.env.locals) (hf : u ∉ X.fs) (hc : ∀ v, o.data ≠ .cell v) : Inv X ((u, o) :: pins) σ H s :=
  ⟨I.ok, I.os, I.bare, I.base, I.loc, I.cell, I.free, I.freeC, fun p hp => by
    rcases List.mem_append.mp hp with h | h
    · exact I.pin p (List.mem_append_left _ h)
    · rcases List.mem_cons.mp h with rfl | h
      · exact ⟨hu, hH, hl, hf, hc⟩
      · exact I.pin p (List.mem_append_right _ h), I.hok, I.len⟩
theorem pin_drop {pins : List (Addr × Obj)} {σ : St} {H : Hp} {s : Shared} {p : Addr × Obj} (I : Inv X (p :: pins) σ H s) : Inv X pins σ H s :=
  ⟨I.ok, I.os, I.bare, I.base, I.loc, I.cell, I.free, I.freeC, fun q hq => I.pin q (by
    rcases List.mem_append.mp hq with h | h
    · exact List.mem_append_left _ h
    · exact List.mem_append_right _ (List.mem_cons_of_mem _ h)), I.hok, I.len⟩
theorem super_at {f cc cda C : Addr} {a0 : Str} {body : List Stmt} {e : Expr} {ta : TA} {p0 p1 p2 pos pos2 : Pos} (S : SupC X f cc cda C a0) (ha : PA X [e] ta)
    (hs : nStar e = true) (hl : (p2.endLine == pos.line) = true)
    {pins : List (Addr × Obj)} {s : Shared} {σ : St} {H : Hp} {D : Ends} (I : Inv X pins σ H s) (h : tSup C ta D σ H) :
    _root_.PySem.wpAt (model X.prog X.w) X.A (.func body X.env) (exec (.Expr (.Call (.Attribute (.Call (.Name "super" p0) [] [] p1) "__init__" p2) [e] [] pos) pos2) X.env) (SP X pins D) X.xe s := by
  obtain ⟨a, hσ, hHa, hta⟩ := h
  obtain ⟨oc, od, fd, osl, ar, hf, hp, har⟩ := S.hf
  obtain ⟨cl1, cd1, vs1, sl1, file, tf, hcode, hvs, hfile⟩ := S.hcode
  obtain ⟨cl2, cd2, sl2, hcell⟩ := S.hcell
  obtain ⟨nm, q, N, bs, bm, sn, sub, ab, col, dd, k0, k1, k2, k3, k5, hCK, hbm⟩ := S.T.cls
  have KX := I.kIn
  obtain ⟨t1, ho⟩ := exo_at I.hok hHa
  obtain ⟨m, hns, hlook⟩ := I.loc
  obtain ⟨u0, ru0, lk⟩ := hlook 0 a0 _ S.n0 hσ (.inl S.kA)
  obtain rfl : u0 = Value.ref a := ru0
  have hma : m a0 = some (Value.ref a) := by
    rcases lk with ⟨_, z⟩ | ⟨z, _⟩
    · exact z
    · rcases z with z | z <;> rw [S.kA] at z <;> cases z
  subst har
  refine ks_wpAt_Expr_any ?_ I.quiet (by rfl)
  have hform : methodCallForm 1 (backTo pos (starEach [e] X.env)) [] = true := by
    rw [star_one hs]; rfl
  refine ks_wpAt_MethodCall (pl := plainOf (.Call (.Name "super" p0) [] [] p1) X.env) ?_ (by
    show (do
      let ov ← attributeBase (.Call (.Name "super" p0) [] [] p1) "__init__" X.env (eval (.Call (.Name "super" p0) [] [] p1) X.env)
      standAt p2.atName
      methodCall (.Call (.Name "super" p0) [] [] p1) "__init__" p2 pos X.env ov 1 (backTo pos (starEach [e] X.env)) []) = _
    simp only [mcall_line hform hl])
  refine ks_wpAt_super_base (of := _) (oc := _) S.kS S.kC (by decide) S.envf (KX _ _ hf) rfl hp S.envc (KX _ _ hcode) rfl hvs hfile S.htop ?_
  obtain ⟨mb, b1, b2⟩ := I.mod.blt
  refine PySem.W.ks_loadName_global I.ok.kind S.kS (Calls.loadGlobal_builtin (by rw [I.ok.glob]; exact I.mod.glob.keeps I.bk) S.mgS (by rw [I.ok.blt]; exact b1.keeps I.bk) ((b2 "super" (by decide)).trans PyProof.Rows.Boot.«super») ⟨rfl, ?_⟩)
  refine wpAny_loadName_free I.ok.kind S.kC (by rw [S.envl]; rfl) ⟨_, KX _ _ hcell, rfl⟩ ?_
  refine wpAny_loadName_local I.ok.kind S.kA hns hma ?_
  obtain ⟨hh, g, d, tk, os⟩ := s
  refine ks_wpAny_isType_cls (KX _ _ hCK) rfl ⟨rfl, ?_⟩
  refine ks_wpAny_call_super (KX _ _ hCK) rfl ho rfl (fun c z => nomatch z) (PySem.W.looks_mroIn KX S.hsub) fun h2 hso kp => ?_
  have I2 : Inv X pins σ H ⟨h2, g, d, tk, os⟩ := I.kept (t' := tk) kp
  have KX2 := I2.kIn
  have haC : a ≠ C := fun z => by
    have e1 := KX _ _ hCK
    rw [z] at ho
    have := ho.symm.trans e1
    cases this
  have Ia : PySem.W.InstAt h2 a _ C none := ⟨kp _ _ ho, rfl, rfl, trivial⟩
  have hm := S.hm
  unfold PySem.W.ks_superIn at hm
  cases hc : PySem.W.clsIn X.K C with
  | none => rw [hc] at hm; cases hm
  | some cd =>
    rw [hc] at hm
    refine PySem.W.kxs_getMethod PySem.W.kxs_ValueError hso (PySem.W.looks_opaque KX2 S.hno) (l₀ := cd.mro) (fun A Q E s k q => wpAny_bind ((PySem.W.looks_clsIn KX2 hc) A _ E s k (wpAny_pure q))) rfl KX2 hm (Ia.type.andThen (PySem.W.looks_subIn KX2 S.hB)) haC (by decide) ?_
    generalize hu : h2.objs.size = u
    have kp3 : ∀ b o, h2.get? b = some o → (h2.push (PySem.W.kxs_mw "ValueError.__init__" a)).get? b = some o := fun b o z => Heap.get?_push_of_some _ z
    have I3 : Inv X pins σ H ⟨h2.push (PySem.W.kxs_mw "ValueError.__init__" a), g, d, tk + 1, os⟩ := I2.kept (t' := tk + 1) kp3
    have hgu : (h2.push (PySem.W.kxs_mw "ValueError.__init__" a)).get? u = some (PySem.W.kxs_mw "ValueError.__init__" a) := by rw [← hu]; exact Heap.get?_push_size _ rfl
    have hHu : H u = none := I2.hok.fresh (Nat.le_of_eq hu)
    obtain ⟨f0, f1, f2, f3, f4, f5⟩ := I2.fpOk (Nat.le_of_eq hu) hHu
    have I4 := pin_add I3 hgu hHu f1 f2 (fun v z => by cases z)
    have hst : starEach [e] X.env = (false, eval e X.env) :: starEach [] X.env := star_one hs
    have hrun := ha.run pos _ _ σ H _ I4 hta
    rw [hst] at hrun ⊢
    refine PySem.W.kxs_callWith (i := "ValueError.__init__") (x := a) rfl (Calls.evalArgs_plain (thn hrun fun us s1 hh => ?_))
    obtain ⟨vs, H1, J, r1, q1, q2, q3⟩ := hh
    have hg1 := (J.pin (u, PySem.W.kxs_mw "ValueError.__init__" a) (List.mem_append_right _ List.mem_cons_self)).1
    obtain ⟨t2, ho2⟩ := exo_at J.hok q1
    have hl2 : us.length ≤ sizeLine := by
      rw [← Paired.length r1, sizeLine_eq]
      omega
    refine ⟨hg1, ?_⟩
    have KX3 := J.kIn
    obtain ⟨hh2, g2, d2, tk2, os2⟩ := s1
    refine wpAny_call (codeAny_of_tree ?_)
    show wpAny _ X.A.in1 (callAny (.ref u) ⟨us, []⟩) _ _ _
    simp only [callAny]
    refine wpAny_bind (wpAny_load hg1 ?_)
    simp only [PySem.W.kxs_mw, show (Value.type "method-wrapper" == Value.type "method" || Value.type "method-wrapper" == Value.type "builtin_function_or_method" || Value.type "method-wrapper" == Value.type "method-wrapper") = true by decide, if_true]
    refine W.KFB.if_so (by decide) ?_
    refine wpAny_bind (ESX.check_bound F.excBase_ValueError (KX3 _ _ hCK) ho2 rfl ?_)
    refine wpAny_bind (wpAny_pure (wpAny_pure ?_))
    refine ⟨Code.quiet_builtin _ (by decide +kernel), codeAny_builtin F.excBase_ValueError.initEntry ?_⟩
    rw [Around.under_plainId F.excBase_ValueError.init.plain _]
    refine PySem.W.exc_init_tree (cls := .ref C) (dv := none) (c2 := .none) (c3 := .none) (b4 := .bool false) ho2 hl2 fun h5 kp5 hx5 ht5 => ?_
    have J1 := J.write (t' := tk2) (x := a) (e := a) (o := exo a C none) (by rw [q1]; exact True.intro) (.inl rfl) kp5 ⟨_, hx5⟩ (exo_ok hx5)
    have eu : upd H1 a (exo a C none) = H1 := by
      funext b
      by_cases hb : b = a
      · rw [hb, upd_same, q1]
      · rw [upd_ne hb]
    rw [eu] at J1
    exact ⟨σ, H1, pin_drop J1, q3⟩
end
end MP
set_option Elab.async false
set_option linter.all false
set_option maxRecDepth 100000
set_option maxHeartbeats 1000000
namespace MP
open PySem PyProof.Rows
open L2 hiding St
structure FD where
  f : Str
  t : TE
  φ : List D → Res D
  fr : Bool
def xgo (δ : List D) : List FD → List Str → List D → Option (List Str × List D)
  | [], ns, vs => some (ns, vs)
  | x :: r, ns, vs => match tkOk x.fr (x.φ δ) with
    | .ok d => xgo δ r (x.f :: ns) (d.flat :: vs)
    | _ => none
def tStores (K : PySem.W.Frag) : List FD → TS
  | [] => tNext
  | x :: r => tSeq (tOst K x.f (tVar 0) x.t) (tStores K r)
section
variable {G : GX} {W : WX} {F1 H1 F H F' H' : Hp} {a C : Addr} {ns : List Str} {vs : List D} {fs : List (Str × V)} {od : Option Addr}
theorem XSt.gr (x : XSt G F1 H1 a C F H ns vs fs od) (g : Gr F H F' H') : XSt G F1 H1 a C F' H' ns vs fs od := by
  have nn : ∀ p o, H p = some o → F p = none → F' p = none := fun p o h n => by
    cases q : F' p with
    | none => rfl
    | some z => have := g.new p n (by rw [q]; exact fun y => nomatch y); rw [h] at this; cases this
  refine ⟨x.sub.trans g.f, g.fh, nn a _ x.ha x.fa, x.na, fun b o h => g.h b o (x.keep b o h), fun p h1 h2 => ?_, g.h _ _ x.ha, ?_, x.names, x.rep.gr g⟩
  · cases q : F p with
    | some o => exact x.new p h1 (by rw [q]; exact fun y => nomatch y)
    | none =>
      have h3 := g.new p q h2
      cases q2 : H1 p with
      | none => rfl
      | some o => rw [x.keep p o q2] at h3; cases h3
  · rcases x.dict with z | ⟨d, z1, z2, z3, z4, z5⟩
    · exact .inl z
    · exact .inr ⟨d, z1, g.h _ _ z2, nn d _ z2 z3, z4, z5⟩
theorem ok_sh {σ : St} {δ : List D} (k : Ok G F H σ δ fun _ => []) (h : Same F H') : Ok G F H' σ δ fun _ => [] :=
  ⟨h, k.len, fun i => by
    rcases k.slot i with z | ⟨v, e, r⟩
    · exact .inl z
    · exact .inr ⟨v, e, Rep.mono (Same.refl _) _ r fun p hp => nomatch hp⟩, k.nd, k.sep⟩
theorem xok_ge : Gr F H F' H' → ∀ {σ : St} {δ : List D}, Ok G F H σ δ (fun _ => []) → Ok G F' H' σ δ fun _ => [] := fun g _ _ k => k.gr g
theorem den_stores (T : OexC G.K C) {σ : St} {δ : List D} (h0 : σ[0]? = some (some (V.ref a))) {E0 : Ends} : ∀ (l : List FD) (ns : List Str) (vs : List MP.D) (fs : List (Str × V)) (od : Option Addr) (F H : Hp) (ns' : List Str) (vs' : List MP.D),
    (∀ x ∈ l, DenE G W x.t x.φ x.fr [] ∧ PySem.W.findIn G.K (.ref C) x.f = some none) → XSt G F1 H1 a C F H ns vs fs od → Ok G F H σ δ (fun _ => []) → xgo δ l ns vs = some (ns', vs') → l.length + fs.length ≤ 900 → (l ≠ [] ∨ od.isSome = true) →
    (∀ F' H' fs' d, XSt G F1 H1 a C F' H' ns' vs' fs' (some d) → E0.nx σ H') → tStores G.K l E0 σ H
  | [], ns, vs, fs, od, F, H, ns', vs', _, x, k, e, _, hne, q => by
    cases e
    cases od with
    | none => exact (hne.elim (fun z => absurd rfl z) fun z => nomatch z)
    | some d => exact q F H fs d x
  | y :: r, ns, vs, fs, od, F, H, ns', vs', hl, x, k, e, hle, _, q => by
    obtain ⟨hd, hno⟩ := hl y List.mem_cons_self
    have hr := fun z hz => hl z (List.mem_cons_of_mem _ hz)
    rw [xgo] at e
    show tOst G.K y.f (tVar 0) y.t { E0 with nx := tStores G.K r E0 } σ H
    refine hd σ F H δ (fun _ => []) _ k ?_
    cases e1 : y.φ δ with
    | stuck => rw [e1] at e; cases e
    | exc z => rw [e1] at e; cases e
    | ok d =>
      rw [e1] at e
      cases hg : (y.fr || d.isSh) with
      | false =>
        have : tkOk y.fr (.ok d) = guardR (y.fr || d.isSh) (.ok d) := rfl
        rw [this, hg] at e
        cases e
      | true =>
        have : tkOk y.fr (.ok d) = guardR (y.fr || d.isSh) (.ok d) := rfl
        rw [this, hg] at e
        replace e : xgo δ r (y.f :: ns) (d.flat :: vs) = some (ns', vs') := e
        intro v Fa Ha Ta g rv fre
        have hsh : D.isSh (bif y.fr then d.flat else d) = true := by
          cases hf : y.fr with
          | true => exact flat_sh d
          | false => rw [hf] at hg; exact hg
        obtain ⟨F2, g2, r2⟩ := fz_of g rv fre hsh
        have hfl : (bif y.fr then d.flat else d) = d.flat := by
          cases hf : y.fr with
          | true => rfl
          | false => rw [hf] at hg; exact (flat_of d hg).symm
        rw [hfl] at r2
        have x2 := x.gr g2
        have k2 := xok_ge g2 k
        refine ⟨.ref a, h0, a, C, rfl, T, hno, ?_⟩
        rcases x2.dict with ⟨rfl, rfl⟩ | ⟨dx, rfl, z2, z3, z4, z5⟩
        · refine .inl ⟨x2.ha, fun dx n1 n2 => ?_⟩
          have nF : F2 dx = none := x2.fh.free n1
          have hH : ∀ p, p ≠ a → p ≠ dx → (upd (upd Ha dx (exd dx [(y.f, v)])) a (exo a C (some dx))) p = Ha p := fun p h1 h2 => by rw [upd_ne h1, upd_ne h2]
          have sF : Same F2 (upd (upd Ha dx (exd dx [(y.f, v)])) a (exo a C (some dx))) := fun b o h => by
            rw [hH b (ne_of_none h x2.fa) (ne_of_none h nF)]
            exact x2.fh b o h
          have nH1 : H1 dx = none := by
            cases w : H1 dx with
            | none => rfl
            | some o => have := x2.keep dx o w; rw [n1] at this; cases this
          refine den_stores T h0 r (y.f :: ns) (d.flat :: vs) [(y.f, v)] (some dx) F2 _ ns' vs' hr ⟨x2.sub, sF, x2.fa, x2.na, fun b o h => ?_, x2.new, upd_same, .inr ⟨dx, rfl, by rw [upd_ne n2, upd_same], nF, nH1, n2⟩, by rw [← x2.names]; rfl, ?_⟩ (ok_sh k2 sF) e (by simp at hle ⊢; omega) (.inr rfl) q
          · rw [hH b (ne_of_none h x2.na) (ne_of_none h nH1)]
            exact x2.keep b o h
          · have hv : vs = [] := by
              have := x2.rep.len
              exact List.length_eq_zero_iff.mp this.symm
            subst hv
            have := Reps.cons (S := []) (T := []) (Rep.mono (H' := upd (upd Ha dx (exd dx [(y.f, v)])) a (exo a C (some dx))) (Same.refl _) _ r2 fun p hp => nomatch hp) Reps.nil
            exact this
        · refine .inr ⟨dx, fs, x2.ha, z2, by simp at hle; omega, ?_⟩
          have hH : ∀ p, p ≠ dx → (upd Ha dx (exd dx ((y.f, v) :: fs))) p = Ha p := fun p h2 => by rw [upd_ne h2]
          have sF : Same F2 (upd Ha dx (exd dx ((y.f, v) :: fs))) := fun b o h => by
            rw [hH b (ne_of_none h z3)]
            exact x2.fh b o h
          refine den_stores T h0 r (y.f :: ns) (d.flat :: vs) ((y.f, v) :: fs) (some dx) F2 _ ns' vs' hr ⟨x2.sub, sF, x2.fa, x2.na, fun b o h => ?_, x2.new, by rw [hH a (Ne.symm z5)]; exact x2.ha, .inr ⟨dx, rfl, upd_same, z3, z4, z5⟩, by rw [← x2.names]; rfl, ?_⟩ (ok_sh k2 sF) e (by simp at hle ⊢; omega) (.inr rfl) q
          · rw [hH b (ne_of_none h z4)]
            exact x2.keep b o h
          · have r3 := Rep.mono (H' := upd Ha dx (exd dx ((y.f, v) :: fs))) (Same.refl _) _ r2 fun p hp => nomatch hp
            have r4 := Reps.mono (H' := upd Ha dx (exd dx ((y.f, v) :: fs))) (Same.refl _) _ x2.rep fun p hp => nomatch hp
            exact Reps.cons (S := []) (T := []) r3 r4
end
end MP
set_option Elab.async false
set_option linter.all false
set_option maxRecDepth 100000
set_option maxHeartbeats 2000000
namespace MP
open PySem PyProof.Rows
open L2 hiding St
open NdefX
/-- a def whose first statement is super().__init__(e): the promise -/
theorem fnS_of {CX : CXT} {P : Program} {w : World} {K : PySem.W.Frag} {mg : Str → Option Value} {base : Heap} {k : Nat} {f cc C : Addr} {a0 : Str} {fd : FuncData} {F : NF} {dV kV doc pm ct oc : Value} {an od : Option Addr} {osl : Array (Option Value)} {N ps : List Str} {sp : Sp}
    {e : Expr} {rest : List Stmt} {p0 p1 p2 pos pos2 : Pos} (hfd : fd = PySem.W.fnX F.name F.qual F.params F.body F.scope F.cl dV kV doc pm an (.ref F.c) ct)
    (lk : K.lookup f = some ⟨oc, od, .func fd, osl⟩) (hcd : PySem.W.codeIn K (.ref F.c) F.qual = true) (hcl : F.cl = [(("__class__" : Str), cc)])
    (hcell : ∃ cl cd sl, K.lookup cc = some ⟨cl, cd, .cell (some (.ref C)), sl⟩) (S : NScope N ps ["__class__"] F.scope)
    (hb0 : F.body = .Expr (.Call (.Attribute (.Call (.Name "super" p0) [] [] p1) "__init__" p2) [e] [] pos) pos2 :: rest) (hs : nStar e = true) (hline : (p2.endLine == pos.line) = true)
    (SC : ∀ A outer s H E, SupC (ncx CX P w K mg base N F f A outer s H E) f cc F.c C a0) (len : ∀ vs H Q E, sp vs H Q E → vs.length = ps.length)
    (hbody : ∀ (A : Around) (outer : List Env) (s : Shared) (H : Hp) (vs : List V) (Q : VK) (E : XK), Room k (A.deeper (envF F f s.heap.objs.size)) → sp vs H Q E →
      ∃ ta t, PA (ncx CX P w K mg base N F f A outer s H E) [e] ta ∧ PSs (ncx CX P w K mg base N F f A outer s H E) rest t ∧ tSup C ta { nx := fun σ' H' => t { nx := fun _ H2 => Q .non H2, rt := Q } σ' H', rt := Q } (startF N vs [some (.ref C)]) H) :
    FnOk P w K mg base CX (k + 1) f fd ps sp := by
  subst hfd
  refine ⟨len, fun A outer s H args us vs Q E hr e0 hb r hsp => ?_⟩
  have hl := len _ _ _ _ hsp
  have KX : K.In s.heap := e0.mod.kin.keeps fun b o e => (e0.bs b o e).1
  have lim : s.heap.NoLimit := e0.mod.nolimit.keeps fun b o e => (e0.bs b o e).1
  obtain ⟨cl, cd, sl, hcell⟩ := hcell
  have hcc := e0.mod.kin _ _ hcell
  have CA : CellsAt F.cl ["__class__"] [some (V.ref C)] s.heap H := by
    rw [hcl]
    refine ⟨rfl, fun y c hy => ?_, fun x y c h1 h2 => ?_, fun i y hi => ?_⟩
    · have : c = cc := by
        simp only [List.lookup] at hy
        split at hy <;> first | (cases hy; done) | (cases hy; rfl)
      subst this
      exact ⟨(e0.bs _ _ hcc).2, _, _, (e0.bs _ _ hcc).1, rfl⟩
    · simp only [List.lookup] at h1 h2
      split at h1
      · split at h2
        · rename_i z1 _ z2
          rw [beq_iff_eq] at z1 z2
          rw [z1, z2]
        · cases h2
      · cases h1
    · match i, hi with
      | 0, hi =>
        simp at hi
        subst hi
        exact ⟨cc, by simp [List.lookup], fun v hv => by
          simp at hv
          subst hv
          exact ⟨.ref C, rfl, _, (e0.bs _ _ hcc).1, rfl⟩⟩
      | i + 1, hi => simp at hi
  obtain ⟨ta, t, ha, hp, hq⟩ := hbody A outer s H vs Q E (hr.deeper _) hsp
  refine ks_codeAny_call_defAt (body := F.body) (binds := ps.zip us) hr.depth (KX _ _ lk) rfl lim (PySem.W.codeRec_of KX hcd) rfl hb S.nocell (fun ⟨n, _⟩ hy => S.par n (List.of_mem_zip hy).1) (fun h₁ hns kp => ?_) S.co S.gen S.kind
  have I : Inv (ncx CX P w K mg base N F f A outer s H E) [] (startF N vs [some (V.ref C)]) H { s with heap := h₁, toks := s.toks + (ps.zip us).length } := inv_startN S hr.hd e0 hl r CA hns kp
  have fin : ∀ {σ' : L2.St} {H' : Hp} {s' : Shared} {v : V} {u : Value}, Inv (ncx CX P w K mg base N F f A outer s H E) [] σ' H' s' → L2.RelV v u → Q v H' → CE outer P w H s Q u s' :=
    fun {σ' H' s' v u} J rv q => ⟨v, H', J.os, J.bare, J.base, J.hok, rv, q⟩
  have run := super_at (body := F.body) (p0 := p0) (p1 := p1) (pos2 := pos2) (SC A outer s H E) ha hs hline I hq
  show _root_.PySem.wpAt (model P w) (A.deeper (envF F f s.heap.objs.size)) (.func F.body (envF F f s.heap.objs.size)) (execs F.body (envF F f s.heap.objs.size)) _ _ _
  have goal : ∀ b, b = F.body → _root_.PySem.wpAt (model P w) (A.deeper (envF F f s.heap.objs.size)) (.func b (envF F f s.heap.objs.size)) (execs F.body (envF F f s.heap.objs.size)) (fun f s' => CR CX outer P w H s Q E (.ok (.ret (match f with | .ret v => v | _ => .none))) s')
      (fun e s' => wpAny (model P w) (A.deeper (envF F f s.heap.objs.size)) (leaving (envF F f s.heap.objs.size) e) (fun _ s'' => CR CX outer P w H s Q E (.error e) s'') (fun e' s'' => CR CX outer P w H s Q E (.error e') s'') s') { s with heap := h₁, toks := s.toks + (ps.zip us).length } := fun b hb' => by
    rw [hb0]
    subst hb'
    refine ks_wpAt_execs_cons (ks_wpAt_mono run (fun fl s' h => ?_) fun e s' h => h)
    cases fl with
    | next =>
      obtain ⟨σ', H', J, q⟩ := h
      refine fun Γ pp _ hΓ => (wpAny_mono (hp.run [] s' σ' H' _ J q) (fun fl s2 h2 => ?_) fun e s2 h2 => h2) Γ pp hΓ
      cases fl with
      | ret u =>
        obtain ⟨v, σ2, H2, J2, rv, q2⟩ := h2
        exact fin J2 rv q2
      | next =>
        obtain ⟨σ2, H2, J2, q2⟩ := h2
        exact fin (v := V.non) (u := Value.none) J2 rfl q2
      | brk =>
        obtain ⟨_, _, _, z⟩ := h2
        exact z.elim
      | cont =>
        obtain ⟨_, _, _, z⟩ := h2
        exact z.elim
    | ret u =>
      obtain ⟨v, σ2, H2, J2, rv, q2⟩ := h
      exact fin J2 rv q2
    | brk =>
      obtain ⟨_, _, _, z⟩ := h
      exact z.elim
    | cont =>
      obtain ⟨_, _, _, z⟩ := h
      exact z.elim
  exact goal _ rfl
end MP
set_option Elab.async false
set_option linter.all false
set_option maxRecDepth 100000
set_option maxHeartbeats 2000000
namespace MP
open PySem PyProof.Rows
open L2 hiding St
open NdefX
/-! ### an own exception's __init__: super().__init__(e0), self.f = e .. -/
def toFD (Γ : GE) (W : WX) (p : Str × DE) : FD := ⟨p.1, (rd Γ p.2 W).e, evalE Γ.Φ p.2, p.2.fr⟩
theorem xgo_eq (Γ : GE) (W : WX) (δ : List D) : ∀ (fs : List (Str × DE)) (ns : List Str) (vs : List D), xgo δ (fs.map (toFD Γ W)) ns vs = xgoE Γ.Φ δ fs ns vs
  | [], _, _ => rfl
  | p :: r, ns, vs => by
    rw [List.map_cons, xgo, xgoE]
    show (match tkOk p.2.fr (evalE Γ.Φ p.2 δ) with | .ok d => xgo δ (r.map (toFD Γ W)) (p.1 :: ns) (d.flat :: vs) | _ => none) = _
    cases tkOk p.2.fr (evalE Γ.Φ p.2 δ) with
    | ok d => exact xgo_eq Γ W δ r _ _
    | exc x => rfl
    | stuck => rfl
def wfX (Γ : GE) (e0 : DE) (fs : List (Str × DE)) : Bool := wf Γ false e0 && e0.movs.isEmpty && fs.all fun p => wf Γ false p.2 && p.2.movs.isEmpty
def chkI (C : CC) : List (Str × DE) → List Stmt → Bool
  | [], [] => true
  | p :: r, s :: ss => (match dAsg s with
    | some (t, v, _) => (match dAt t with
      | some (o, f) => decide (f = p.1) && C.var 0 o && chk p.2 C (.e v)
      | none => false)
    | none => false) && chkI C r ss
  | _, _ => false
def dSup : Stmt → Option Expr
  | .Expr (.Call (.Attribute (.Call (.Name x _) [] [] _) m p2) [e] [] pos) _ => if x = "super" ∧ m = "__init__" ∧ (p2.endLine == pos.line) = true then some e else none
  | _ => none
theorem dSup_ok {s : Stmt} {e : Expr} (h : dSup s = some e) : ∃ p0 p1 p2 pos pos2, s = .Expr (.Call (.Attribute (.Call (.Name "super" p0) [] [] p1) "__init__" p2) [e] [] pos) pos2 ∧ (p2.endLine == pos.line) = true := by
  unfold dSup at h
  split at h
  · split at h
    · rename_i x p0 p1 m p2 e' pos pos2 hc
      cases h
      obtain ⟨rfl, rfl, hl⟩ := hc
      exact ⟨_, _, _, _, _, rfl, hl⟩
    · cases h
  · cases h
section
variable {Γ : GE} {C : CC} {X : Cx} {W : WX} {k : Nat}
theorem so_init (A : Ass Γ C k X W) : ∀ (fs : List (Str × DE)) (ss : List Stmt), (fs.all fun p => wf Γ false p.2 && p.2.movs.isEmpty) = true → chkI C fs ss = true → PSs X ss (tStores Γ.G.K (fs.map (toFD Γ W)))
  | [], [], _, _ => pss_nil
  | [], s :: ss, _, h => nomatch h
  | p :: r, [], _, h => nomatch h
  | p :: r, s :: ss, hw, h => by
    rw [List.all_cons, Bool.and_eq_true, Bool.and_eq_true] at hw
    have h : ((match dAsg s with
      | some (t, v, _) => (match dAt t with
        | some (o, f) => decide (f = p.1) && C.var 0 o && chk p.2 C (.e v)
        | none => false)
      | none => false) && chkI C r ss) = true := h
    rw [Bool.and_eq_true] at h
    have ih := so_init A r ss hw.2 h.2
    cases q : dAsg s with
    | none => rw [q] at h; cases h.1
    | some w =>
      obtain ⟨t, v, ps⟩ := w
      have h1 := h.1
      rw [q] at h1
      obtain rfl := dAsg_ok q
      replace h1 : (match dAt t with
        | some (o, f) => decide (f = p.1) && C.var 0 o && chk p.2 C (.e v)
        | none => false) = true := h1
      cases q2 : dAt t with
      | none => rw [q2] at h1; cases h1
      | some w =>
        obtain ⟨o, f⟩ := w
        rw [q2] at h1
        obtain ⟨pt, rfl⟩ := dAt_ok q2
        replace h1 : (decide (f = p.1) && C.var 0 o && chk p.2 C (.e v)) = true := h1
        simp only [Bool.and_eq_true, decide_eq_true_eq] at h1
        obtain ⟨⟨rfl, h2⟩, h3⟩ := h1
        have q := ps_ost (p' := pt) (pos := ps) (f := p.1) (var_ok A h2) ((co_all Γ false p.2 hw.1.1 C k X W A).e v h3) (sw_noName rfl)
        rw [A.K] at q
        exact pss_cons q ih
end
/-- what the row has of such a class -/
structure SupK (P : Program) (K : PySem.W.Frag) (mg : Str → Option Value) (f cc C : Addr) (F : NF) (fd : FuncData) (N ps : List Str) : Prop where
  T : OexC K C
  hfd : ∃ dV kV doc pm ct an, fd = PySem.W.fnX F.name F.qual F.params F.body F.scope F.cl dV kV doc pm an (.ref F.c) ct
  hf : ∃ oc od osl, K.lookup f = some ⟨oc, od, .func fd, osl⟩
  hcd : PySem.W.codeIn K (.ref F.c) F.qual = true
  hcl : F.cl = [(("__class__" : Str), cc)]
  hcell : ∃ cl cd sl, K.lookup cc = some ⟨cl, cd, .cell (some (.ref C)), sl⟩
  hcode : ∃ cl cd vs sl file tf, K.lookup F.c = some ⟨cl, cd, .fields vs, sl⟩ ∧ vs[2]? = some (.str file tf) ∧ ((P.main.file : Str) == file) = true
  S : NScope N ps ["__class__"] F.scope
  par : ∃ ar, (F.params.posonlyargs ++ F.params.args).head? = some ar ∧ N[0]? = some ar.arg ∧ F.scope.names.lookup ar.arg = some .local
  kS : F.scope.names.lookup ("super" : Str) = some .globalImplicit
  hsub : PySem.W.mroIn K C (.ref C) = some true
  hno : PySem.W.nsIn K cStatics "thirdparty.any" = some none
  hm : PySem.W.ks_superIn K C C "__init__" = some (some (.builtin "ValueError.__init__"))
  hB : PySem.W.subIn K (.ref C) (.type "ValueError") = some true
  htop : (P.main.scope.names.lookup ("super" : Str)).isSome = false
  mgS : mg "super" = none
section
variable {Γ : GE} {sg : List (Str × Sig)} {gl cl : List (Str × Nat)} {xg : List (Str × XSig)} {hs : List (Str × Sig)} {k : Nat} {P : Program} {w : World} {K : PySem.W.Frag} {mg : Str → Option Value} {base : Heap}
theorem ok_startF {G : GX} {F0 H : Hp} {N : List Str} {a C : Addr} {r : List V} {ds : List D} (e : Same F0 H) (rr : Reps G F0 H ds r []) (hl : r.length + 2 ≤ N.length) : Ok G F0 H (startF N (.ref a :: r) [some (V.ref C)]) (xiD N.length ds) fun _ => [] := by
  have hlen := rr.len
  refine ⟨e, ?_, fun i => ?_, fun i => List.nodup_nil, fun i j p h => nomatch h⟩
  · unfold startF xiD
    simp
    omega
  · match i with
    | 0 => exact .inl ⟨rfl, rfl⟩
    | i + 1 =>
      by_cases hi : i < r.length
      · have hd : ds[i]? = some (ds[i]'(by omega)) := List.getElem?_eq_getElem (by omega)
        obtain ⟨v, hv, rv⟩ := rr.sh_get hd
        refine .inr ⟨v, ?_, ?_⟩
        · unfold gv startF
          rw [List.map_cons, List.cons_append, List.getElem?_cons_succ, List.getElem?_append_left (by simpa using hi), List.getElem?_map, hv]
          rfl
        · have : gd (xiD N.length ds) (i + 1) = ds[i]'(by omega) := by
            unfold gd xiD
            rw [List.getD_eq_getElem?_getD, List.getElem?_cons_succ, List.getElem?_append_left (by omega), hd]
            rfl
          rw [this]
          exact rv
      · refine .inl ⟨?_, rfl⟩
        unfold gd xiD
        rw [List.getD_eq_getElem?_getD, List.getElem?_cons_succ, List.getElem?_append_right (by omega), List.getElem?_replicate]
        split <;> rfl
theorem xinit_den {f cc C : Addr} {c : Nat} {F : NF} {fd : FuncData} {N ps : List Str} {e0 : DE} {fs : List (Str × DE)} {s0 : Stmt} {rest : List Stmt} {e : Expr} (B : Bas Γ sg gl cl xg hs k P w K mg base) (SK : SupK P K mg f cc C F fd N ps)
    (hb0 : F.body = s0 :: rest) (hsup : dSup s0 = some e) (hst : nStar e = true) (hw : wfX Γ e0 fs = true) (hne : fs ≠ []) (hfl : fs.length ≤ 900) (hno : ∀ p ∈ fs, PySem.W.findIn K (.ref C) p.1 = some none)
    (h0 : chk e0 ⟨N, F.scope, fun _ => false, sg, gl, cl, [], false, false, []⟩ (.e e) = true) (h1 : chkI ⟨N, F.scope, fun _ => false, sg, gl, cl, [], false, false, []⟩ fs rest = true) :
    FnOk P w K mg base (L2N.CX P w) (k + 1) f fd ps (spX Γ.G C c ps.length (xiF Γ.Φ N.length c e0 fs)) := by
  obtain ⟨p0, p1, p2, pos, pos2, rfl, hline⟩ := dSup_ok hsup
  obtain ⟨dV, kV, doc, pm, ct, an, hfd⟩ := SK.hfd
  obtain ⟨oc, od, osl, hf⟩ := SK.hf
  obtain ⟨ar, ar1, ar2, ar3⟩ := SK.par
  have hS := SK.S
  have hN2 : ps.length + 1 ≤ N.length := by
    have := congrArg List.length hS.pre
    rw [List.length_take, List.length_append] at this
    simp at this
    omega
  unfold wfX at hw
  rw [Bool.and_eq_true, Bool.and_eq_true] at hw
  have hmv : e0.movs = [] := List.isEmpty_iff.mp hw.1.2
  refine fnS_of (a0 := ar.arg) hfd hf SK.hcd SK.hcl SK.hcell hS hb0 hst hline (fun A outer s H E => ?_) (fun vs H Q E h => h.1) fun A outer s H vs Q E hr hsp => ?_
  · refine ⟨SK.T, ⟨oc, od, fd, osl, ar, hf, by rw [hfd]; exact ar1, rfl⟩, SK.hcode, SK.hcell, SK.hsub, SK.hno, SK.hm, SK.hB, SK.htop, SK.mgS, rfl, rfl, SK.hcl, SK.kS, hS.frk _ (by simp), ar3, ar2⟩
  · obtain ⟨hl, a, r, F0, ds, H1, x, rfl, rfl, na, sF, rr, sh, ef, xc, post⟩ := hsp
    have As : Ass Γ ⟨N, F.scope, fun _ => false, sg, gl, cl, [], false, false, []⟩ k (ncx (L2N.CX P w) P w K mg base N F f A outer s (upd H1 a (exo a C none)) E) (fun _ _ _ _ => False) :=
      { N := rfl, nd := hS.nd, sc := rfl, K := B.hK, calm := fun _ => rfl, hu := by have := hr.un; show (A.deeper _).units + 65 < cLine; omega, room := roomC_of hr, tk := takesN0, fn := (fun _ z => nomatch z), sigs := B.sigs, hsg := (fun _ z => nomatch z), glb := B.glb, cls := B.cls, blt := B.blt, exs := (fun _ z => nomatch z), xfs := B.ok.xfs, xcs := fun c h => (B.ok.xcs c h).1, stk := (fun z => nomatch z), exx := fun a c o h => nomatch B.ex0.symm.trans h }
    have hKG : K = Γ.G.K := B.hK
    refine ⟨tCons (rd Γ e0 (fun _ _ _ _ => False)).e tNil, tStores Γ.G.K (fs.map (toFD Γ fun _ _ _ _ => False)), pa_cons ((co_all Γ false e0 hw.1.1 _ k _ _ As).e e h0) pa_nil (star_one hst), so_init As fs rest hw.2 h1, ?_⟩
    have hrl : r.length + 1 = ps.length := hl
    have nF : F0 a = none := sF.free na
    have sF2 : Same F0 (upd H1 a (exo a C none)) := fun b o h => by
      rw [upd_ne (ne_of_none h nF)]
      exact sF b o h
    have rr2 : Reps Γ.G F0 (upd H1 a (exo a C none)) ds r [] := Reps.mono (Same.refl _) _ rr fun p hp => nomatch hp
    have k0 := ok_startF (G := Γ.G) (N := N) (a := a) (C := C) sF2 rr2 (by omega)
    have hσ : (startF N (V.ref a :: r) [some (V.ref C)])[0]? = some (some (V.ref a)) := rfl
    refine ⟨a, hσ, upd_same, ?_⟩
    unfold xiF at ef
    cases ee : evalE Γ.Φ e0 (xiD N.length ds) with
    | stuck => rw [ee] at ef; cases ef
    | exc z => rw [ee] at ef; cases ef
    | ok d0 =>
      rw [ee] at ef
      dsimp only at ef
      cases eq : xgoE Γ.Φ (xiD N.length ds) fs [] [] with
      | none => rw [eq] at ef; cases ef
      | some q =>
        rw [eq] at ef
        obtain rfl : (⟨c, q.1, q.2⟩ : Exn) = x := by injection ef
        have d0 := ((den_all Γ B.ok e0).e (fun _ _ _ _ => False) hw.1.1).1
        rw [hmv] at d0
        show (rd Γ e0 fun _ _ _ _ => False).e _ _ _
        refine d0 _ F0 _ _ (fun _ => []) _ k0 ?_
        rw [ee]
        intro v F2 H2 T2 g2 r2 _
        have x0 : XSt Γ.G F0 H1 a C F0 (upd H1 a (exo a C none)) [] [] [] none := ⟨Same.refl _, sF2, nF, na, fun b o h => by rw [upd_ne (ne_of_none h na)]; exact h, fun p z z2 => absurd z z2, upd_same, .inl ⟨rfl, rfl⟩, rfl, Reps.nil⟩
        have x1 := x0.gr g2
        refine ⟨x1.ha, by simp, ?_⟩
        refine den_stores (G := Γ.G) (W := fun _ _ _ _ => False) (hKG ▸ SK.T) hσ (fs.map (toFD Γ fun _ _ _ _ => False)) [] [] [] none F2 H2 q.1 q.2 (fun y hy => ?_) x1 (k0.gr g2) (by rw [xgo_eq]; exact eq) (by simp; exact hfl) (.inl (by simpa using hne)) fun F3 H3 fs3 d3 X3 => post F3 H3 fs3 d3 X3
        obtain ⟨p, hp, rfl⟩ := List.mem_map.mp hy
        have hwp := List.all_eq_true.mp hw.2 p hp
        rw [Bool.and_eq_true] at hwp
        have dd := ((den_all Γ B.ok p.2).e (fun _ _ _ _ => False) hwp.1).1
        rw [List.isEmpty_iff.mp hwp.2] at dd
        exact ⟨dd, hKG ▸ hno p hp⟩
theorem passN {X : Cx} : Passes (L2N.CX X.prog X.w) X (fun _ _ _ => False) := fun _ _ _ _ _ _ _ h => by
  obtain ⟨_, _, _, _, _, _, _, _, _, _, _, _, z⟩ := h
  exact z.elim
/-- an own exception is made where nothing is handled; its context is None -/
theorem pmk_oexN {X : Cx} {CX : CXT} {x : Str} {C fI : Addr} {j : Nat} {fd : FuncData} {ps : List Str} {sp : Sp} {e : Expr} {es : List Expr} {ta : TA} {p pos : Pos} (T : OexC X.K C) (iC : PySem.W.findIn X.K (.ref C) "__init__" = some (some (.ref fI))) (tI : PySem.W.typeIn X.K (.ref fI) = some (.type "function"))
    (F1 : FnOk X.prog X.w X.K X.mg X.base CX j fI fd ps sp) (hr : Room (j + 1) X.A) (hb : Binds X.K fd ps []) (hx : Passes CX X (fun _ _ _ => False)) (hg : Gl X x) (hm : X.mg x = some (.ref C)) (ha : PA X (e :: es) ta)
    (hdb : (x == ("__debug__" : Str)) = false) (he : starEach (e :: es) X.env = (false, eval e X.env) :: starEach es X.env) (hpl : (backTo pos (starEach es X.env)).any (·.1) = false) :
    L2N.PMk X (.Call (.Name x p) (e :: es) [] pos) (tMkO C sp [] ta) := by
  intro pins s σ H Q I h
  obtain ⟨_, _, _, _, bm, _, _, _, _, _, _, _, _, _, _, hC, hbm⟩ := T.cls
  refine wpAny_Call_Name_kw (ld_glob I hg hm ?_ hdb)
  refine PySem.W.callWith_K (h₀ := X.base) I.ok.mod.kin T.kC (thn (ha.run pos pins s σ H _ I h) fun us s1 ⟨vs, H1, I1, r1, hz, q1⟩ => ⟨I1.kIn, ?_⟩) he hpl
  show wpAny _ _ (call (.ref C) us) _ _ _
  obtain ⟨hp, g, dr, tk, os⟩ := s1
  have le : hp.objs.size ≤ hp.objs.size + 1 := Nat.le_succ _
  have free := I1.hok.fresh le
  have go := q1 (hp.objs.size + 1) free
  rw [List.append_nil] at go
  have stays : ∀ b o, hp.get? b = some o → ((hp.push (PySem.W.kdv_tup us)).push (PySem.HandSPX.excO C hp.objs.size)).get? b = some o := fun b o z => Heap.get?_push_of_some _ (Heap.get?_push_of_some _ z)
  have there : ((hp.push (PySem.W.kdv_tup us)).push (PySem.HandSPX.excO C hp.objs.size)).get? (hp.objs.size + 1) = some (PySem.HandSPX.excO C hp.objs.size) := by heap_get
  have I2 : Inv X pins σ (upd H1 (hp.objs.size + 1) (exo (hp.objs.size + 1) C none)) ⟨(hp.push (PySem.W.kdv_tup us)).push (PySem.HandSPX.excO C hp.objs.size), g, dr, tk, os⟩ :=
    I1.laid (t' := tk) (a := hp.objs.size + 1) (o := exo (hp.objs.size + 1) C none) (h' := (hp.push (PySem.W.kdv_tup us)).push (PySem.HandSPX.excO C hp.objs.size)) stays le (exo_ok there)
  have rs : Vals (V.ref (hp.objs.size + 1) :: vs) (Value.ref (hp.objs.size + 1) :: us) := .cons rfl r1
  have few : (Value.ref (hp.objs.size + 1) :: us ++ []).length = ps.length := by
    have z := rs.length
    rw [F1.len _ _ _ _ go] at z
    rw [List.append_nil]
    exact z.symm
  have bound := hb _ (Value.ref (hp.objs.size + 1) :: us) I2.kIn few
  rw [List.append_nil] at bound
  have short : us.length ≤ sizeLine := by
    rw [← Paired.length r1, sizeLine_eq]
    omega
  refine wpAny_call (PySem.HandSPX.call_own F.excBase_ValueError (fun Y => PySem.HandSPX.refsVE_contains Y bm hbm) (I1.kIn _ _ hC) (PySem.W.looks_findIn I1.kIn iC) (fun self => PySem.W.bind_fn I1.kIn self tI) short
    (codeAny_mono (F1.run _ X.stack _ _ ⟨Value.ref (hp.objs.size + 1) :: us, []⟩ (Value.ref (hp.objs.size + 1) :: us) _ _ (fun _ _ _ => False) (hr.make C us []) (I2.env0.make C us []) bound rs go) fun r s' hq => ?_))
  cases r with
  | error er => exact hx pins σ _ _ er s' I2 hq
  | ok fl =>
    cases fl with
    | ret u =>
      obtain ⟨v, H2, os2, bare2, un2, hok2, rv, ev, d, fs, ea, ed, hd1, q2⟩ := hq
      subst ev
      obtain ⟨h2, g2, d2, t2, os'⟩ := s'
      obtain ⟨t0, G, J, kG, ge, hoe, na⟩ := mk_end0 (d2 := d2) (t2 := t2) I1 le stays un2 hok2 os2 bare2 ea ed hd1
      exact ⟨rv, ⟨hp.objs.size + 1, _, _, ⟨G, g2, d2, t2, os'⟩, _, .ref C, some d, rfl, J, kG, ge, hoe, ⟨rfl, rfl, fun vs hv => by cases hv; rfl⟩, rfl, rfl, na, rfl, bare2, raises_own T.exC T.tyC, q2⟩⟩
    | next => exact False.elim hq
    | brk => exact False.elim hq
    | cont => exact False.elim hq
/-- .. raised -/
theorem raise_of {C fI : Addr} {fd : FuncData} {ps : List Str} {sp : Sp} {name : Str} {np : Nat} (T : OexC K C) (iC : PySem.W.findIn K (.ref C) "__init__" = some (some (.ref fI))) (tI : PySem.W.typeIn K (.ref fI) = some (.type "function"))
    (F1 : FnOk P w K mg base (L2N.CX P w) k fI fd ps sp) (hb : Binds K fd ps []) (hm : mg name = some (.ref C)) : RaiseAll P w K mg base (k + 1) name np C sp := by
  refine ⟨hm, fun X h1 h2 h3 h4 h5 hr e es ta p pos hl hg hdb hs ha => ?_⟩
  subst h1 h2 h3 h4 h5
  rw [List.all_cons, Bool.and_eq_true] at hs
  exact pmk_oexN T iC tI F1 hr hb passN hg hm ha hdb (star_one hs.1) (star_plain hs.2)
end
end MP
set_option Elab.async false
set_option linter.all false
set_option maxRecDepth 100000
set_option maxHeartbeats 1000000
namespace MP
open PySem PyProof.Rows
open L2 hiding St
/-! ### the table of a row: what each call means, by the depth of calls -/
inductive Ent where
  | fn (n : Nat) (b : DS)
  | cls (c n : Nat) (b : DS) (re : List D → List D)
  | kw (n : Nat) (b : DS) (re : List D → List D)
  | xi (n c : Nat) (e0 : DE) (fs : List (Str × DE))
def Ent.run (fuel : Nat) (Φ : Tab) : Ent → List D → Res D
  | .fn n b, as => runF Φ fuel n b as
  | .cls c n b re, as => initF Φ fuel n b c (re as)
  | .kw n b re, as => runF Φ fuel n b (re as)
  | .xi n c e0 fs, as => xiF Φ n c e0 fs as
def tab (g : Tab) (fuel : Nat) (es : List (Nat × Ent)) : Nat → Tab
  | 0 => { g with fn := fun _ _ => .stuck }
  | k + 1 => { g with fn := fun i as => match es.lookup i with
    | some e => e.run fuel (tab g fuel es k) as
    | none => .stuck }
theorem tab_gl (g : Tab) (fuel : Nat) (es : List (Nat × Ent)) : ∀ k, (tab g fuel es k).gl = g.gl
  | 0 => rfl
  | k + 1 => rfl
theorem tab_isx (g : Tab) (fuel : Nat) (es : List (Nat × Ent)) : ∀ k, (tab g fuel es k).isx = g.isx
  | 0 => rfl
  | k + 1 => rfl
def GE.at (Γ : GE) (Φ : Tab) : GE := { Γ with Φ := Φ }
section
variable {Γ : GE} {sg : List (Str × Sig)} {gl cl : List (Str × Nat)} {xg : List (Str × XSig)} {hs : List (Str × Sig)} {P : Program} {w : World} {K : PySem.W.Frag} {mg : Str → Option Value} {base : Heap} {fuel : Nat} {es : List (Nat × Ent)}
/-- what the top has of an entry -/
inductive EntOk (Γ : GE) (sg : List (Str × Sig)) (gl cl : List (Str × Nat)) (xg : List (Str × XSig)) (hs : List (Str × Sig)) (K : PySem.W.Frag) (mg : Str → Option Value) : Str → Sig → Ent → Prop
  | fn {x : Str} {i : Nat} {qual : Str} {st : Stmt} {f : Addr} {fd : FuncData} {N ps : List Str} {b : DS} (Fn : L2.Fun K x qual st f fd) (hm : mg x = some (.ref f)) (hb : Binds K fd ps []) (S : FnScope N ps (defScope st))
      (hw : wfS Γ b = true) (hc : chkS b (CC.of N (defScope st) sg gl cl xg hs) (.blk (defBody st)) = true) : EntOk Γ sg gl cl xg hs K mg x ⟨ps.length, [], i⟩ (.fn N.length b)
  | cls {x m qual : Str} {i np c : Nat} {ks : List Str} {params : Arguments} {body : List Stmt} {scope : Scope} {dvs : List V} {kws : List (Str × V)} {f : Addr} {fd : FuncData} {N ps : List Str} {b : DS} {g : List Value → List Value → List Value} {gV : List V → List V → List V} {re : List D → List D}
      (Fn : FunD K m qual params body scope dvs kws f fd) (S : FnScope N ps scope) (hw : wfS Γ b = true) (hi : initB b = true) (hc : chkS b (CC.of N scope sg gl cl xg hs) (.blk body) = true)
      (hcs : c ∈ Γ.G.cs) (M : Mk K (Γ.G.cls c) f) (hm : mg x = some (.ref (Γ.G.cls c))) (kb : KBn K fd ps (np + 1) ks g gV) (R : ReOk Γ.G np ks gV re) (hps : ∀ a vs zs, vs.length = np → zs.length = ks.length → (gV (.ref a :: vs) zs).length = ps.length) :
      EntOk Γ sg gl cl xg hs K mg x ⟨np, ks, i⟩ (.cls c N.length b re)
  | kw {x qual : Str} {i np : Nat} {ks : List Str} {params : Arguments} {body : List Stmt} {scope : Scope} {dvs : List V} {kws : List (Str × V)} {f : Addr} {fd : FuncData} {N ps : List Str} {b : DS} {g : List Value → List Value → List Value} {gV : List V → List V → List V} {re : List D → List D}
      (Fn : FunD K x qual params body scope dvs kws f fd) (hm : mg x = some (.ref f)) (kb : KBn K fd ps np ks g gV) (S : FnScope N ps scope) (hw : wfS Γ b = true) (hc : chkS b (CC.of N scope sg gl cl xg hs) (.blk body) = true) (R : ReF Γ.G np ks ps.length gV re) :
      EntOk Γ sg gl cl xg hs K mg x ⟨np, ks, i⟩ (.kw N.length b re)
/-- what the top has of an own exception class -/
structure XOk (Γ : GE) (sg : List (Str × Sig)) (gl cl : List (Str × Nat)) (P : Program) (K : PySem.W.Frag) (mg : Str → Option Value) (name : Str) (s : XSig) (en : Ent) : Prop where
  ex : ∃ (f cc : Addr) (F : NdefX.NF) (fd : FuncData) (N ps : List Str) (e0 : DE) (fs : List (Str × DE)) (s0 : Stmt) (rest : List Stmt) (e : Expr), en = .xi N.length s.c e0 fs ∧ SupK P K mg f cc (Γ.G.cls s.c) F fd N ps ∧ F.body = s0 :: rest ∧ dSup s0 = some e ∧ nStar e = true ∧ wfX Γ e0 fs = true ∧ fs ≠ [] ∧ fs.length ≤ 900 ∧
    (∀ p ∈ fs, PySem.W.findIn K (.ref (Γ.G.cls s.c)) p.1 = some none) ∧ chk e0 ⟨N, F.scope, fun _ => false, sg, gl, cl, [], false, false, []⟩ (.e e) = true ∧ chkI ⟨N, F.scope, fun _ => false, sg, gl, cl, [], false, false, []⟩ fs rest = true ∧
    PySem.W.findIn K (.ref (Γ.G.cls s.c)) "__init__" = some (some (.ref f)) ∧ PySem.W.typeIn K (.ref f) = some (.type "function") ∧ Binds K fd ps [] ∧ mg name = some (.ref (Γ.G.cls s.c)) ∧ ps.length = s.np + 1
theorem wfX_at (Φ : Tab) (wa : ∀ (l : Bool) (d : DE), wf (Γ.at Φ) l d = wf Γ l d) (e0 : DE) (fs : List (Str × DE)) : wfX (Γ.at Φ) e0 fs = wfX Γ e0 fs := by
  unfold wfX
  rw [wa]
  congr 2
  funext p
  rw [wa]
theorem stuck_raise {G : GX} {C : Addr} {c m np : Nat} {x : Str} (T : OexC K C) (hm : mg x = some (.ref C)) (j : Nat) : RaiseAll P w K mg base j x np C (spX G C c m fun _ => .stuck) := by
  refine ⟨hm, fun X h1 h2 h3 h4 h5 hr e es ta p pos hl hg hdb hs ha => ?_⟩
  subst h1 h2 h3 h4 h5
  rw [List.all_cons, Bool.and_eq_true] at hs
  intro pins s σ H Q I h
  refine wpAny_Call_Name_kw (ld_glob I hg hm ?_ hdb)
  refine PySem.W.callWith_K (h₀ := X.base) I.ok.mod.kin T.kC (thn (ha.run pos pins s σ H _ I h) fun us s1 hh => ?_) (star_one hs.1) (star_plain hs.2)
  obtain ⟨vs, H1, I1, r1, hz, q1⟩ := hh
  obtain ⟨_, _, _, _, _, _, _, _, _, _, _, _, _, z, _⟩ := q1 s1.heap.objs.size (I1.hok.fresh (Nat.le_refl _))
  cases z
theorem wf_at (Φ : Tab) (l : Bool) (d : DE) : wf (Γ.at Φ) l d = wf Γ l d := wf_ate Γ Φ Γ.G.ex l d
theorem wfS_at (Φ : Tab) (s : DS) : wfS (Γ.at Φ) s = wfS Γ s := wfS_ate Φ Γ.G.ex Γ s
/-- what a row's top gives, but for the calls -/
structure TopOk (Γ : GE) (gl cl : List (Str × Nat)) (K : PySem.W.Frag) (mg : Str → Option Value) : Prop where
  hK : K = Γ.G.K
  ok : GOk Γ
  glb : ∀ p ∈ gl, ∃ u, mg p.1 = some u ∧ RelV (Γ.gv p.2) u
  cls : ∀ p ∈ cl, mg p.1 = some (.ref (Γ.G.cls p.2))
  blt : ∀ x ∈ bltNames, mg x = none
  ex0 : Γ.G.ex = none
/-- what the top has of a def that is called within an except suite -/
structure HOk' (Γ : GE) (gl cl : List (Str × Nat)) (hs : List (Str × Sig)) (K : PySem.W.Frag) (mg : Str → Option Value) (x : Str) (s : Sig) (en : Ent) : Prop where
  ex : ∃ (qual : Str) (st : Stmt) (f : Addr) (fd : FuncData) (N ps : List Str) (b : DS), en = .fn N.length b ∧ s.np = ps.length ∧ s.ks = [] ∧ L2.Fun K x qual st f fd ∧ mg x = some (.ref f) ∧ Binds K fd ps [] ∧ FnScope N ps (defScope st) ∧
    wfS Γ b = true ∧ chkS b (CC.ofH N (defScope st) gl cl hs) (.blk (defBody st)) = true
theorem stuck_call {hot : Bool} {x : Str} {u : Value} {np : Nat} {ks : List Str} (hm : mg x = some u) (hk : PySem.W.keepIn K u = true) (j : Nat) : CallAll hot P w K mg base j x np ks (spD Γ.G (np + ks.length) fun _ => .stuck) :=
  ⟨u, hm, hk, fun X _ _ _ _ _ _ W _ pins s σ H Q vs zs us ws _ _ _ _ _ q => by
    obtain ⟨_, _, _, _, _, _, post⟩ := q
    exact post.elim⟩
/-- every call keeps what the table says -/
theorem tab_ok (T : TopOk Γ gl cl K mg) (hgl : ∀ n, Γ.Φ.gl n = Γ.Φ.gl n) (E : ∀ p ∈ sg, ∃ e, es.lookup p.2.f = some e ∧ EntOk Γ sg gl cl xg hs K mg p.1 p.2 e) (EX : ∀ p ∈ xg, ∃ e, es.lookup p.2.n = some e ∧ XOk Γ sg gl cl P K mg p.1 p.2 e) (EH : ∀ p ∈ hs, ∃ e, es.lookup p.2.f = some e ∧ HOk' Γ gl cl hs K mg p.1 p.2 e) : ∀ k, Bas (Γ.at (tab Γ.Φ fuel es k)) sg gl cl xg hs (2 * k) P w K mg base
  | 0 => by
    have okΓ : GOk (Γ.at (tab Γ.Φ fuel es 0)) := ⟨T.ok.kin, T.ok.cls, T.ok.noa, T.ok.gl, T.ok.exm, T.ok.xfs, (fun c k b h => T.ok.isx c k b (by rw [← tab_isx Γ.Φ fuel es 0]; exact h)), T.ok.xcs, T.ok.exc⟩
    refine ⟨T.hK, okΓ, fun p hp => ?_, T.glb, T.cls, T.blt, T.ex0, fun p hp => ?_, fun p hp => ?_⟩
    rotate_left
    · obtain ⟨e, he, h⟩ := EH p hp
      obtain ⟨_, _, _, _, _, _, _, _, _, _, Fn, hm, _⟩ := h.ex
      exact stuck_call (Γ := Γ.at (tab Γ.Φ fuel es 0)) hm Fn.kp 0
    · obtain ⟨e, he, h⟩ := EX p hp
      obtain ⟨f, cc, F, fd, N, ps, e0, fs, s0, rest, e', rfl, SK, _, _, _, _, _, _, _, _, _, _, _, _, hm, _⟩ := h.ex
      exact stuck_raise (G := Γ.G) SK.T hm 0
    obtain ⟨e, he, h⟩ := E p hp
    generalize p.1 = x at h ⊢
    generalize p.2 = s at h ⊢
    cases h with
    | fn Fn hm hb S hw hc => exact stuck_call (Γ := Γ.at (tab Γ.Φ fuel es 0)) hm Fn.kp 0
    | cls Fn S hw hi hc hcs M hm kb R hps => exact stuck_call (Γ := Γ.at (tab Γ.Φ fuel es 0)) hm M.kp 0
    | kw Fn hm kb S hw hc R => exact stuck_call (Γ := Γ.at (tab Γ.Φ fuel es 0)) hm Fn.kp 0 -- EntOkK
  | k + 1 => by
    have okΓ : GOk (Γ.at (tab Γ.Φ fuel es (k + 1))) := ⟨T.ok.kin, T.ok.cls, T.ok.noa, T.ok.gl, T.ok.exm, T.ok.xfs, (fun c j b h => T.ok.isx c j b (by rw [← tab_isx Γ.Φ fuel es (k + 1)]; exact h)), T.ok.xcs, T.ok.exc⟩
    have B := tab_ok T hgl E EX EH k
    refine ⟨T.hK, okΓ, fun p hp => ?_, T.glb, T.cls, T.blt, T.ex0, fun p hp => ?_, fun p hp => ?_⟩
    rotate_left
    · obtain ⟨e, he, h⟩ := EH p hp
      have ef : (Γ.at (tab Γ.Φ fuel es (k + 1))).Φ.fn p.2.f = e.run fuel (tab Γ.Φ fuel es k) := by
        funext as
        show (match es.lookup p.2.f with | some e => e.run fuel (tab Γ.Φ fuel es k) as | none => .stuck) = _
        rw [he]
      rw [ef]
      obtain ⟨qual, st, f, fd, N, ps, b, rfl, h1, h2, Fn, hm, hb, S, hw, hc⟩ := h.ex
      have F := fn_denH fuel B Fn S (by rw [wfS_at]; exact hw) hc
      rw [h1, h2]
      exact (call_fnH F hm Fn.kp hb).mono (by omega)
    · obtain ⟨e, he, h⟩ := EX p hp
      have ef : (Γ.at (tab Γ.Φ fuel es (k + 1))).Φ.fn p.2.n = e.run fuel (tab Γ.Φ fuel es k) := by
        funext as
        show (match es.lookup p.2.n with | some e => e.run fuel (tab Γ.Φ fuel es k) as | none => .stuck) = _
        rw [he]
      rw [ef]
      obtain ⟨f, cc, F, fd, N, ps, e0, fs, s0, rest, e', rfl, SK, hb0, hsup, hst, hw, hne, hfl, hno, h0, h1, iC, tI, hb, hm, hps⟩ := h.ex
      have FO := xinit_den (c := p.2.c) B SK hb0 hsup hst (by rw [wfX_at _ (wf_at _)]; exact hw) hne hfl hno h0 h1
      rw [hps] at FO
      exact (raise_of SK.T iC tI FO hb hm).mono (by omega)
    obtain ⟨e, he, h⟩ := E p hp
    have ef : ∀ as, (tab Γ.Φ fuel es (k + 1)).fn p.2.f as = e.run fuel (tab Γ.Φ fuel es k) as := fun as => by
      show (match es.lookup p.2.f with | some e => e.run fuel (tab Γ.Φ fuel es k) as | none => .stuck) = _
      rw [he]
    have ef : (Γ.at (tab Γ.Φ fuel es (k + 1))).Φ.fn p.2.f = e.run fuel (tab Γ.Φ fuel es k) := funext ef
    rw [ef]
    generalize p.1 = x at h ⊢
    generalize p.2 = s at h ⊢
    cases h with
    | fn Fn hm hb S hw hc =>
      have F := fn_den fuel B Fn S (by rw [wfS_at]; exact hw) hc
      exact (call_fn F hm Fn.kp hb).mono (by omega)
    | kw Fn hm kb S hw hc R =>
      have F := fn_denD fuel B Fn S (by rw [wfS_at]; exact hw) hc
      exact (call_fnK F hm Fn.kp kb R).mono (by omega)
    | cls Fn S hw hi hc hcs M hm kb R hps =>
      have F := init_den fuel B Fn S (by rw [wfS_at]; exact hw) hi hc
      have hN : ∀ {N ps : List Str} {sc : Scope}, FnScope N ps sc → ps.length ≤ N.length := fun S => by have := congrArg List.length S.pre; rw [List.length_take] at this; omega
      exact call_cls (Γ := Γ.at (tab Γ.Φ fuel es k)) T.hK hcs M F (hN S) hm kb R hps
end
end MP
set_option Elab.async false
set_option linter.all false
set_option maxRecDepth 100000
set_option maxHeartbeats 1000000
namespace MP
open PySem PyProof.Rows
open L2 hiding St
/-! ### a row's end: what the written part says, by names -/
abbrev Nm := List (Nat × Str)
def nmOf (nm : Nm) (c : Nat) : Str := (nm.lookup c).getD ""
def gxOf (K : PySem.W.Frag) (nm : Nm) (cs : List Nat) : GX := ⟨K, fun c => He.ga K (nmOf nm c), cs, none⟩
def noB (o : Option Bool) : Bool := match o with
  | some false => true
  | _ => false
theorem noB_ok {o : Option Bool} (h : noB o = true) : o = some false := by
  cases o with
  | none => cases h
  | some b => cases b <;> first | rfl | cases h
def clsB (K : PySem.W.Frag) (C : Addr) : Bool :=
  He.eqO (PySem.W.findIn K (.ref C) "__class__") (some (some (.builtin "object.__class__"))) &&
  (He.eqO (PySem.W.specialIn K (.builtin "object.__class__") "__get__") (some (some (.builtin "getset_descriptor.__get__"))) &&
  ((match PySem.W.takesIn K (.builtin "object.__class__") with | some true => true | _ => false) &&
  (match PySem.W.mroIn K C (.type "object") with | some true => true | _ => false)))
theorem yesB_ok {o : Option Bool} (h : (match o with | some true => true | _ => false) = true) : o = some true := by
  cases o with
  | none => cases h
  | some b => cases b <;> first | rfl | cases h
theorem clsB_ok {K : PySem.W.Frag} {C : Addr} (c : Cls K C) (h : clsB K C = true) : ClsI K C := by
  obtain ⟨h1, h⟩ := He.ba h
  obtain ⟨h2, h⟩ := He.ba h
  obtain ⟨h3, h4⟩ := He.ba h
  exact ⟨c, He.eqO_ok h1, He.eqO_ok h2, yesB_ok h3, yesB_ok h4⟩
def kindsB (nm : Nm) (cs : List Nat) (K : PySem.W.Frag) : Bool :=
  cs.all fun c => clsB K (He.ga K (nmOf nm c)) &&
    (((["int", "bool", "str", "list", "tuple", "NoneType"] : List String).all fun n => noB (PySem.W.kitCls K (.type n) (.ref (He.ga K (nmOf nm c))))) &&
    (((["int", "bool", "str", "list", "tuple"] : List String).all fun n => noB (PySem.W.kitCls K (.ref (He.ga K (nmOf nm c))) (.type n))) &&
    cs.all fun e => c == e || (decide (He.ga K (nmOf nm c) ≠ He.ga K (nmOf nm e)) && noB (PySem.W.kitCls K (.ref (He.ga K (nmOf nm c))) (.ref (He.ga K (nmOf nm e)))))))
theorem kitOne_no {K : PySem.W.Frag} {t c : Value} (ht : (t == c) = false) (h : noB (PySem.W.kitCls K t c) = true) : PySem.W.kitOne K t c = some false := by
  unfold PySem.W.kitOne
  rw [ht]
  exact noB_ok h
theorem kinds_ok {nm : Nm} {cs : List Nat} {K : PySem.W.Frag} (h : kindsB nm cs K = true) (hc : ∀ c ∈ cs, Cls K (He.ga K (nmOf nm c))) : KindI (gxOf K nm cs) := by
  have key := List.all_eq_true.mp h
  refine ⟨fun c hm => clsB_ok (hc c hm) (He.ba (key c hm)).1, fun c hm n hn => ?_, fun c hm n hn => ?_, fun c hm e he => ?_⟩
  · exact kitOne_no rfl (List.all_eq_true.mp (He.ba (He.ba (key c hm)).2).1 n hn)
  · exact kitOne_no rfl (List.all_eq_true.mp (He.ba (He.ba (He.ba (key c hm)).2).2).1 n hn)
  · have z := List.all_eq_true.mp (He.ba (He.ba (He.ba (key c hm)).2).2).2 e he
    cases q : c == e with
    | true =>
      have : c = e := by simpa using q
      subst this
      unfold PySem.W.kitOne
      exact if_pos (beq_self_eq_true _)
    | false =>
      rw [q, Bool.false_or] at z
      obtain ⟨z1, z2⟩ := He.ba z
      refine kitOne_no ?_ z2
      have : He.ga K (nmOf nm c) ≠ He.ga K (nmOf nm e) := of_decide_eq_true z1
      exact beq_eq_false_iff_ne.mpr fun w => this (by injection w)
/-- the keyword-only default x of the def at p, if it is an object -/
def kwAt (p : Str × Option Str) (x : Str) (K : PySem.W.Frag) : Addr := match K.lookup (He.fAd K p) with
  | some ⟨_, _, .func fd, _⟩ => (match fd.kwdefaults with
    | .ref d => (match PySem.W.nsIn K d x with
      | some (some (.ref a)) => a
      | _ => 0)
    | _ => 0)
  | _ => 0
def emptyB (a : Addr) (K : PySem.W.Frag) : Bool := match K.lookup a with
  | some ⟨.type n, _, .seq its _, _⟩ => decide (n = "tuple") && its.isEmpty
  | _ => false
theorem emptyB_ok {a : Addr} {K : PySem.W.Frag} (h : emptyB a K = true) (F : Hp) : TupR K F a [] := by
  unfold emptyB at h
  cases q : K.lookup a with
  | none => rw [q] at h; cases h
  | some o =>
    obtain ⟨oc, od, dt, osl⟩ := o
    rw [q] at h
    cases oc with
    | type c =>
      cases dt with
      | seq its n =>
        obtain ⟨h1, h2⟩ := He.ba (show (decide (c = "tuple") && its.isEmpty) = true from h)
        have e : its = #[] := by simpa using h2
        exact .inr ⟨.inr ⟨_, its, n, q, congrArg Value.type (of_decide_eq_true h1), rfl, by rw [e]; exact Nat.zero_le _, by rw [e]; exact .nil⟩, rfl⟩
      | _ => cases h
    | _ => cases dt <;> cases h
theorem rep_empty {G : GX} {F H : Hp} {a : Addr} (h : emptyB a G.K = true) : Rep G F H (.tup false []) (.ref a) [] := ⟨a, [], [], rfl, Reps.nil, emptyB_ok h F, rfl, rfl⟩
theorem fun_of {K : PySem.W.Frag} {x q : Str} {st : Stmt} {kws : List (Str × V)} {f : Addr} {fd : FuncData} (F : FunD K x q (defArgs st) (defBody st) (defScope st) [] kws f fd) : L2.Fun K x q st f fd := by
  obtain ⟨oc, od, dV, kV, doc, pm, an, cdv, ct, osl, rfl, lk, hcd, hD, hK⟩ := F.ex
  rcases hD with ⟨_, rfl⟩ | ⟨e, _⟩
  · exact ⟨⟨oc, od, kV, doc, pm, an, cdv, ct, osl, rfl, lk, hcd⟩, F.kp⟩
  · exact absurd rfl e
theorem tab_fn {gl : Tab} {fuel : Nat} {es : List (Nat × Ent)} {k i n : Nat} {b : DS} (h : es.lookup i = some (.fn n b)) : (tab gl fuel es (k + 1)).fn i = runF (tab gl fuel es k) fuel n b := by
  funext as
  show (match es.lookup i with | some e => e.run fuel (tab gl fuel es k) as | none => .stuck) = _
  rw [h]; rfl
theorem tab_cls {gl : Tab} {fuel : Nat} {es : List (Nat × Ent)} {k i c n : Nat} {b : DS} {re : List D → List D} (h : es.lookup i = some (.cls c n b re)) : (tab gl fuel es (k + 1)).fn i = fun as => initF (tab gl fuel es k) fuel n b c (re as) := by
  funext as
  show (match es.lookup i with | some e => e.run fuel (tab gl fuel es k) as | none => .stuck) = _
  rw [h]; rfl
theorem tab_xi {gl : Tab} {fuel : Nat} {es : List (Nat × Ent)} {k i n c : Nat} {e0 : DE} {fs : List (Str × DE)} (h : es.lookup i = some (.xi n c e0 fs)) : (tab gl fuel es (k + 1)).fn i = xiF (tab gl fuel es k) n c e0 fs := by
  funext as
  show (match es.lookup i with | some e => e.run fuel (tab gl fuel es k) as | none => .stuck) = _
  rw [h]; rfl
theorem cx_no {P : Program} {w : World} {H : Hp} {s : Shared} {e : Value} {s' : Shared} (h : L2N.CX P w [] H s (fun _ _ _ => False) e s') : False := by
  obtain ⟨_, _, _, _, _, _, _, _, _, _, _, _, z⟩ := h
  exact z
theorem len_0 {α : Type} {xs : List α} (h : xs.length = 0) : xs = [] := by
  exact List.eq_nil_of_length_eq_zero h
theorem len_1 {α : Type} {xs : List α} (h : xs.length = 1) : ∃ x0, xs = [x0] := by
  cases xs with
  | nil => simp at h
  | cons a r =>
    have k := len_0 (xs := r) (by simpa using h)
    subst k
    exact ⟨a, rfl⟩
theorem len_2 {α : Type} {xs : List α} (h : xs.length = 2) : ∃ x0 x1, xs = [x0, x1] := by
  cases xs with
  | nil => simp at h
  | cons a r =>
    have k := len_1 (xs := r) (by simpa using h)
    obtain ⟨y0, rfl⟩ := k
    exact ⟨a, y0, rfl⟩
theorem len_3 {α : Type} {xs : List α} (h : xs.length = 3) : ∃ x0 x1 x2, xs = [x0, x1, x2] := by
  cases xs with
  | nil => simp at h
  | cons a r =>
    have k := len_2 (xs := r) (by simpa using h)
    obtain ⟨y0, y1, rfl⟩ := k
    exact ⟨a, y0, y1, rfl⟩
theorem len_4 {α : Type} {xs : List α} (h : xs.length = 4) : ∃ x0 x1 x2 x3, xs = [x0, x1, x2, x3] := by
  cases xs with
  | nil => simp at h
  | cons a r =>
    have k := len_3 (xs := r) (by simpa using h)
    obtain ⟨y0, y1, y2, rfl⟩ := k
    exact ⟨a, y0, y1, y2, rfl⟩
/-- a law's end over a head by facts: the world is known to the promise -/
theorem end_of {l : PySem.W.OpenLaw} {n k : Nat} {q : Program} {loose : List Str} {XP : (Str → Option Value) → Heap → Prop} {YP : World → Heap → Prop} {d : DefRec} {x : Str}
    (e1 : l.most = some n) (e2 : n ≤ sizeLine) (e3 : d.params.defaults = []) (e4 : Room k callerA)
    (go : ∀ (w : World) (mg : Str → Option Value) (fa : Addr) (hp : Heap), YP w hp → hp.Ns mainGlobals mg → mg d.name = some (.ref fa) →
      ∃ (K : PySem.W.Frag) (fd : FuncData) (G : GX) (f : List D → Res D), G.K = K ∧ K.In hp ∧ (∀ (s : Shared) (u : Value), BindsTo s fd ⟨[u], []⟩ [(x, u)]) ∧ (∀ ns : List Int, ns.length ≤ n → f [.scr ns] = .ok (.bl true)) ∧
        ∀ base : Heap, K.In base → base.Ns mainGlobals mg → FnOk l.prog w K mg base (L2N.CX l.prog w) k fa fd [x] (spD G 1 f)) :
    PySem.W.WalkO q loose XP YP l.row.toRowW d [] fun f vs => PySem.call f vs :=
  Att.attach_call e1 e3 fun w s₀ s₁ mg mb fa o pm cd doc a vs ns Gr Y ho hd hcd hmg hobj hints hlen hg => by
    obtain ⟨K, fd, G, f, hG, inK, hb, hf, ok⟩ := go w mg fa _ Y Gr.T.g hmg
    refine law_call inK Gr.T.g Gr.T.b Gr.T.builtins Gr.T.nolimit hg hobj hints (Nat.le_trans hlen e2) e4 ok hb ?_ (fun H e s' z => cx_no z)
    intro H hO hS
    refine ⟨rfl, H, [.scr ns], fun _ _ z => z, ⟨_, _, [], [], rfl, rfl, ⟨a, rfl, by rw [hG]; exact hS, rfl⟩, rfl, rfl⟩, rfl, ?_⟩
    show PostF G H H (f [.scr ns]) _ _
    rw [hf ns hlen]
    exact fun v F' H' T _ r _ _ => r.1
end MP
set_option Elab.async false
set_option linter.all false
set_option maxRecDepth 100000
set_option maxHeartbeats 1000000
namespace MP
open PySem PyProof.Rows
open L2 hiding St
/-! ### own exception classes over a head by facts -/
def oexB (K : PySem.W.Frag) (C : Addr) : Bool := (match K.lookup C with
    | some ⟨c, dd, .cls cd, sl⟩ => decide (c = .type "type") && (match cd.mro with | .ref D :: bm => decide (D = C) && PySem.HandSPX.refsVE bm | _ => false) && cd.hasDict && !cd.hasDel && (match sl.toList with | [_, _, _, _, some n, _] => decide (n = .builtin "ValueError.__new__") | _ => false)
    | _ => false) &&
  (decide (PySem.W.findIn K (.ref C) "__setattr__" = some (some (.builtin "object.__setattr__"))) && (decide (PySem.W.subIn K (.ref C) (.type "BaseException") = some true) && (decide (PySem.W.typeIn K (.ref C) = some (.type "type")) && PySem.W.keepIn K (.ref C))))
theorem oexB_ok {K : PySem.W.Frag} {C : Addr} (h : oexB K C = true) : OexC K C := by
  unfold oexB at h
  simp only [Bool.and_eq_true, decide_eq_true_eq] at h
  obtain ⟨h1, h2, h3, h4, h5⟩ := h
  refine ⟨?_, h2, h3, h4, h5⟩
  cases q : K.lookup C with
  | none => rw [q] at h1; cases h1
  | some o =>
    obtain ⟨c, dd, dt, sl⟩ := o
    rw [q] at h1
    cases dt with
    | cls cd =>
      dsimp only at h1
      simp only [Bool.and_eq_true, decide_eq_true_eq, Bool.not_eq_true'] at h1
      obtain ⟨⟨⟨⟨e1, e2⟩, e3⟩, e4⟩, e5⟩ := h1
      obtain ⟨nm, bs, mro, ns, qn, hd, sn, sub, ab, col, hdel⟩ := cd
      dsimp only at e2 e3 e4
      subst e1 e3 e4
      cases mro with
      | nil => cases e2
      | cons m bm =>
        cases m <;> first | (cases e2; done) | skip
        rename_i D
        simp only [Bool.and_eq_true, decide_eq_true_eq] at e2
        obtain ⟨rfl, e2⟩ := e2
        obtain ⟨sl⟩ := sl
        match sl, e5 with
        | [k0, k1, k2, k3, some n, k5], e5 =>
          have e5 : n = .builtin "ValueError.__new__" := of_decide_eq_true e5
          subst e5
          exact ⟨nm, qn, ns, bs, bm, sn, sub, ab, col, dd, k0, k1, k2, k3, k5, rfl, e2⟩
    | _ => cases h1
/-- the __init__ of an own exception class: its class's name, its own words -/
structure XDef where
  cls : Str
  qual : Str
  params : Arguments
  body : List Stmt
  scope : Scope
abbrev FnWX : Type := Option (Str × Str × Arguments × FuncBody × Scope × Addr × List Str × Addr)
def xAd (K : PySem.W.Frag) (x : Str) : Addr := He.fAd K (x, some "__init__")
def fnWX (K : PySem.W.Frag) (x : Str) : FnWX := match K.lookup (xAd K x) with
  | some ⟨_, _, .func fd, _⟩ => some (fd.name, fd.qualname, fd.params, fd.body, fd.scope, fd.globals, fd.closure.map (·.1), fd.builtins)
  | _ => none
def XDef.val (d : XDef) : FnWX := some ("__init__", d.qual, d.params, .stmts d.body, d.scope, mainGlobals, ["__class__"], builtinsNs)
def cellB (K : PySem.W.Frag) (C : Addr) : List (Str × Addr) → Bool
  | [(_, cc)] => match K.lookup cc with
    | some ⟨_, _, .cell (some (.ref D)), _⟩ => decide (D = C)
    | _ => false
  | _ => false
def codeB (K : PySem.W.Frag) (file : Str) : Value → Bool
  | .ref c => match K.lookup c with
    | some ⟨_, _, .fields vs, _⟩ => match (vs[2]? : Option Value) with
      | some (.str fl _) => file == fl
      | _ => false
    | _ => false
  | _ => false
def fdB (K : PySem.W.Frag) (file : Str) (C : Addr) (fd : FuncData) : Bool := PySem.W.codeIn K fd.code fd.qualname && (codeB K file fd.code && (cellB K C fd.closure && decide (fd.defaults = .none)))
def supB (file : Str) (K : PySem.W.Frag) (x : Str) : Bool :=
  oexB K (He.ga K x) && (decide (PySem.W.findIn K (.ref (He.ga K x)) "__init__" = some (some (.ref (xAd K x)))) && (decide (PySem.W.typeIn K (.ref (xAd K x)) = some (.type "function")) && ((match K.lookup (xAd K x) with
    | some ⟨_, _, .func fd, _⟩ => fdB K file (He.ga K x) fd
    | _ => false) &&
  (decide (PySem.W.mroIn K (He.ga K x) (.ref (He.ga K x)) = some true) && (decide (PySem.W.nsIn K cStatics "thirdparty.any" = some none) && (decide (PySem.W.ks_superIn K (He.ga K x) (He.ga K x) "__init__" = some (some (.builtin "ValueError.__init__"))) &&
  decide (PySem.W.subIn K (.ref (He.ga K x)) (.type "ValueError") = some true)))))))
theorem cellB_ok {K : PySem.W.Frag} {C : Addr} {l : List (Str × Addr)} (h : cellB K C l = true) : ∃ n cc, l = [(n, cc)] ∧ ∃ cl cd sl, K.lookup cc = some ⟨cl, cd, .cell (some (.ref C)), sl⟩ := by
  match l, h with
  | [(n, cc)], h =>
    refine ⟨n, cc, rfl, ?_⟩
    replace h : (match K.lookup cc with
      | some ⟨_, _, .cell (some (.ref D)), _⟩ => decide (D = C)
      | _ => false) = true := h
    cases q : K.lookup cc with
    | none => rw [q] at h; cases h
    | some o =>
      obtain ⟨cl, cd, dt, sl⟩ := o
      rw [q] at h
      cases dt with
      | cell v =>
        cases v with
        | none => cases h
        | some u =>
          cases u with
          | ref D =>
            have : D = C := of_decide_eq_true h
            subst this
            exact ⟨_, _, _, rfl⟩
          | _ => cases h
      | _ => cases h
theorem codeB_ok {K : PySem.W.Frag} {file : Str} {v : Value} (h : codeB K file v = true) : ∃ c, v = .ref c ∧ ∃ cl cd vs sl fl tf, K.lookup c = some ⟨cl, cd, .fields vs, sl⟩ ∧ vs[2]? = some (.str fl tf) ∧ (file == fl) = true := by
  cases v with
  | ref c =>
    refine ⟨c, rfl, ?_⟩
    replace h : (match K.lookup c with
      | some ⟨_, _, .fields vs, _⟩ => match (vs[2]? : Option Value) with
        | some (.str fl _) => file == fl
        | _ => false
      | _ => false) = true := h
    cases q : K.lookup c with
    | none => rw [q] at h; cases h
    | some o =>
      obtain ⟨cl, cd, dt, sl⟩ := o
      rw [q] at h
      cases dt with
      | fields vs =>
        dsimp only at h
        cases q2 : (vs[2]? : Option Value) with
        | none => rw [q2] at h; cases h
        | some u =>
          rw [q2] at h
          cases u with
          | str fl tf => exact ⟨_, _, _, _, _, _, rfl, q2, h⟩
          | _ => cases h
      | _ => cases h
  | _ => cases h
theorem sup_ok {P : Program} {K : PySem.W.Frag} {mg : Str → Option Value} {d : XDef} {N ps : List Str} (h : supB P.main.file K d.cls = true) (e : fnWX K d.cls = d.val) (S : NdefX.NScope N ps ["__class__"] d.scope)
    (par : ∃ ar, (d.params.posonlyargs ++ d.params.args).head? = some ar ∧ N[0]? = some ar.arg ∧ d.scope.names.lookup ar.arg = some .local) (kS : d.scope.names.lookup ("super" : Str) = some .globalImplicit) (htop : (P.main.scope.names.lookup ("super" : Str)).isSome = false) (mgS : mg "super" = none) :
    ∃ (cc : Addr) (F : NdefX.NF) (fd : FuncData), SupK P K mg (xAd K d.cls) cc (He.ga K d.cls) F fd N ps ∧ F.params = d.params ∧ F.body = d.body ∧ F.scope = d.scope ∧ fd.params = d.params ∧ fd.defaults = .none ∧ PySem.W.findIn K (.ref (He.ga K d.cls)) "__init__" = some (some (.ref (xAd K d.cls))) ∧ PySem.W.typeIn K (.ref (xAd K d.cls)) = some (.type "function") := by
  unfold supB at h
  simp only [Bool.and_eq_true, decide_eq_true_eq] at h
  obtain ⟨h1, h2, h3, h4, h5, h6, h7, h8⟩ := h
  unfold fnWX at e
  cases q : K.lookup (xAd K d.cls) with
  | none => rw [q] at h4; cases h4
  | some o =>
    obtain ⟨oc, od, dt, osl⟩ := o
    rw [q] at h4 e
    cases dt with
    | func fd =>
      obtain ⟨n1, n2, n3, n4, n5, n6, n7, n8, n9, n10, n11, n12, n13, n14, n15⟩ := fd
      replace h4 : fdB K P.main.file (He.ga K d.cls) ⟨n1, n2, n3, n4, n5, n6, n7, n8, n9, n10, n11, n12, n13, n14, n15⟩ = true := h4
      unfold fdB at h4
      simp only [Bool.and_eq_true, decide_eq_true_eq] at h4
      obtain ⟨k1, k2, k3, k4⟩ := h4
      obtain ⟨nn, cc, rfl, hcell⟩ := cellB_ok k3
      obtain ⟨cda, rfl, hcode⟩ := codeB_ok k2
      have e2 : (some (n1, n2, n3, n4, n5, n6, [nn], n15) : FnWX) = some (("__init__" : Str), d.qual, d.params, .stmts d.body, d.scope, mainGlobals, [("__class__" : Str)], builtinsNs) := e
      simp only [Option.some.injEq, Prod.mk.injEq, List.cons.injEq, and_true] at e2
      obtain ⟨rfl, rfl, rfl, rfl, rfl, rfl, rfl, rfl⟩ := e2
      subst k4
      refine ⟨cc, ⟨"__init__", d.qual, d.params, d.body, d.scope, [(("__class__" : Str), cc)], cda⟩, _, ⟨oexB_ok h1, ⟨_, _, _, _, _, _, rfl⟩, ⟨_, _, _, q⟩, k1, rfl, hcell, hcode, S, par, kS, h5, h6, h7, h8, htop, mgS⟩, rfl, rfl, rfl, rfl, rfl, h2, h3⟩
    | _ => cases h4
/-! ### a caught exception's class -/
theorem look_mem {α β : Type} [BEq α] [LawfulBEq α] {a : α} {b : β} : ∀ {l : List (α × β)}, l.lookup a = some b → (a, b) ∈ l
  | [], h => by simp at h
  | (x, y) :: r, h => by
    rw [List.lookup_cons] at h
    cases q : a == x with
    | true =>
      rw [q] at h
      cases h
      rw [eq_of_beq q]
      exact List.mem_cons_self
    | false => rw [q] at h; exact List.mem_cons_of_mem _ (look_mem h)
def isxB (nm : Nm) (l : List ((Nat × Nat) × Bool)) (K : PySem.W.Frag) : Bool := l.all fun p => decide (PySem.W.kitOne K (.ref (He.ga K (nmOf nm p.1.1))) (.ref (He.ga K (nmOf nm p.1.2))) = some p.2)
theorem isxB_ok {nm : Nm} {l : List ((Nat × Nat) × Bool)} {K : PySem.W.Frag} (h : isxB nm l K = true) (c k : Nat) (b : Bool) (e : l.lookup (c, k) = some b) : PySem.W.kitOne K (.ref (He.ga K (nmOf nm c))) (.ref (He.ga K (nmOf nm k))) = some b :=
  of_decide_eq_true (List.all_eq_true.mp h _ (look_mem e))
def excB (K : PySem.W.Frag) (D : Addr) : Bool :=
  decide (PySem.W.findIn K (.ref D) "__getattribute__" = some (some (.builtin "BaseException.__getattribute__"))) && (decide (PySem.W.findIn K (.ref D) "__getattr__" = some none) && (decide (PySem.W.subIn K (.ref D) (.type "BaseException") = some true) && (PySem.W.hasDictIn K D &&
  (decide (PySem.W.findIn K (.ref D) "__class__" = some (some (.builtin "object.__class__"))) && (decide (PySem.W.specialIn K (.builtin "object.__class__") "__get__" = some (some (.builtin "getset_descriptor.__get__"))) && (decide (PySem.W.takesIn K (.builtin "object.__class__") = some true) &&
  (decide (PySem.W.mroIn K D (.type "object") = some true) && decide (PySem.W.kitOne K (.ref D) (.type "ValueError") = some true))))))))
def xcsB (nm : Nm) (l : List Nat) (K : PySem.W.Frag) : Bool := l.all fun c => excB K (He.ga K (nmOf nm c))
theorem xcsB_ok {nm : Nm} {l : List Nat} {K : PySem.W.Frag} (h : xcsB nm l K = true) (c : Nat) (hc : c ∈ l) : L2.ExcC K (He.ga K (nmOf nm c)) ∧ PySem.W.kitOne K (.ref (He.ga K (nmOf nm c))) (.type "ValueError") = some true := by
  have z := List.all_eq_true.mp h c hc
  unfold excB at z
  simp only [Bool.and_eq_true, decide_eq_true_eq] at z
  obtain ⟨z1, z2, z3, z4, z5, z6, z7, z8, z9⟩ := z
  exact ⟨⟨z1, z2, z3, z4, z5, z6, z7, z8⟩, z9⟩
/-! ### the hook -/
def asZ (g : Addr → Option Obj) (n : Nat) : List Addr := He.asD g n ++ [cStatics]
def obsZ (n : Nat) (fa : List He.Fa) (fn : List He.DefD) (ex : PySem.W.Frag → Bool) (xd : List XDef) (g : Addr → Option Obj) : (He.AlT × Bool) × List FnWX := ((He.obsT fa fn [] (He.frT g (asZ g n)), ex (He.frT g (asZ g n))), xd.map fun d => fnWX (He.frT g (asZ g n)) d.cls)
structure SaysZ (fa : List He.Fa) (fn : List He.DefD) (ex : PySem.W.Frag → Bool) (xd : List XDef) (w : World) (h : Heap) (K : PySem.W.Frag) : Prop where
  t : He.SaysT fa fn [] w K
  more : ex K = true
  xs : xd.map (fun d => fnWX K d.cls) = xd.map XDef.val
def hookZ (n : Nat) (fa : List He.Fa) (fn : List He.DefD) (ex : PySem.W.Frag → Bool) (xd : List XDef) : PySem.W.Hook where
  α := (He.AlT × Bool) × List FnWX
  obs := fun s => obsZ n fa fn ex xd s.heap.get?
  val := fun w => ((He.valT fn [] w, true), xd.map XDef.val)
  says := fun w h => ∃ K : PySem.W.Frag, K.In h ∧ SaysZ fa fn ex xd w h K
  of := fun w s e => ⟨He.frT s.heap.get? (asZ s.heap.get? n), He.frT_in, ⟨congrArg (fun z : (He.AlT × Bool) × List FnWX => z.1.1) e, congrArg (fun z : (He.AlT × Bool) × List FnWX => z.1.2) e, congrArg (fun z : (He.AlT × Bool) × List FnWX => z.2) e⟩⟩
  keeps := fun _ _ _ ⟨K, hK, c⟩ k => ⟨K, PySem.W.Frag.In.keeps hK k, ⟨c.t, c.more, c.xs⟩⟩
theorem obsZ_eq {n : Nat} {fa : List He.Fa} {fn : List He.DefD} {ex : PySem.W.Frag → Bool} {xd : List XDef} {g : Addr → Option Obj} {s : Shared} (h : ∀ a, g a = s.heap.get? a) : obsZ n fa fn ex xd g = (hookZ n fa fn ex xd).obs s := by
  have e : g = s.heap.get? := funext h
  rw [e] <;> rfl
theorem SaysZ.x {fa : List He.Fa} {fn : List He.DefD} {ex : PySem.W.Frag → Bool} {xd : List XDef} {w : World} {h : Heap} {K : PySem.W.Frag} (c : SaysZ fa fn ex xd w h K) (i : Nat) {d : XDef} (e : xd[i]? = some d := by rfl) : fnWX K d.cls = d.val := by
  have e2 : (xd.map fun d => fnWX K d.cls)[i]? = (xd.map XDef.val)[i]? := by rw [c.xs]
  rw [List.getElem?_map, List.getElem?_map, e] at e2
  exact Option.some.inj e2
end MP
set_option Elab.async false
set_option linter.all false
set_option maxRecDepth 100000
set_option maxHeartbeats 4000000
namespace TX
open PySem MP
def N_crossing_of : List Str := ["first", "second"]
def b_crossing_of : DS :=
 .seq (.ret (.tup (.cons (.o2 .min (.pk 0) (.pk 1)) (.cons (.o2 .max (.pk 0) (.pk 1)) (.nil)))))
 (.skip)
def N_law_cell : List Str := ["_law_script", "_law_k"]
def b_law_cell : DS :=
 .seq (.ifs (.o2 .lt (.pk 1) (.o1 .len (.pk 0)))
 (.seq (.ret (.o2 .ix (.pk 0) (.pk 1)))
 (.skip))
 (.skip))
 (.seq (.ret (.lit (.int 0)))
 (.skip))
def b_law_row_L1 : DS :=
 .seq (.app 3 (.o2 .mod (.o1 .int (.pk 2)) (.pk 5)))
 (.seq (.asg 2 (.o2 .fdiv (.pk 2) (.pk 5)))
 (.skip))
def b_law_row_L2 : DS :=
 .seq (.asg 4 (.o2 .mod (.o1 .int (.o2 .add (.o2 .mul (.pk 4) (.lit (.int 16807))) (.lit (.int 40692)))) (.lit (.int 2147483399))))
 (.seq (.app 3 (.o2 .mod (.o2 .fdiv (.o1 .int (.pk 4)) (.lit (.int 7))) (.pk 5)))
 (.skip))
def N_law_row : List Str := ["_law_cell_here", "_law_sizes", "_law_left", "_law_row_here", "_law_mixed", "_law_size"]
def b_law_row : DS :=
 .seq (.asg 2 (.o1 .abs (.o1 .int (.pk 0))))
 (.seq (.asg 3 (.lst (.nil)))
 (.seq (.ifs (.o2 .ge (.pk 2) (.o2 .pow (.lit (.int 10)) (.lit (.int 18))))
 (.seq (.asg 2 (.o2 .sub (.pk 2) (.o2 .pow (.lit (.int 10)) (.lit (.int 18)))))
 (.seq (.forS .seq (.cons (.pk 1) (.nil)) (.n 5) b_law_row_L1)
 (.seq (.ret (.mv 3))
 (.skip))))
 (.skip))
 (.seq (.asg 4 (.o2 .mod (.o1 .int (.o2 .add (.o2 .add (.o2 .mul (.pk 2) (.lit (.int 48271))) (.o2 .fdiv (.pk 2) (.lit (.int 5)))) (.lit (.int 11)))) (.lit (.int 2147483647))))
 (.seq (.forS .seq (.cons (.pk 1) (.nil)) (.n 5) b_law_row_L2)
 (.seq (.ret (.mv 3))
 (.skip))))))
def N_law_is_integer : List Str := ["_law_value"]
def b_law_is_integer : DS :=
 .seq (.ret (.and (.o1 (.isI .int) (.pk 0)) (.o1 .not (.o1 (.isI .bool) (.pk 0)))))
 (.skip)
def b_law_same_tuples_L1 : DS :=
 .seq (.ifs (.or (.o1 .not (.o1 (.isI .tup) (.o2 .ix (.pk 0) (.pk 2)))) (.o1 .not (.o1 .all (.comp .seq (.cons (.o2 .ix (.pk 0) (.pk 2)) (.nil)) (.n 3) [3] (.lit (.bl true)) (.call 4 (.cons (.pk 3) (.nil)))))))
 (.seq (.ret (.lit (.bl false)))
 (.skip))
 (.skip))
 (.seq (.ifs (.o2 .ne (.o2 .ix (.pk 0) (.pk 2)) (.o2 .ix (.pk 1) (.pk 2)))
 (.seq (.ret (.lit (.bl false)))
 (.skip))
 (.skip))
 (.skip))
def N_law_same_tuples : List Str := ["_law_told", "_law_due", "_law_k", "_law_item"]
def b_law_same_tuples : DS :=
 .seq (.ifs (.or (.o1 .not (.o1 (.isI .tup) (.pk 0))) (.o2 .ne (.o1 .len (.pk 0)) (.o1 .len (.pk 1))))
 (.seq (.ret (.lit (.bl false)))
 (.skip))
 (.skip))
 (.seq (.forS .rng1 (.cons (.o1 .len (.pk 1)) (.nil)) (.n 2) b_law_same_tuples_L1)
 (.seq (.ret (.lit (.bl true)))
 (.skip)))
def N_law_is_pane : List Str := ["_law_told", "_law_depths_here", "_law_seen_here", "_law_unseen_here", "_law_known_here"]
def b_law_is_pane : DS :=
 .seq (.ifs (.o1 .not (.o1 (.isI (.cls 0)) (.pk 0)))
 (.seq (.ret (.lit (.bl false)))
 (.skip))
 (.skip))
 (.seq (.ifs (.or (.o1 .not (.o1 (.isI .str) (.fld (.pk 0) "depths"))) (.o2 .ne (.fld (.pk 0) "depths") (.pk 1)))
 (.seq (.ret (.lit (.bl false)))
 (.skip))
 (.skip))
 (.seq (.ifs (.or (.o1 .not (.call 4 (.cons (.fld (.pk 0) "size") (.nil)))) (.o2 .ne (.fld (.pk 0) "size") (.o1 .len (.pk 1))))
 (.seq (.ret (.lit (.bl false)))
 (.skip))
 (.skip))
 (.seq (.ifs (.or (.o1 .not (.call 6 (.cons (.fld (.pk 0) "marks") (.cons (.pk 2) (.nil))))) (.o1 .not (.call 6 (.cons (.fld (.pk 0) "hidden") (.cons (.pk 3) (.nil))))))
 (.seq (.ret (.lit (.bl false)))
 (.skip))
 (.skip))
 (.seq (.ret (.call 6 (.cons (.fld (.pk 0) "notes") (.cons (.pk 4) (.nil)))))
 (.skip)))))
end TX
set_option Elab.async false
set_option linter.all false
set_option maxRecDepth 100000
set_option maxHeartbeats 4000000
namespace TX
open PySem MP
end TX
set_option Elab.async false
set_option linter.all false
set_option maxRecDepth 100000
set_option maxHeartbeats 4000000
namespace TX
open PySem MP
end TX
set_option Elab.async false
set_option linter.all false
set_option maxRecDepth 100000
set_option maxHeartbeats 4000000
namespace TX
open PySem MP
end TX
set_option Elab.async false
set_option linter.all false
set_option maxRecDepth 100000
set_option maxHeartbeats 4000000
namespace TX
open PySem MP
def b_refutes_L1 : DS :=
 .seq (.asg 6 (.o2 .ix (.pk 1) (.o2 .mod (.o2 .add (.pk 4) (.lit (.int 1))) (.o1 .len (.pk 1)))))
 (.seq (.asg 7 (.o2 .ix (.pk 2) (.pk 4)))
 (.seq (.ifs (.o2 .eq (.pk 7) (.lst (.nil)))
 (.seq (.ifs (.o1 .not (.call 51 (.cons (.pk 0) (.cons (.pk 3) (.cons (.pk 5) (.cons (.pk 6) (.nil)))))))
 (.seq (.ret (.lit (.bl false)))
 (.skip))
 (.skip))
 (.skip))
 (.seq (.ifs (.or (.o1 .not (.call 49 (.cons (.pk 0) (.cons (.pk 5) (.cons (.pk 6) (.nil)))))) (.o1 .not (.call 53 (.cons (.pk 0) (.cons (.pk 3) (.cons (.pk 7) (.cons (.pk 6) (.nil))))))))
 (.seq (.ret (.lit (.bl false)))
 (.skip))
 (.skip))
 (.skip)))
 (.skip)))
def N_refutes : List Str := ["pane", "ring", "chains", "notes", "index", "event", "later", "chain"]
def b_refutes : DS :=
 .seq (.expr (.call 52 (.cons (.pk 0) (.cons (.pk 3) (.nil)))))
 (.seq (.ifs (.or (.o2 .lt (.o1 .len (.pk 1)) (.lit (.int 2))) (.or (.o2 .ne (.o1 .len (.pk 2)) (.o1 .len (.pk 1))) (.o1 .not (.call 50 (.cons (.pk 0) (.cons (.pk 1) (.nil)))))))
 (.seq (.ret (.lit (.bl false)))
 (.skip))
 (.skip))
 (.seq (.forS .enum (.cons (.pk 1) (.nil)) (.p (.n 4) (.n 5)) b_refutes_L1)
 (.seq (.ret (.lit (.bl true)))
 (.skip))))
end TX
set_option Elab.async false
set_option linter.all false
set_option maxRecDepth 100000
set_option maxHeartbeats 4000000
namespace TX
open PySem MP
def b_law_same_tuples_v1_L1 : DS :=
 .seq (.ifs (.or (.o1 .not (.o1 (.isI .tup) (.o2 .ix (.pk 0) (.pk 2)))) (.o1 .not (.o1 .all (.comp .seq (.cons (.o2 .ix (.pk 0) (.pk 2)) (.nil)) (.n 3) [3] (.lit (.bl true)) (.call 4 (.cons (.pk 3) (.nil)))))))
 (.seq (.ret (.lit (.bl false)))
 (.skip))
 (.skip))
 (.seq (.ifs (.o2 .ne (.o2 .ix (.pk 0) (.pk 2)) (.o2 .ix (.pk 1) (.pk 2)))
 (.seq (.ret (.lit (.bl false)))
 (.skip))
 (.skip))
 (.skip))
def N_law_same_tuples_v1 : List Str := ["_law_told", "_law_due_here", "_law_k", "_law_item"]
def b_law_same_tuples_v1 : DS :=
 .seq (.ifs (.or (.o1 .not (.o1 (.isI .tup) (.pk 0))) (.o2 .ne (.o1 .len (.pk 0)) (.o1 .len (.pk 1))))
 (.seq (.ret (.lit (.bl false)))
 (.skip))
 (.skip))
 (.seq (.forS .rng1 (.cons (.o1 .len (.pk 1)) (.nil)) (.n 2) b_law_same_tuples_v1_L1)
 (.seq (.ret (.lit (.bl true)))
 (.skip)))
end TX
set_option Elab.async false
set_option linter.all false
set_option maxRecDepth 100000
set_option maxHeartbeats 4000000
namespace TX
open PySem MP
end TX
set_option Elab.async false
set_option linter.all false
set_option maxRecDepth 100000
set_option maxHeartbeats 4000000
namespace TX
open PySem MP
end TX
set_option Elab.async false
set_option linter.all false
set_option maxRecDepth 100000
set_option maxHeartbeats 4000000
namespace TX
open PySem MP
end TX
set_option Elab.async false
set_option linter.all false
set_option maxRecDepth 100000
set_option maxHeartbeats 4000000
namespace TX
open PySem MP
end TX
set_option Elab.async false
set_option linter.all false
set_option maxRecDepth 100000
set_option maxHeartbeats 4000000
namespace TX
open PySem MP
end TX
set_option Elab.async false
set_option linter.all false
set_option maxRecDepth 100000
set_option maxHeartbeats 4000000
namespace TX
open PySem MP
end TX
set_option Elab.async false
set_option linter.all false
set_option maxRecDepth 100000
set_option maxHeartbeats 4000000
namespace TX
open PySem MP
end TX
set_option Elab.async false
set_option linter.all false
set_option maxRecDepth 100000
set_option maxHeartbeats 4000000
namespace TX
open PySem MP
end TX
set_option Elab.async false
set_option linter.all false
set_option maxRecDepth 100000
set_option maxHeartbeats 4000000
namespace TX
open PySem MP
end TX
set_option Elab.async false
set_option linter.all false
set_option maxRecDepth 100000
set_option maxHeartbeats 4000000
namespace TX
open PySem MP
end TX
set_option Elab.async false
set_option linter.all false
set_option maxRecDepth 100000
set_option maxHeartbeats 4000000
namespace TX
open PySem MP
end TX
set_option Elab.async false
set_option linter.all false
set_option maxRecDepth 100000
set_option maxHeartbeats 4000000
namespace TX
open PySem MP
def b_check_depths_x_L1 : DS :=
 .seq (.ifs (.and (.o2 .ne (.pk 2) (.lit (.str "d"))) (.o2 .ne (.pk 2) (.lit (.str "s"))))
 (.seq (.rse 6 131 (.cons (.lit (.str "depths")) (.cons (.pk 1) (.nil))))
 (.skip))
 (.skip))
 (.skip)
def N_check_depths_x : List Str := ["depths", "index", "letter"]
def b_check_depths_x : DS :=
 .seq (.forS .enum (.cons (.pk 0) (.nil)) (.p (.n 1) (.n 2)) b_check_depths_x_L1)
 (.skip)
def b_check_crossings_x_L1 : DS :=
 .seq (.asg 5 (.and (.ch2 .le .lt (.lit (.int 0)) (.pk 6) (.pk 0)) (.ch2 .le .lt (.lit (.int 0)) (.pk 7) (.pk 0))))
 (.seq (.ifs (.or (.o1 .not (.pk 5)) (.or (.o2 .eq (.pk 6) (.pk 7)) (.o2 .isin (.call 0 (.cons (.pk 6) (.cons (.pk 7) (.nil)))) (.pk 3))))
 (.seq (.rse 6 131 (.cons (.lit (.str "marks")) (.cons (.pk 4) (.nil))))
 (.skip))
 (.skip))
 (.seq (.setI 3 (.call 0 (.cons (.pk 6) (.cons (.pk 7) (.nil)))) (.lit (.bl true)))
 (.skip)))
def b_check_crossings_x_L2 : DS :=
 .seq (.ifs (.or (.o1 .not (.ch3 .le .lt .lt (.lit (.int 0)) (.pk 8) (.pk 9) (.pk 0))) (.o2 .isin (.tup (.cons (.pk 8) (.cons (.pk 9) (.nil)))) (.pk 3)))
 (.seq (.rse 6 131 (.cons (.lit (.str "hidden")) (.cons (.pk 4) (.nil))))
 (.skip))
 (.skip))
 (.seq (.setI 3 (.tup (.cons (.pk 8) (.cons (.pk 9) (.nil)))) (.pk 10))
 (.skip))
def N_check_crossings_x : List Str := ["size", "marks", "hidden", "crossed", "index", "inside", "over", "under", "first", "second", "chip"]
def b_check_crossings_x : DS :=
 .seq (.asg 3 (.edict true))
 (.seq (.forS .enum (.cons (.pk 1) (.nil)) (.p (.n 4) (.p (.n 6) (.n 7))) b_check_crossings_x_L1)
 (.seq (.forS .enum (.cons (.pk 2) (.nil)) (.p (.n 4) (.t (.n 8) (.n 9) (.n 10))) b_check_crossings_x_L2)
 (.seq (.dem 3)
 (.skip))))
def b_check_notes_x_L1 : DS :=
 .seq (.asg 3 (.and (.ch2 .le .lt (.gl 0) (.pk 4) (.pk 0)) (.ch2 .le .lt (.gl 0) (.pk 5) (.pk 0))))
 (.seq (.ifs (.or (.o1 .not (.pk 3)) (.o2 .eq (.pk 4) (.pk 5)))
 (.seq (.rse 6 131 (.cons (.lit (.str "notes")) (.cons (.pk 2) (.nil))))
 (.skip))
 (.skip))
 (.skip))
def N_check_notes_x : List Str := ["size", "notes", "index", "inside", "earlier", "later"]
def b_check_notes_x : DS :=
 .seq (.forS .enum (.cons (.pk 1) (.nil)) (.p (.n 2) (.p (.n 4) (.n 5))) b_check_notes_x_L1)
 (.skip)
def N_law_is_pane_v3 : List Str := ["_law_told", "_law_depths", "_law_seen", "_law_unseen", "_law_known"]
def b_law_is_pane_v3 : DS :=
 .seq (.ifs (.o1 .not (.o1 (.isI (.cls 0)) (.pk 0)))
 (.seq (.ret (.lit (.bl false)))
 (.skip))
 (.skip))
 (.seq (.ifs (.or (.o1 .not (.o1 (.isI .str) (.fld (.pk 0) "depths"))) (.o2 .ne (.fld (.pk 0) "depths") (.pk 1)))
 (.seq (.ret (.lit (.bl false)))
 (.skip))
 (.skip))
 (.seq (.ifs (.or (.o1 .not (.call 4 (.cons (.fld (.pk 0) "size") (.nil)))) (.o2 .ne (.fld (.pk 0) "size") (.o1 .len (.pk 1))))
 (.seq (.ret (.lit (.bl false)))
 (.skip))
 (.skip))
 (.seq (.ifs (.or (.o1 .not (.call 6 (.cons (.fld (.pk 0) "marks") (.cons (.pk 2) (.nil))))) (.o1 .not (.call 6 (.cons (.fld (.pk 0) "hidden") (.cons (.pk 3) (.nil))))))
 (.seq (.ret (.lit (.bl false)))
 (.skip))
 (.skip))
 (.seq (.ret (.call 6 (.cons (.fld (.pk 0) "notes") (.cons (.pk 4) (.nil)))))
 (.skip)))))
def N_law_refusal : List Str := ["_law_depths", "_law_seen", "_law_unseen", "_law_known", "_law_handed", "_law_told", "e"]
def b_law_refusal : DS :=
 .seq (.asg 4 (.lst (.cons (.o1 .list (.pk 1)) (.cons (.o1 .list (.pk 2)) (.cons (.o1 .list (.pk 3)) (.nil))))))
 (.seq (.dem 4)
 (.seq (.asg 5 (.tup (.cons (.lit (.str "none")) (.cons (.o1 .neg (.lit (.int 1))) (.nil)))))
 (.seq (.dem 5)
 (.seq (.tryS 6 5 (some 6)
 (.seq (.expr (.call 20 (.cons (.pk 0) (.cons (.o2 .ix (.pk 4) (.lit (.int 0))) (.cons (.o2 .ix (.pk 4) (.lit (.int 1))) (.cons (.o2 .ix (.pk 4) (.lit (.int 2))) (.nil)))))))
 (.skip))
 (.seq (.asg 5 (.tup (.cons (.lit (.str "another error")) (.cons (.o1 .neg (.lit (.int 1))) (.nil)))))
 (.seq (.dem 5)
 (.seq (.ifs (.and (.xis 6 6) (.xisV 6))
 (.seq (.ifs (.and (.o1 (.isI .str) (.xfld 6 "part")) (.call 4 (.cons (.xfld 6 "index") (.nil))))
 (.seq (.asg 5 (.tup (.cons (.xfld 6 "part") (.cons (.xfld 6 "index") (.nil)))))
 (.seq (.dem 5)
 (.skip)))
 (.skip))
 (.skip))
 (.skip))
 (.skip)))))
 (.seq (.ifs (.o2 .ne (.pk 4) (.lst (.cons (.pk 1) (.cons (.pk 2) (.cons (.pk 3) (.nil))))))
 (.seq (.ret (.tup (.cons (.lit (.str "changed")) (.cons (.o1 .neg (.lit (.int 1))) (.nil)))))
 (.skip))
 (.skip))
 (.seq (.ret (.pk 5))
 (.skip)))))))
def N_law_sign : List Str := ["_law_kind", "_law_number", "_law_signs"]
def b_law_sign : DS :=
 .seq (.asg 2 (.lit (.str " !\"#$&'()*+,-./0123456789:;<=>?@ABCDEFGHIJKLMNOPQRSTUVWXYZ[\\]^_`")))
 (.seq (.asg 2 (.o2 .add (.pk 2) (.lit (.str "abcefghijklmnopqrtuvwxyz{|}~\n"))))
 (.seq (.dem 2)
 (.seq (.ifs (.o2 .eq (.pk 0) (.lit (.int 1)))
 (.seq (.ret (.o2 .ix (.lit (.str "DS")) (.o2 .mod (.o1 .int (.pk 1)) (.lit (.int 2)))))
 (.skip))
 (.skip))
 (.seq (.ret (.o2 .ix (.pk 2) (.o2 .mod (.o1 .int (.pk 1)) (.o1 .len (.pk 2)))))
 (.skip)))))
def b_law_due_v1_L1 : DS :=
 .seq (.ifs (.and (.o2 .ne (.o2 .ix (.pk 0) (.pk 4)) (.lit (.str "d"))) (.o2 .ne (.o2 .ix (.pk 0) (.pk 4)) (.lit (.str "s"))))
 (.seq (.ret (.tup (.cons (.lit (.str "depths")) (.cons (.pk 4) (.nil)))))
 (.skip))
 (.skip))
 (.skip)
def N_law_due_v1 : List Str := ["_law_depths", "_law_seen", "_law_unseen", "_law_known", "_law_k"]
def b_law_due_v1 : DS :=
 .seq (.forS .rng1 (.cons (.o1 .len (.pk 0)) (.nil)) (.n 4) b_law_due_v1_L1)
 (.seq (.ifs (.o2 .ne (.pk 1) (.lst (.nil)))
 (.seq (.ret (.tup (.cons (.lit (.str "marks")) (.cons (.lit (.int 0)) (.nil)))))
 (.skip))
 (.skip))
 (.seq (.ifs (.o2 .ne (.pk 2) (.lst (.nil)))
 (.seq (.ret (.tup (.cons (.lit (.str "hidden")) (.cons (.lit (.int 0)) (.nil)))))
 (.skip))
 (.skip))
 (.seq (.ifs (.o2 .ne (.pk 3) (.lst (.nil)))
 (.seq (.ret (.tup (.cons (.lit (.str "notes")) (.cons (.lit (.int 0)) (.nil)))))
 (.skip))
 (.skip))
 (.seq (.ret (.tup (.cons (.lit (.str "none")) (.cons (.o1 .neg (.lit (.int 1))) (.nil)))))
 (.skip)))))
def b_law_v17_L1 : DS :=
 .seq (.setI 2 (.o2 .mod (.o1 .int (.o2 .ix (.pk 3) (.o2 .mul (.lit (.int 3)) (.pk 4)))) (.o2 .ix (.pk 1) (.lit (.int 1)))) (.call 132 (.cons (.o2 .ix (.pk 3) (.o2 .add (.o2 .mul (.lit (.int 3)) (.pk 4)) (.lit (.int 1)))) (.cons (.o2 .ix (.pk 3) (.o2 .add (.o2 .mul (.lit (.int 3)) (.pk 4)) (.lit (.int 2)))) (.nil)))))
 (.skip)
def N_law_v17 : List Str := ["_law_script", "_law_head", "_law_letters", "_law_row_here", "_law_k", "_law_depths", "_law_seen", "_law_unseen", "_law_known", "_law_mended", "_law_bit", "_law_letter"]
def b_law_v17 : DS :=
 .seq (.asg 1 (.call 2 (.cons (.call 7 (.cons (.pk 0) (.cons (.lit (.int 0)) (.nil)))) (.cons (.lst (.cons (.lit (.int 4)) (.cons (.lit (.int 15)) (.cons (.lit (.int 3)) (.cons (.lit (.int 2)) (.cons (.lit (.int 2)) (.nil))))))) (.nil)))))
 (.seq (.dem 1)
 (.seq (.asg 2 (.comp .seq (.cons (.call 2 (.cons (.call 7 (.cons (.pk 0) (.cons (.lit (.int 1)) (.nil)))) (.cons (.o2 .mul (.lst (.cons (.lit (.int 2)) (.nil))) (.o2 .ix (.pk 1) (.lit (.int 1)))) (.nil)))) (.nil)) (.n 10) [10] (.lit (.bl true)) (.o2 .ix (.lit (.str "ds")) (.pk 10))))
 (.seq (.asg 3 (.call 2 (.cons (.call 7 (.cons (.pk 0) (.cons (.lit (.int 2)) (.nil)))) (.cons (.o2 .mul (.lst (.cons (.lit (.int 15)) (.cons (.lit (.int 3)) (.cons (.lit (.int 93)) (.nil))))) (.lit (.int 3))) (.nil)))))
 (.seq (.dem 3)
 (.seq (.forS .rng1 (.cons (.o2 .min (.o2 .ix (.lst (.cons (.lit (.int 1)) (.cons (.lit (.int 2)) (.cons (.lit (.int 3)) (.cons (.lit (.int 0)) (.nil)))))) (.o2 .ix (.pk 1) (.lit (.int 0)))) (.o2 .ix (.pk 1) (.lit (.int 1)))) (.nil)) (.n 4) b_law_v17_L1)
 (.seq (.dem 2)
 (.seq (.asg 5 (.mt .join (.lit (.str "")) (.pk 2)))
 (.seq (.asg 6 (.o2 .ix (.lst (.cons (.lst (.nil)) (.cons (.lst (.cons (.tup (.cons (.lit (.int 0)) (.cons (.lit (.int 0)) (.nil)))) (.nil))) (.cons (.lst (.cons (.tup (.cons (.lit (.int 50)) (.cons (.lit (.int 51)) (.nil)))) (.nil))) (.nil))))) (.o2 .ix (.pk 1) (.lit (.int 2)))))
 (.seq (.asg 7 (.o2 .ix (.lst (.cons (.lst (.nil)) (.cons (.lst (.cons (.tup (.cons (.lit (.int 1)) (.cons (.lit (.int 0)) (.cons (.lit (.int 7)) (.nil))))) (.nil))) (.nil)))) (.o2 .ix (.pk 1) (.lit (.int 3)))))
 (.seq (.asg 8 (.o2 .ix (.lst (.cons (.lst (.nil)) (.cons (.lst (.cons (.tup (.cons (.lit (.int 0)) (.cons (.lit (.int 0)) (.nil)))) (.nil))) (.nil)))) (.o2 .ix (.pk 1) (.lit (.int 4)))))
 (.seq (.ifs (.o2 .ne (.call 133 (.cons (.pk 5) (.cons (.pk 6) (.cons (.pk 7) (.cons (.pk 8) (.nil)))))) (.call 134 (.cons (.pk 5) (.cons (.pk 6) (.cons (.pk 7) (.cons (.pk 8) (.nil)))))))
 (.seq (.ret (.lit (.bl false)))
 (.skip))
 (.skip))
 (.seq (.ifs (.o2 .ne (.call 133 (.cons (.pk 5) (.cons (.lst (.nil)) (.cons (.lst (.nil)) (.cons (.lst (.nil)) (.nil)))))) (.call 134 (.cons (.pk 5) (.cons (.lst (.nil)) (.cons (.lst (.nil)) (.cons (.lst (.nil)) (.nil)))))))
 (.seq (.ret (.lit (.bl false)))
 (.skip))
 (.skip))
 (.seq (.asg 9 (.mt .join (.lit (.str "")) (.comp .seq (.cons (.pk 2) (.nil)) (.n 11) [11] (.lit (.bl true)) (.ite (.o2 .eq (.pk 11) (.lit (.str "s"))) (.lit (.str "s")) (.lit (.str "d"))))))
 (.seq (.ifs (.o2 .ne (.call 133 (.cons (.pk 9) (.cons (.pk 6) (.cons (.pk 7) (.cons (.pk 8) (.nil)))))) (.call 134 (.cons (.pk 9) (.cons (.pk 6) (.cons (.pk 7) (.cons (.pk 8) (.nil)))))))
 (.seq (.ret (.lit (.bl false)))
 (.skip))
 (.skip))
 (.seq (.ifs (.o1 .not (.call 25 (.cons (.call 21 (.cons (.pk 9) (.nil))) (.cons (.pk 9) (.cons (.lst (.nil)) (.cons (.lst (.nil)) (.cons (.lst (.nil)) (.nil))))))))
 (.seq (.ret (.lit (.bl false)))
 (.skip))
 (.skip))
 (.seq (.ret (.o2 .eq (.call 133 (.cons (.pk 5) (.cons (.pk 6) (.cons (.pk 7) (.cons (.pk 8) (.nil)))))) (.call 134 (.cons (.pk 5) (.cons (.pk 6) (.cons (.pk 7) (.cons (.pk 8) (.nil))))))))
 (.skip)))))))))))))))))
def N_Pane_x : List Str := ["self", "depths", "marks", "hidden", "notes"]
def b_Pane_x : DS :=
 .seq (.expr (.call 26 (.cons (.pk 1) (.nil))))
 (.seq (.expr (.call 27 (.cons (.o1 .len (.pk 1)) (.cons (.pk 2) (.cons (.pk 3) (.nil))))))
 (.seq (.expr (.call 28 (.cons (.o1 .len (.pk 1)) (.cons (.pk 4) (.nil)))))
 (.seq (.setA 0 "depths" (.pk 1))
 (.seq (.setA 0 "size" (.o1 .len (.pk 1)))
 (.seq (.setA 0 "marks" (.o1 .tuple (.pk 2)))
 (.seq (.setA 0 "hidden" (.o1 .tuple (.pk 3)))
 (.seq (.setA 0 "notes" (.o1 .tuple (.pk 4)))
 (.skip))))))))
def N_x_BadPane : List Str := ["self", "part", "index", "__class__"]
def xe_x_BadPane : DE := .o2 .add (.lit (.str "invalid item in the pane's ")) (.pk 1)
def xf_x_BadPane : List (Str × DE) := [("part", .pk 1),
  ("index", .pk 2)]
end TX
set_option Elab.async false
set_option linter.all false
set_option maxRecDepth 100000
set_option maxHeartbeats 4000000
namespace KX
open PySem PyProof.Rows
open MP TX
open L2 hiding St
abbrev topS (i : Nat) : Stmt := PySem.Challenge.pw_panescratches_k02_bad_depths.main.body.getD i (.Pass ⟨0, 0, 0, 0⟩)
def sg : List (Str × Sig) := [(("crossing_of" : Str), (⟨2, [], 0⟩ : Sig)),
 (("_law_is_integer" : Str), (⟨1, [], 4⟩ : Sig)),
 (("_law_same_tuples" : Str), (⟨2, [], 6⟩ : Sig)),
 (("Pane" : Str), (⟨1, ["marks", "hidden", "notes"], 20⟩ : Sig)),
 (("_law_row" : Str), (⟨2, [], 2⟩ : Sig)),
 (("_law_cell" : Str), (⟨2, [], 7⟩ : Sig)),
 (("_law_sign" : Str), (⟨2, [], 132⟩ : Sig)),
 (("_law_refusal" : Str), (⟨4, [], 133⟩ : Sig)),
 (("_law_due" : Str), (⟨4, [], 134⟩ : Sig)),
 (("_law_is_pane" : Str), (⟨5, [], 25⟩ : Sig)),
 (("Pane" : Str), (⟨1, [], 21⟩ : Sig)),
 (("check_depths" : Str), (⟨1, [], 26⟩ : Sig)),
 (("check_crossings" : Str), (⟨3, [], 27⟩ : Sig)),
 (("check_notes" : Str), (⟨2, [], 28⟩ : Sig))]
def gl : List (Str × Nat) := [(("POLISH" : Str), 0)]
def cl : List (Str × Nat) := [(("Pane" : Str), 0), (("BadPane" : Str), 6), (("PaneError" : Str), 5)]
def xg : List (Str × XSig) := [(("BadPane" : Str), (⟨2, 6, 131⟩ : XSig))]
def hs : List (Str × Sig) := [(("_law_is_integer" : Str), (⟨1, [], 4⟩ : Sig))]
theorem ch_law_is_integer : chkS b_law_is_integer (CC.ofH N_law_is_integer (defScope (topS 13)) gl cl hs) (.blk (defBody (topS 13))) = true := by decide +kernel
theorem c_crossing_of : chkS b_crossing_of (CC.of N_crossing_of (defScope (topS 5)) sg gl cl xg hs) (.blk (defBody (topS 5))) = true := by decide +kernel
theorem c_check_depths_x : chkS b_check_depths_x (CC.of N_check_depths_x (defScope (topS 6)) sg gl cl xg hs) (.blk (defBody (topS 6))) = true := by decide +kernel
theorem c_check_crossings_x : chkS b_check_crossings_x (CC.of N_check_crossings_x (defScope (topS 7)) sg gl cl xg hs) (.blk (defBody (topS 7))) = true := by decide +kernel
theorem c_check_notes_x : chkS b_check_notes_x (CC.of N_check_notes_x (defScope (topS 8)) sg gl cl xg hs) (.blk (defBody (topS 8))) = true := by decide +kernel
theorem c_law_cell : chkS b_law_cell (CC.of N_law_cell (defScope (topS 11)) sg gl cl xg hs) (.blk (defBody (topS 11))) = true := by decide +kernel
theorem c_law_row : chkS b_law_row (CC.of N_law_row (defScope (topS 12)) sg gl cl xg hs) (.blk (defBody (topS 12))) = true := by decide +kernel
theorem c_law_is_integer : chkS b_law_is_integer (CC.of N_law_is_integer (defScope (topS 13)) sg gl cl xg hs) (.blk (defBody (topS 13))) = true := by decide +kernel
theorem c_law_same_tuples_v1 : chkS b_law_same_tuples_v1 (CC.of N_law_same_tuples_v1 (defScope (topS 14)) sg gl cl xg hs) (.blk (defBody (topS 14))) = true := by decide +kernel
theorem c_law_is_pane_v3 : chkS b_law_is_pane_v3 (CC.of N_law_is_pane_v3 (defScope (topS 15)) sg gl cl xg hs) (.blk (defBody (topS 15))) = true := by decide +kernel
theorem c_law_refusal : chkS b_law_refusal (CC.of N_law_refusal (defScope (topS 16)) sg gl cl xg hs) (.blk (defBody (topS 16))) = true := by decide +kernel
theorem c_law_sign : chkS b_law_sign (CC.of N_law_sign (defScope (topS 17)) sg gl cl xg hs) (.blk (defBody (topS 17))) = true := by decide +kernel
theorem c_law_due_v1 : chkS b_law_due_v1 (CC.of N_law_due_v1 (defScope (topS 18)) sg gl cl xg hs) (.blk (defBody (topS 18))) = true := by decide +kernel
theorem c_law_v17 : chkS b_law_v17 (CC.of N_law_v17 (defScope (topS 19)) sg gl cl xg hs) (.blk (defBody (topS 19))) = true := by decide +kernel
abbrev m_Pane_x : Stmt := match topS 9 with | .ClassDef _ _ _ bd _ _ _ _ _ _ _ => bd.getD 0 (.Pass ⟨0, 0, 0, 0⟩) | s => s
theorem c_Pane_x : chkS b_Pane_x (CC.of N_Pane_x (defScope m_Pane_x) sg gl cl xg hs) (.blk (defBody m_Pane_x)) = true := by decide +kernel
abbrev m_x_BadPane : Stmt := match topS 2 with | .ClassDef _ _ _ bd _ _ _ _ _ _ _ => bd.getD 0 (.Pass ⟨0, 0, 0, 0⟩) | s => s
def s0_x_BadPane : Stmt := (defBody m_x_BadPane).getD 0 (.Pass ⟨0, 0, 0, 0⟩)
def sr_x_BadPane : List Stmt := (defBody m_x_BadPane).drop 1
def ex_x_BadPane : Expr := (dSup s0_x_BadPane).getD (.Name "x" ⟨0, 0, 0, 0⟩)
theorem cb_x_BadPane : defBody m_x_BadPane = s0_x_BadPane :: sr_x_BadPane := by rfl
theorem cd_x_BadPane : dSup s0_x_BadPane = some ex_x_BadPane := by rfl
theorem c0_x_BadPane : (nStar ex_x_BadPane && chk xe_x_BadPane ⟨N_x_BadPane, defScope m_x_BadPane, fun _ => false, sg, gl, cl, [], false, false, []⟩ (.e ex_x_BadPane)) = true := by decide +kernel
theorem c1_x_BadPane : chkI ⟨N_x_BadPane, defScope m_x_BadPane, fun _ => false, sg, gl, cl, [], false, false, []⟩ xf_x_BadPane sr_x_BadPane = true := by decide +kernel
def es : List (Nat × Ent) := [(0, .fn N_crossing_of.length b_crossing_of),
  (4, .fn N_law_is_integer.length b_law_is_integer),
  (6, .fn N_law_same_tuples_v1.length b_law_same_tuples_v1),
  (20, .cls 0 N_Pane_x.length b_Pane_x fun as => match as with | [p0, k_marks, k_hidden, k_notes] => [p0, k_marks, k_hidden, k_notes] | _ => []),
  (2, .fn N_law_row.length b_law_row),
  (7, .fn N_law_cell.length b_law_cell),
  (132, .fn N_law_sign.length b_law_sign),
  (133, .fn N_law_refusal.length b_law_refusal),
  (134, .fn N_law_due_v1.length b_law_due_v1),
  (25, .fn N_law_is_pane_v3.length b_law_is_pane_v3),
  (21, .cls 0 N_Pane_x.length b_Pane_x fun as => match as with | [p0] => [p0, .tup false [], .tup false [], .tup false []] | _ => []),
  (26, .fn N_check_depths_x.length b_check_depths_x),
  (27, .fn N_check_crossings_x.length b_check_crossings_x),
  (28, .fn N_check_notes_x.length b_check_notes_x),
  (131, .xi N_x_BadPane.length 6 xe_x_BadPane xf_x_BadPane)]
def glD : Nat → D := fun n => if n = 0 then .int (-1) else .non
def glV : Nat → V := fun n => if n = 0 then .int (-1) else .non
def isxL : List ((Nat × Nat) × Bool) := [((6, 6), true)]
def PhD : Tab := ⟨fun _ _ => .stuck, glD, fun c k => isxL.lookup (c, k)⟩
end KX
set_option Elab.async false
set_option linter.all false
set_option maxRecDepth 100000
set_option maxHeartbeats 1000000
namespace MP
open PySem L2
/-! ### plain rules of the interpretation, one a word -/
section
variable {Φ : Tab} {fuel : Nat} {δ : List D}
@[simp] theorem bind_ok {α β : Type} (a : α) (f : α → Res β) : (Res.ok a).bind f = f a := (rfl)
@[simp] theorem bind_stuck {α β : Type} (f : α → Res β) : (Res.stuck : Res α).bind f = .stuck := (rfl)
@[simp] theorem bind_exc {α β : Type} (x : Exn) (f : α → Res β) : (Res.exc x : Res α).bind f = .exc x := (rfl)
@[simp] theorem guardR_t {α : Type} (r : Res α) : guardR true r = r := (rfl)
@[simp] theorem guardR_f {α : Type} (r : Res α) : guardR false r = .stuck := (rfl)
theorem guardR_dec {α : Type} {p : Prop} [Decidable p] {r : Res α} (h : p) : guardR (decide p) r = r := by rw [decide_eq_true h]; rfl
theorem guardR_and {α : Type} {a b : Bool} {r : Res α} : guardR (a && b) r = guardR a (guardR b r) := by cases a <;> rfl
theorem guardR_of {α : Type} {b : Bool} {r : Res α} (h : b = true) : guardR b r = r := by rw [h]; rfl
@[simp] theorem guardS_t (r : SR) : guardS true r = r := (rfl)
@[simp] theorem guardS_f (r : SR) : guardS false r = .stuck := (rfl)
theorem guardS_dec {p : Prop} [Decidable p] {r : SR} (h : p) : guardS (decide p) r = r := by rw [decide_eq_true h]; rfl
theorem guardS_and {a b : Bool} {r : SR} : guardS (a && b) r = guardS a (guardS b r) := by cases a <;> rfl
@[simp] theorem of_ok {α : Type} (a : α) (f : α → SR) : SR.of (.ok a) δ f = f a := (rfl)
@[simp] theorem of_exc {α : Type} (x : Exn) (f : α → SR) : SR.of (.exc x : Res α) δ f = .exc x δ := (rfl)
@[simp] theorem of_stuck {α : Type} (f : α → SR) : SR.of (.stuck : Res α) δ f = .stuck := (rfl)
@[simp] theorem tk_t (d : D) : tkOk true (.ok d) = .ok d := (rfl)
@[simp] theorem tk_f (d : D) : tkOk false (.ok d) = guardR d.isSh (.ok d) := (rfl)
@[simp] theorem tk_exc (b : Bool) (x : Exn) : tkOk b (.exc x) = .exc x := (rfl)
@[simp] theorem out_t (d : D) : callOut true (.ok d) = .ok d := (rfl)
@[simp] theorem out_f (d : D) : callOut false (.ok d) = guardR d.leaf (.ok d) := (rfl)
@[simp] theorem out_exc (x : Exn) : callOut true (.exc x) = .exc x := (rfl)
def live : D → Res D
  | .dead => .stuck
  | d => .ok d
@[simp] theorem live_non : live .non = .ok .non := (rfl)
@[simp] theorem live_bl (b : Bool) : live (.bl b) = .ok (.bl b) := (rfl)
@[simp] theorem live_int (b : Int) : live (.int b) = .ok (.int b) := (rfl)
@[simp] theorem live_str (b : Str) : live (.str b) = .ok (.str b) := (rfl)
@[simp] theorem live_lst (o : Bool) (xs : List D) : live (.lst o xs) = .ok (.lst o xs) := (rfl)
@[simp] theorem live_tup (o : Bool) (xs : List D) : live (.tup o xs) = .ok (.tup o xs) := (rfl)
@[simp] theorem live_dct (o t : Bool) (ks vs : List D) : live (.dct o t ks vs) = .ok (.dct o t ks vs) := (rfl)
@[simp] theorem live_obj (o : Bool) (c : Nat) (ns : List Str) (vs : List D) : live (.obj o c ns vs) = .ok (.obj o c ns vs) := (rfl)
@[simp] theorem live_scr (ns : List Int) : live (.scr ns) = .ok (.scr ns) := (rfl)
theorem e_lit (d : D) : evalE Φ (.lit d) δ = .ok d := (rfl)
theorem e_gl (n : Nat) : evalE Φ (.gl n) δ = .ok (Φ.gl n) := (rfl)
theorem e_pk (i : Nat) : evalE Φ (.pk i) δ = live (gd δ i) := by
  unfold live; rw [evalE]; try (cases gd δ i <;> rfl)
theorem e_mv (i : Nat) : evalE Φ (.mv i) δ = live (gd δ i) := by
  unfold live; rw [evalE]; try (cases gd δ i <;> rfl)
theorem e_o1 (o : Op1) (a : DE) : evalE Φ (.o1 o a) δ = (evalE Φ a δ).bind (sem1 o) := (rfl)
theorem e_o2 (o : Op2) (a b : DE) : evalE Φ (.o2 o a b) δ = (evalE Φ a δ).bind fun x => (evalE Φ b δ).bind fun y => sem2 o x y := (rfl)
theorem e_mt (o : Op2) (a b : DE) : evalE Φ (.mt o a b) δ = (evalE Φ a δ).bind fun x => guardR (recv o x) ((evalE Φ b δ).bind fun y => sem2 o x y) := (rfl)
theorem e_o3 (o : Op3) (a b c : DE) : evalE Φ (.o3 o a b c) δ = (evalE Φ a δ).bind fun x => guardR x.isD ((evalE Φ b δ).bind fun y => (tkOk c.fr (evalE Φ c δ)).bind fun z => sem3 o x y z) := (rfl)
def rIf {α : Type} (z : D) (a b : Res α) : Res α := match z with
  | .bl true => a
  | .bl false => b
  | _ => .stuck
@[simp] theorem rIf_t {α : Type} (a b : Res α) : rIf (.bl true) a b = a := (rfl)
@[simp] theorem rIf_f {α : Type} (a b : Res α) : rIf (.bl false) a b = b := (rfl)
def rBl (z : D) : Res D := match z with
  | .bl k => .ok (.bl k)
  | _ => .stuck
@[simp] theorem rBl_b (k : Bool) : rBl (.bl k) = .ok (.bl k) := (rfl)
theorem e_ch2 (o p : Op2) (a b c : DE) : evalE Φ (.ch2 o p a b c) δ = (evalE Φ a δ).bind fun x => (evalE Φ b δ).bind fun y => (sem2 o x y).bind fun z => rIf z ((evalE Φ c δ).bind fun w => sem2 p y w) (.ok (.bl false)) := by
  rw [evalE]; exact (rfl)
theorem e_ch3 (o p q : Op2) (a b c d : DE) : evalE Φ (.ch3 o p q a b c d) δ = (evalE Φ a δ).bind fun x => (evalE Φ b δ).bind fun y => (sem2 o x y).bind fun z => rIf z ((evalE Φ c δ).bind fun w => (sem2 p y w).bind fun z => rIf z ((evalE Φ d δ).bind fun u => sem2 q w u) (.ok (.bl false))) (.ok (.bl false)) := by
  rw [evalE]; exact (rfl)
theorem e_sl (a lo hi : DE) : evalE Φ (.sl a lo hi) δ = (evalE Φ a δ).bind fun x => (evalE Φ lo δ).bind fun y => guardR (partD lo.noPart y).isSome ((evalE Φ hi δ).bind fun z => guardR (partD hi.noPart z).isSome (semSl lo.noPart hi.noPart x y z)) := (rfl)
theorem e_and (a b : DE) : evalE Φ (.and a b) δ = (evalE Φ a δ).bind fun x => rIf x ((evalE Φ b δ).bind rBl) (.ok (.bl false)) := by
  rw [evalE]; exact (rfl)
theorem e_or (a b : DE) : evalE Φ (.or a b) δ = (evalE Φ a δ).bind fun x => rIf x (.ok (.bl true)) ((evalE Φ b δ).bind rBl) := by
  rw [evalE]; exact (rfl)
theorem e_ite (c a b : DE) : evalE Φ (.ite c a b) δ = (evalE Φ c δ).bind fun x => rIf x (evalE Φ a δ) (evalE Φ b δ) := by
  rw [evalE]; exact (rfl)
theorem e_edict (t : Bool) : evalE Φ (.edict t) δ = .ok (.dct true t [] []) := (rfl)
theorem e_lst (as : DE) : evalE Φ (.lst as) δ = (evalT Φ as δ).bind fun xs => guardR (decide (xs.length ≤ 100000)) (.ok (dispL as.movs.isEmpty xs)) := (rfl)
theorem e_tup (as : DE) : evalE Φ (.tup as) δ = (evalT Φ as δ).bind fun xs => guardR (decide (xs.length ≤ 100000)) (.ok (dispT as.movs.isEmpty xs)) := (rfl)
theorem e_call (f : Nat) (as : DE) : evalE Φ (.call f as) δ = (evalL Φ as δ).bind fun xs => callOut (D.isShL xs) (Φ.fn f (D.flatL xs)) := (rfl)
def fldR (x : Option D) : Res D := match x with
  | some d => guardR d.isSh (.ok d)
  | none => .stuck
@[simp] theorem fldR_some (d : D) : fldR (some d) = guardR d.isSh (.ok d) := (rfl)
theorem e_fld (a : DE) (f : Str) : evalE Φ (.fld a f) δ = (evalE Φ a δ).bind fun x => fldR (x.getF f) := (rfl)
def compR (Φ : Tab) (tg : Tg) (c b : DE) (δ : List D) (o : Option (List D)) : Res D := match o with
  | some ys => match compL tg δ (fun δ' => evalE Φ c δ') (fun δ' => guardR b.movs.isEmpty (tkOk b.fr (evalE Φ b δ'))) ys with
    | .ok zs => guardR (decide (ys.length ≤ 100000)) (.ok (.lst true (D.flatL zs)))
    | _ => .stuck
  | none => .stuck
theorem e_comp (k : IK) (src : DE) (tg : Tg) (own : List Nat) (c b : DE) : evalE Φ (.comp k src tg own c b) δ = (evalL Φ src δ).bind fun xs => guardR (srcSh k xs) (compR Φ tg c b (wipeD δ own) (itemsOf k (D.flatL xs))) := by
  rfl
theorem l_nil : evalL Φ .nil δ = .ok [] := (rfl)
theorem l_cons (a r : DE) : evalL Φ (.cons a r) δ = (evalE Φ a δ).bind fun x => (evalL Φ r δ).bind fun xs => .ok ((bif a.fr then x.flat else x) :: xs) := (rfl)
theorem t_nil : evalT Φ .nil δ = .ok [] := (rfl)
theorem t_cons (a r : DE) : evalT Φ (.cons a r) δ = (tkOk a.fr (evalE Φ a δ)).bind fun x => (evalT Φ r δ).bind fun xs => .ok (x :: xs) := (rfl)
def sThen (r : SR) (f : List D → SR) : SR := match r with
  | .nx δ => f δ
  | o => o
@[simp] theorem sThen_nx (f : List D → SR) : sThen (.nx δ) f = f δ := (rfl)
@[simp] theorem sThen_rt (d : D) (f : List D → SR) : sThen (.rt d) f = .rt d := (rfl)
@[simp] theorem sThen_bk (f : List D → SR) : sThen (.bk δ) f = .bk δ := (rfl)
@[simp] theorem sThen_ct (f : List D → SR) : sThen (.ct δ) f = .ct δ := (rfl)
@[simp] theorem sThen_exc (x : Exn) (f : List D → SR) : sThen (.exc x δ) f = .exc x δ := (rfl)
@[simp] theorem sThen_stuck (f : List D → SR) : sThen .stuck f = .stuck := (rfl)
theorem s_skip : evalS Φ fuel .skip δ = .nx δ := (rfl)
theorem s_nev : evalS Φ fuel .nev δ = .stuck := (rfl)
theorem s_seq (a b : DS) : evalS Φ fuel (.seq a b) δ = sThen (evalS Φ fuel a δ) (fun δ2 => evalS Φ fuel b δ2) := by
  rw [evalS]; unfold sThen; rfl
theorem s_asg (i : Nat) (e : DE) : evalS Φ fuel (.asg i e) δ = SR.of (tkOk e.fr (evalE Φ e δ)) δ fun d => guardS (decide (i < δ.length) && nodupB e.movs) (.nx ((kill e.movs δ).set i d)) := (rfl)
def sOpt (o : Option (List D)) : SR := match o with
  | some δ2 => .nx δ2
  | none => .stuck
@[simp] theorem sOpt_some (δ : List D) : sOpt (some δ) = .nx δ := (rfl)
theorem s_asgT (t : Tg) (e : DE) : evalS Φ fuel (.asgT t e) δ = SR.of (tkOk e.fr (evalE Φ e δ)) δ fun d => guardS (nodupB e.movs) (sOpt (tgSet t d (kill e.movs δ))) := (rfl)
def sPar (i j : Nat) (as : DE) (δ : List D) (xs : List D) : SR := match xs with
    | [x, y] => guardS (nodupB as.movs && decide (i < δ.length) && decide (j < δ.length) && decide (i ≠ j)) (.nx (((kill as.movs δ).set i x).set j y))
    | _ => .stuck
@[simp] theorem sPar_2 (i j : Nat) (as : DE) (x y : D) : sPar i j as δ [x, y] = guardS (nodupB as.movs && decide (i < δ.length) && decide (j < δ.length) && decide (i ≠ j)) (.nx (((kill as.movs δ).set i x).set j y)) := (rfl)
theorem s_par (i j : Nat) (as : DE) : evalS Φ fuel (.par i j as) δ = SR.of (evalT Φ as δ) δ (sPar i j as δ) := by
  rw [evalS]; exact (rfl)
def sAug (i : Nat) (o : Op2) (δ : List D) (w : D) (r : Res D) : SR := match w with
    | .int a => SR.of r δ fun y => match o, y with
      | .add, .int b => .nx (δ.set i (.int (a + b)))
      | .sub, .int b => .nx (δ.set i (.int (a - b)))
      | _, _ => .stuck
    | .lst true xs => SR.of r δ fun y => match o, y with
      | .add, .lst _ ys => guardS (decide (xs.length + ys.length ≤ 100000) && D.isShL xs && D.isShL ys) (.nx (δ.set i (.lst true (xs ++ ys))))
      | _, _ => .stuck
    | _ => .stuck
theorem s_aug (i : Nat) (o : Op2) (e : DE) : evalS Φ fuel (.aug i o e) δ = sAug i o δ (gd δ i) (evalE Φ e δ) := by
  rw [evalS]; unfold sAug; rfl
@[simp] theorem sAug_add (i : Nat) (a b : Int) : sAug i .add δ (.int a) (.ok (.int b)) = .nx (δ.set i (.int (a + b))) := (rfl)
@[simp] theorem sAug_sub (i : Nat) (a b : Int) : sAug i .sub δ (.int a) (.ok (.int b)) = .nx (δ.set i (.int (a - b))) := (rfl)
@[simp] theorem sAug_lst (i : Nat) (xs ys : List D) (o : Bool) : sAug i .add δ (.lst true xs) (.ok (.lst o ys)) = guardS (decide (xs.length + ys.length ≤ 100000) && D.isShL xs && D.isShL ys) (.nx (δ.set i (.lst true (xs ++ ys)))) := (rfl)
def sIf (x : D) (a b : SR) : SR := match x with
  | .bl true => a
  | .bl false => b
  | _ => .stuck
@[simp] theorem sIf_t (a b : SR) : sIf (.bl true) a b = a := (rfl)
@[simp] theorem sIf_f (a b : SR) : sIf (.bl false) a b = b := (rfl)
theorem s_ifs (c : DE) (a b : DS) : evalS Φ fuel (.ifs c a b) δ = SR.of (evalE Φ c δ) δ fun x => sIf x (evalS Φ fuel a δ) (evalS Φ fuel b δ) := by
  rw [evalS]; exact (rfl)
def sFor (tg : Tg) (b : List D → SR) (δ : List D) (o : Option (List D)) : SR := match o with
  | some ys => forL tg b ys δ
  | none => .stuck
@[simp] theorem sFor_some (tg : Tg) (b : List D → SR) (ys : List D) : sFor tg b δ (some ys) = forL tg b ys δ := (rfl)
theorem s_for (k : IK) (src : DE) (tg : Tg) (b : DS) : evalS Φ fuel (.forS k src tg b) δ = SR.of (evalL Φ src δ) δ fun xs => guardS (D.isShL xs) (sFor tg (fun δ' => evalS Φ fuel b δ') δ (itemsOf k (D.flatL xs))) := (rfl)
theorem s_whl (c : DE) (b : DS) : evalS Φ fuel (.whl c b) δ = whileL (fun δ' => evalE Φ c δ') (fun δ' => evalS Φ fuel b δ') fuel δ := (rfl)
theorem s_ret (e : DE) : evalS Φ fuel (.ret e) δ = SR.of (tkOk e.fr (evalE Φ e δ)) δ fun d => guardS (nodupB e.movs) (.rt d) := (rfl)
theorem s_retN : evalS Φ fuel .retN δ = .rt .non := (rfl)
theorem s_brk : evalS Φ fuel .brk δ = .bk δ := (rfl)
theorem s_cnt : evalS Φ fuel .cnt δ = .ct δ := (rfl)
theorem s_expr (e : DE) : evalS Φ fuel (.expr e) δ = SR.of (evalE Φ e δ) δ fun _ => .nx δ := (rfl)
def sApp (i : Nat) (e : DE) (δ : List D) (w : D) (r : Res D) : SR := match w with
  | .lst true xs => SR.of r δ fun d => guardS (nodupB (i :: e.movs) && decide (xs.length < 100000)) (.nx ((kill e.movs δ).set i (.lst true (xs ++ [d.flat]))))
  | _ => .stuck
theorem s_app (i : Nat) (e : DE) : evalS Φ fuel (.app i e) δ = sApp i e δ (gd δ i) (tkOk e.fr (evalE Φ e δ)) := by
  rw [evalS]; unfold sApp; rfl
@[simp] theorem sApp_l (i : Nat) (e : DE) (xs : List D) (d : D) : sApp i e δ (.lst true xs) (.ok d) = guardS (nodupB (i :: e.movs) && decide (xs.length < 100000)) (.nx ((kill e.movs δ).set i (.lst true (xs ++ [d.flat])))) := (rfl)
def sAppPop (j i : Nat) (δ : List D) (w u : D) (r : Res D) : SR := match w, u with
    | .lst true ys, .lst true xs => SR.of r δ fun y => match y with
      | .int n => match xs[n.toNat]? with
        | some d => guardS (decide (i ≠ j) && D.isShL xs && decide (0 ≤ n) && decide (n ≤ 100000) && decide (ys.length < 100000)) (.nx ((δ.set i (.lst true (xs.eraseIdx n.toNat))).set j (.lst true (ys ++ [d]))))
        | none => .stuck
      | _ => .stuck
    | _, _ => .stuck
theorem s_appPop (j i : Nat) (k : DE) : evalS Φ fuel (.appPop j i k) δ = sAppPop j i δ (gd δ j) (gd δ i) (evalE Φ k δ) := by
  rw [evalS]; unfold sAppPop; rfl
def sSet (i : Nat) (k e : DE) (δ : List D) (w : D) (r : Res D) (d : D) : SR := match w with
    | .lst true xs => SR.of r δ fun x => match x with
      | .int n => match ixN xs.length n with
        | some j => guardS ((bif e.fr then e.movs.isEmpty else d.isSh) && D.isShL xs) (.nx (δ.set i (.lst true (xs.set j (bif e.fr then d.flat else d)))))
        | none => .stuck
      | _ => .stuck
    | .dct true t ks vs => SR.of r δ fun x => guardS (d.isSh && D.isShL vs && x.okKey t && x.isSh && decide (ks.length < 100000)) (.nx (δ.set i (.dct true t (dput t x d ks vs).1 (dput t x d ks vs).2)))
    | _ => .stuck
theorem s_setI (i : Nat) (k e : DE) : evalS Φ fuel (.setI i k e) δ = SR.of (evalE Φ e δ) δ (sSet i k e δ (gd δ i) (evalE Φ k δ)) := by
  rw [evalS]; exact (rfl)
@[simp] theorem sSet_d (i : Nat) (k e : DE) (t : Bool) (ks vs : List D) (x d : D) : sSet i k e δ (.dct true t ks vs) (.ok x) d = guardS (d.isSh && D.isShL vs && x.okKey t && x.isSh && decide (ks.length < 100000)) (.nx (δ.set i (.dct true t (dput t x d ks vs).1 (dput t x d ks vs).2))) := (rfl)
def sSetL (i : Nat) (e : DE) (δ : List D) (xs : List D) (d : D) (o : Option Nat) : SR := match o with
        | some j => guardS ((bif e.fr then e.movs.isEmpty else d.isSh) && D.isShL xs) (.nx (δ.set i (.lst true (xs.set j (bif e.fr then d.flat else d)))))
        | none => .stuck
@[simp] theorem sSetL_s (i : Nat) (e : DE) (xs : List D) (d : D) (j : Nat) : sSetL i e δ xs d (some j) = guardS ((bif e.fr then e.movs.isEmpty else d.isSh) && D.isShL xs) (.nx (δ.set i (.lst true (xs.set j (bif e.fr then d.flat else d))))) := (rfl)
@[simp] theorem sSet_l (i : Nat) (k e : DE) (xs : List D) (n : Int) (d : D) : sSet i k e δ (.lst true xs) (.ok (.int n)) d = sSetL i e δ xs d (ixN xs.length n) := (rfl)
def sRev (i : Nat) (δ : List D) (w : D) : SR := match w with
  | .lst true ys => guardS (D.isShL ys) (.nx (δ.set i (.lst true ys.reverse)))
  | _ => .stuck
theorem s_rev (i : Nat) : evalS Φ fuel (.rev i) δ = sRev i δ (gd δ i) := by
  rw [evalS]; unfold sRev; rfl
@[simp] theorem sRev_l (i : Nat) (ys : List D) : sRev i δ (.lst true ys) = guardS (D.isShL ys) (.nx (δ.set i (.lst true ys.reverse))) := (rfl)
def sClr (i : Nat) (δ : List D) (w : D) : SR := match w with
  | .lst true ys => .nx (δ.set i (.lst true []))
  | _ => .stuck
theorem s_clr (i : Nat) : evalS Φ fuel (.clr i) δ = sClr i δ (gd δ i) := by
  rw [evalS]; unfold sClr; rfl
@[simp] theorem sClr_l (i : Nat) (ys : List D) : sClr i δ (.lst true ys) = .nx (δ.set i (.lst true [])) := (rfl)
def sIns (i : Nat) (δ : List D) (w : D) (r s : Res D) : SR := match w with
    | .lst true ys => SR.of r δ fun x => SR.of s δ fun y => match x with
      | .int n => guardS (D.isShL ys && decide (0 ≤ n) && decide (n ≤ 100000) && decide (ys.length < 100000)) (.nx (δ.set i (.lst true (ys.take n.toNat ++ (y.flat :: ys.drop n.toNat)))))
      | _ => .stuck
    | _ => .stuck
theorem s_ins (i : Nat) (a b : DE) : evalS Φ fuel (.ins i a b) δ = sIns i δ (gd δ i) (evalE Φ a δ) (tkOk b.fr (evalE Φ b δ)) := by
  rw [evalS]; unfold sIns; rfl
@[simp] theorem sIns_l (i : Nat) (ys : List D) (n : Int) (y : D) : sIns i δ (.lst true ys) (.ok (.int n)) (.ok y) = guardS (D.isShL ys && decide (0 ≤ n) && decide (n ≤ 100000) && decide (ys.length < 100000)) (.nx (δ.set i (.lst true (ys.take n.toNat ++ (y.flat :: ys.drop n.toNat))))) := (rfl)
def sPop (i : Nat) (δ : List D) (w : D) (r : Res D) : SR := match w with
    | .lst true xs => SR.of r δ fun y => match y with
      | .int n => guardS (D.isShL xs && decide (0 ≤ n) && decide (n ≤ 100000) && decide (n.toNat < xs.length)) (.nx (δ.set i (.lst true (xs.eraseIdx n.toNat))))
      | _ => .stuck
    | _ => .stuck
theorem s_pop (i : Nat) (k : DE) : evalS Φ fuel (.pop i k) δ = sPop i δ (gd δ i) (evalE Φ k δ) := by
  rw [evalS]; unfold sPop; rfl
@[simp] theorem sPop_l (i : Nat) (xs : List D) (n : Int) : sPop i δ (.lst true xs) (.ok (.int n)) = guardS (D.isShL xs && decide (0 ≤ n) && decide (n ≤ 100000) && decide (n.toNat < xs.length)) (.nx (δ.set i (.lst true (xs.eraseIdx n.toNat)))) := (rfl)
def sSd2 (i : Nat) (δ : List D) (t : Bool) (ks vs : List D) (x y : D) (o : Option D) : SR := match o with
        | some _ => match sdAdd t x y ks vs with
          | some vs' => .nx (δ.set i (.dct true t ks vs'))
          | none => .stuck
        | none => .nx (δ.set i (.dct true t (ks ++ [x]) (vs ++ [.lst true [y]])))
def sSd (i : Nat) (δ : List D) (w : D) (r s : Res D) : SR := match w with
    | .dct true t ks vs => SR.of r δ fun x => match s with
      | .ok y => guardS (!t && x.okKey t && flatD y && decide (ks.length < 100000)) (sSd2 i δ t ks vs x y (dlook t x ks vs))
      | _ => .stuck
    | _ => .stuck
theorem s_sdApp (i : Nat) (k e : DE) : evalS Φ fuel (.sdApp i k e) δ = sSd i δ (gd δ i) (evalE Φ k δ) (evalE Φ e (δ.set i .dead)) := by
  rw [evalS]; unfold sSd sSd2; rfl
@[simp] theorem sSd_d (i : Nat) (t : Bool) (ks vs : List D) (x y : D) : sSd i δ (.dct true t ks vs) (.ok x) (.ok y) = guardS (!t && x.okKey t && flatD y && decide (ks.length < 100000)) (sSd2 i δ t ks vs x y (dlook t x ks vs)) := (rfl)
def sAg3 (i : Nat) (o : Op2) (δ : List D) (t : Bool) (ks vs : List D) (x : D) (a : Int) (y : D) : SR := match o, y with
  | .add, .int b => .nx (δ.set i (.dct true t (dput t x (.int (a + b)) ks vs).1 (dput t x (.int (a + b)) ks vs).2))
  | .sub, .int b => .nx (δ.set i (.dct true t (dput t x (.int (a - b)) ks vs).1 (dput t x (.int (a - b)) ks vs).2))
  | _, _ => .stuck
@[simp] theorem sAg3_add (i : Nat) (t : Bool) (ks vs : List D) (x : D) (a b : Int) : sAg3 i .add δ t ks vs x a (.int b) = .nx (δ.set i (.dct true t (dput t x (.int (a + b)) ks vs).1 (dput t x (.int (a + b)) ks vs).2)) := (rfl)
@[simp] theorem sAg3_sub (i : Nat) (t : Bool) (ks vs : List D) (x : D) (a b : Int) : sAg3 i .sub δ t ks vs x a (.int b) = .nx (δ.set i (.dct true t (dput t x (.int (a - b)) ks vs).1 (dput t x (.int (a - b)) ks vs).2)) := (rfl)
def sAg2 (i : Nat) (o : Op2) (δ : List D) (t : Bool) (ks vs : List D) (x : D) (r : Res D) (w : Option D) : SR := match w with
  | some (.int a) => guardS (D.isShL vs && x.okKey t && x.isSh && decide (ks.length < 100000)) (SR.of r δ (sAg3 i o δ t ks vs x a))
  | _ => .stuck
@[simp] theorem sAg2_s (i : Nat) (o : Op2) (t : Bool) (ks vs : List D) (x : D) (r : Res D) (a : Int) : sAg2 i o δ t ks vs x r (some (.int a)) = guardS (D.isShL vs && x.okKey t && x.isSh && decide (ks.length < 100000)) (SR.of r δ (sAg3 i o δ t ks vs x a)) := (rfl)
def sAg (i : Nat) (o : Op2) (δ : List D) (w : D) (r s : Res D) : SR := match w with
  | .dct true t ks vs => SR.of r δ fun x => sAg2 i o δ t ks vs x s (dlook t x ks vs)
  | _ => .stuck
theorem s_augI (i : Nat) (k : DE) (o : Op2) (e : DE) : evalS Φ fuel (.augI i k o e) δ = sAg i o δ (gd δ i) (evalE Φ k δ) (evalE Φ e δ) := by
  rw [evalS]; unfold sAg sAg2 sAg3; rfl
@[simp] theorem sAg_d (i : Nat) (o : Op2) (t : Bool) (ks vs : List D) (r s : Res D) : sAg i o δ (.dct true t ks vs) r s = SR.of r δ fun x => sAg2 i o δ t ks vs x s (dlook t x ks vs) := (rfl)
def sPopL (i : Nat) (δ : List D) (w : D) : SR := match w with
  | .lst true ys => guardS (D.isShL ys && !ys.isEmpty) (.nx (δ.set i (.lst true ys.dropLast)))
  | _ => .stuck
theorem s_popL (i : Nat) : evalS Φ fuel (.popL i) δ = sPopL i δ (gd δ i) := by
  rw [evalS]; unfold sPopL; rfl
@[simp] theorem sPopL_l (i : Nat) (ys : List D) : sPopL i δ (.lst true ys) = guardS (D.isShL ys && !ys.isEmpty) (.nx (δ.set i (.lst true ys.dropLast))) := (rfl)
theorem e_fz (a : DE) : evalE Φ (.fz a) δ = (evalE Φ a δ).bind fun x => .ok x.flat := (rfl)
theorem e_dict1 (a b : DE) : evalE Φ (.dict1 a b) δ = (evalE Φ a δ).bind fun x => (evalE Φ b δ).bind fun y => guardR (x.okKey false && y.isSh) (.ok (.dct true false [x] [y])) := (rfl)
def dcompR (Φ : Tab) (tg : Tg) (c a b : DE) (δ : List D) (o : Option (List D)) : Res D := match o with
  | some ys => match compD tg δ (fun δ' => evalE Φ c δ') (fun δ' => evalE Φ a δ') (fun δ' => evalE Φ b δ') ys [] [] with
    | .ok zs => guardR (decide (ys.length ≤ 100000)) (.ok (.dct true false zs.1 zs.2))
    | _ => .stuck
  | none => .stuck
theorem e_dcomp (k : IK) (src : DE) (tg : Tg) (own : List Nat) (c a b : DE) : evalE Φ (.dcomp k src tg own c a b) δ = (evalL Φ src δ).bind fun xs => guardR (srcSh k xs) (dcompR Φ tg c a b (wipeD δ own) (itemsOf k (D.flatL xs))) := by
  rfl
theorem s_rse (c n : Nat) (as : DE) : evalS Φ fuel (.rse c n as) δ = SR.of ((evalL Φ as δ).bind fun xs => guardR (D.isShL xs && decide (xs.length ≤ 900)) (rseR c (Φ.fn n xs))) δ fun _ => .stuck := by
  rw [evalS]
@[simp] theorem rseR_x (c : Nat) (ns : List Str) (vs : List D) : rseR c (.exc ⟨c, ns, vs⟩) = .exc ⟨c, ns, vs⟩ := if_pos rfl
theorem s_tryA (c cC : Nat) (oi : Option Nat) (b : DS) (h : HS) : evalS Φ fuel (.tryA c cC oi b h) δ = tryR c oi h (evalS Φ fuel b δ) := by
  rw [evalS]
@[simp] theorem tryR_nx (c : Nat) (oi : Option Nat) (h : HS) (δ : List D) : tryR c oi h (.nx δ) = .nx δ := (rfl)
@[simp] theorem tryR_rt (c : Nat) (oi : Option Nat) (h : HS) (d : D) : tryR c oi h (.rt d) = .rt d := (rfl)
@[simp] theorem tryR_x (c : Nat) (oi : Option Nat) (h : HS) (ns : List Str) (vs δ : List D) : tryR c oi h (.exc ⟨c, ns, vs⟩ δ) = guardS (oiLt oi δ) (hsGo ⟨c, ns, vs⟩ oi δ h) := if_pos rfl
@[simp] theorem oiLt_s (i : Nat) (δ : List D) : oiLt (some i) δ = decide (i < δ.length) := (rfl)
@[simp] theorem oiLt_n (δ : List D) : oiLt none δ = true := (rfl)
/-- a try with a suite of its own -/
def tryB (Φ : Tab) (fuel c : Nat) (oi : Option Nat) (s : DS) (r : SR) : SR := trySR c oi (fun δ' => evalS Φ fuel s δ') r
theorem s_tryS (c cC : Nat) (oi : Option Nat) (b s : DS) : evalS Φ fuel (.tryS c cC oi b s) δ = tryB Φ fuel c oi s (evalS Φ fuel b δ) := by
  rw [evalS]; exact (rfl)
@[simp] theorem tryB_nx (c : Nat) (oi : Option Nat) (s : DS) (δ : List D) : tryB Φ fuel c oi s (.nx δ) = .nx δ := (rfl)
@[simp] theorem tryB_rt (c : Nat) (oi : Option Nat) (s : DS) (d : D) : tryB Φ fuel c oi s (.rt d) = .rt d := (rfl)
@[simp] theorem tryB_x (c : Nat) (oi : Option Nat) (s : DS) (ns : List Str) (vs δ : List D) : tryB Φ fuel c oi s (.exc ⟨c, ns, vs⟩ δ) = guardS (oiLt oi δ) (sxOut oi (evalS Φ fuel s (setX oi ⟨c, ns, vs⟩ δ))) := if_pos rfl
@[simp] theorem setX_s (i : Nat) (x : Exn) (δ : List D) : setX (some i) x δ = δ.set i (.exn x.c x.ns x.vs) := (rfl)
@[simp] theorem setX_n (x : Exn) (δ : List D) : setX none x δ = δ := (rfl)
@[simp] theorem sxOut_nx (oi : Option Nat) (δ : List D) : sxOut oi (.nx δ) = guardS (D.noxL (wipeI oi δ)) (.nx (wipeI oi δ)) := (rfl)
@[simp] theorem sxOut_rt (oi : Option Nat) (d : D) : sxOut oi (.rt d) = guardS d.nox (.rt d) := (rfl)
theorem sxOut_ite (oi : Option Nat) (c : Prop) [Decidable c] (a b : SR) : sxOut oi (if c then a else b) = if c then sxOut oi a else sxOut oi b := by split <;> rfl
@[simp] theorem wipeI_s (i : Nat) (δ : List D) : wipeI (some i) δ = δ.set i .dead := (rfl)
@[simp] theorem wipeI_n (δ : List D) : wipeI none δ = δ := (rfl)
def xfR (f : Str) (w : D) : Res D := match w with
  | .exn _ ns vs => fldR ((ns.zip vs).lookup f)
  | _ => .stuck
theorem e_xfld (i : Nat) (f : Str) : evalE Φ (.xfld i f) δ = xfR f (gd δ i) := by
  rw [evalE]; exact (rfl)
@[simp] theorem xfR_x (f : Str) (c : Nat) (ns : List Str) (vs : List D) : xfR f (.exn c ns vs) = fldR ((ns.zip vs).lookup f) := (rfl)
def xisR (o : Option Bool) : Res D := match o with
  | some b => .ok (.bl b)
  | none => .stuck
@[simp] theorem xisR_some (b : Bool) : xisR (some b) = .ok (.bl b) := (rfl)
def xiR (g : Nat → Option Bool) (w : D) : Res D := match w with
  | .exn c _ _ => xisR (g c)
  | _ => .stuck
theorem e_xis (i k : Nat) : evalE Φ (.xis i k) δ = xiR (fun c => Φ.isx c k) (gd δ i) := by
  rw [evalE]; exact (rfl)
theorem e_xisV (i : Nat) : evalE Φ (.xisV i) δ = xiR (fun _ => some true) (gd δ i) := by
  rw [evalE]; exact (rfl)
@[simp] theorem xiR_x (g : Nat → Option Bool) (c : Nat) (ns : List Str) (vs : List D) : xiR g (.exn c ns vs) = xisR (g c) := (rfl)
def sRem (i : Nat) (δ : List D) (w : D) (r : Res D) : SR := match w with
    | .lst true xs => SR.of r δ fun y => match y, intsOf xs with
      | .int k, some ns => guardS (ns.contains k) (.nx (δ.set i (.lst true ((ns.erase k).map .int))))
      | _, _ => .stuck
    | _ => .stuck
theorem s_rem (i : Nat) (a : DE) : evalS Φ fuel (.rem i a) δ = sRem i δ (gd δ i) (evalE Φ a δ) := by
  rw [evalS]; unfold sRem; rfl
def sAtt (i : Nat) (f : Str) (e : DE) (δ : List D) (w d : D) : SR := match w with
    | .obj true c ns vs => guardS (nodupB (i :: e.movs) && !ns.contains f && decide (ns.length < 900)) (.nx ((kill e.movs δ).set i (.obj true c (ns ++ [f]) (vs ++ [d]))))
    | _ => .stuck
theorem s_setA (i : Nat) (f : Str) (e : DE) : evalS Φ fuel (.setA i f e) δ = SR.of (tkOk e.fr (evalE Φ e δ)) δ (sAtt i f e δ (gd δ i)) := by
  rw [evalS]; exact (rfl)
@[simp] theorem sAtt_o (i : Nat) (f : Str) (e : DE) (c : Nat) (ns : List Str) (vs : List D) (d : D) : sAtt i f e δ (.obj true c ns vs) d = guardS (nodupB (i :: e.movs) && !ns.contains f && decide (ns.length < 900)) (.nx ((kill e.movs δ).set i (.obj true c (ns ++ [f]) (vs ++ [d])))) := (rfl)
theorem s_dem (i : Nat) : evalS Φ fuel (.dem i) δ = .nx (δ.set i (gd δ i).flat) := (rfl)
/-- a body's end -/
def fin (r : SR) : Res D := match r with
  | .nx _ => .ok .non
  | .rt d => .ok d
  | .exc x _ => .exc x
  | _ => .stuck
@[simp] theorem fin_nx : fin (.nx δ) = .ok .non := (rfl)
@[simp] theorem fin_rt (d : D) : fin (.rt d) = .ok d := (rfl)
@[simp] theorem fin_exc (x : Exn) : fin (.exc x δ) = .exc x := (rfl)
@[simp] theorem fin_stuck : fin .stuck = .stuck := (rfl)
theorem run_fin (n : Nat) (b : DS) (as : List D) : runF Φ fuel n b as = fin (evalS Φ fuel b (as ++ List.replicate (n - as.length) .dead)) := by
  unfold runF fin; rfl
end
theorem gd_0 (a : D) (r : List D) : gd (a :: r) 0 = a := (rfl)
theorem gd_s (a : D) (r : List D) (n : Nat) : gd (a :: r) (n + 1) = gd r n := (rfl)
theorem tgSet_n {i : Nat} {d : D} {δ : List D} : tgSet (.n i) d δ = if i < δ.length then some (δ.set i d) else none := (rfl)
theorem tgSet_p2 {a b : Tg} {o : Bool} {x y : D} {δ : List D} : tgSet (.p a b) (.tup o [x, y]) δ = (tgSet a x δ).bind (tgSet b y) := (rfl)
theorem tgSet_t3 {a b c : Tg} {o : Bool} {x y z : D} {δ : List D} : tgSet (.t a b c) (.tup o [x, y, z]) δ = ((tgSet a x δ).bind (tgSet b y)).bind (tgSet c z) := (rfl)
end MP
set_option Elab.async false
set_option linter.all false
set_option maxRecDepth 100000
set_option maxHeartbeats 1000000
namespace MM
open PySem L2 MP
/-! ### data: shared, flat, equal -/
def dTri (p : Int × Int × Int) : D := .tup false [.int p.1, .int p.2.1, .int p.2.2]
@[simp] theorem sh_nil : D.isShL [] = true := (rfl)
@[simp] theorem sh_cons (d : D) (r : List D) : D.isShL (d :: r) = (d.isSh && D.isShL r) := (rfl)
theorem sh_app (a b : List D) : D.isShL (a ++ b) = (D.isShL a && D.isShL b) := by
  induction a with
  | nil => rfl
  | cons x r ih => show (x.isSh && D.isShL (r ++ b)) = ((x.isSh && D.isShL r) && D.isShL b); rw [ih, Bool.and_assoc]
theorem sh_all (a : List D) : D.isShL a = true ↔ ∀ d ∈ a, d.isSh = true := by
  induction a with
  | nil => simp
  | cons x r ih => simp [ih]
theorem sh_map {α : Type} {f : α → D} (h : ∀ a, (f a).isSh = true) (l : List α) : D.isShL (l.map f) = true := by
  rw [sh_all]; intro d hd; obtain ⟨a, _, rfl⟩ := List.mem_map.mp hd; exact h a
@[simp] theorem sh_int (i : Int) : (D.int i).isSh = true := (rfl)
@[simp] theorem sh_bl (i : Bool) : (D.bl i).isSh = true := (rfl)
@[simp] theorem sh_str (i : Str) : (D.str i).isSh = true := (rfl)
@[simp] theorem sh_non : D.non.isSh = true := (rfl)
@[simp] theorem sh_scr (i : List Int) : (D.scr i).isSh = true := (rfl)
@[simp] theorem sh_lst (o : Bool) (xs : List D) : (D.lst o xs).isSh = (!o && D.isShL xs) := (rfl)
@[simp] theorem sh_tup (o : Bool) (xs : List D) : (D.tup o xs).isSh = (!o && D.isShL xs) := (rfl)
@[simp] theorem sh_obj (o : Bool) (c : Nat) (ns : List Str) (xs : List D) : (D.obj o c ns xs).isSh = (!o && D.isShL xs) := (rfl)
@[simp] theorem sh_dct (o t : Bool) (ns : List D) (xs : List D) : (D.dct o t ns xs).isSh = (!o && D.isShL xs) := (rfl)
@[simp] theorem sh_pair (p : Int × Int) : (dPair p).isSh = true := (rfl)
@[simp] theorem sh_tri (p : Int × Int × Int) : (dTri p).isSh = true := (rfl)
@[simp] theorem shl_ints (l : List Int) : D.isShL (l.map D.int) = true := sh_map (fun _ => rfl) l
@[simp] theorem shl_strs (l : List Str) : D.isShL (l.map D.str) = true := sh_map (fun _ => rfl) l
@[simp] theorem shl_bls (l : List Bool) : D.isShL (l.map D.bl) = true := sh_map (fun _ => rfl) l
@[simp] theorem shl_pairs (l : List (Int × Int)) : D.isShL (l.map dPair) = true := sh_map (fun _ => rfl) l
@[simp] theorem shl_tris (l : List (Int × Int × Int)) : D.isShL (l.map dTri) = true := sh_map (fun _ => rfl) l
@[simp] theorem nox_nil : D.noxL [] = true := (rfl)
@[simp] theorem nox_cons (d : D) (r : List D) : D.noxL (d :: r) = (d.nox && D.noxL r) := (rfl)
theorem nox_map {α : Type} {f : α → D} (h : ∀ a, (f a).nox = true) (l : List α) : D.noxL (l.map f) = true := by
  induction l with
  | nil => rfl
  | cons a r ih => show ((f a).nox && D.noxL (r.map f)) = true; rw [h a, ih]; rfl
@[simp] theorem nox_int (i : Int) : (D.int i).nox = true := (rfl)
@[simp] theorem nox_bl (i : Bool) : (D.bl i).nox = true := (rfl)
@[simp] theorem nox_str (i : Str) : (D.str i).nox = true := (rfl)
@[simp] theorem nox_non : D.non.nox = true := (rfl)
@[simp] theorem nox_dead : D.dead.nox = true := (rfl)
@[simp] theorem nox_scr (i : List Int) : (D.scr i).nox = true := (rfl)
@[simp] theorem nox_lst (o : Bool) (xs : List D) : (D.lst o xs).nox = D.noxL xs := (rfl)
@[simp] theorem nox_tup (o : Bool) (xs : List D) : (D.tup o xs).nox = D.noxL xs := (rfl)
@[simp] theorem nox_obj (o : Bool) (c : Nat) (ns : List Str) (xs : List D) : (D.obj o c ns xs).nox = D.noxL xs := (rfl)
@[simp] theorem nox_dct (o t : Bool) (ns : List D) (xs : List D) : (D.dct o t ns xs).nox = D.noxL xs := (rfl)
@[simp] theorem nox_pair (p : Int × Int) : (dPair p).nox = true := (rfl)
@[simp] theorem nox_tri (p : Int × Int × Int) : (dTri p).nox = true := (rfl)
@[simp] theorem nox_ints (l : List Int) : D.noxL (l.map D.int) = true := nox_map (fun _ => rfl) l
@[simp] theorem nox_strs (l : List Str) : D.noxL (l.map D.str) = true := nox_map (fun _ => rfl) l
@[simp] theorem nox_bls (l : List Bool) : D.noxL (l.map D.bl) = true := nox_map (fun _ => rfl) l
@[simp] theorem nox_pairs (l : List (Int × Int)) : D.noxL (l.map dPair) = true := nox_map (fun _ => rfl) l
@[simp] theorem nox_tris (l : List (Int × Int × Int)) : D.noxL (l.map dTri) = true := nox_map (fun _ => rfl) l
@[simp] theorem dInt_eq : dInt = D.int := (rfl)
mutual
theorem flat_sh : ∀ d : D, d.isSh = true → d.flat = d
  | .dead, _ => rfl
  | .non, _ => rfl
  | .bl _, _ => rfl
  | .int _, _ => rfl
  | .str _, _ => rfl
  | .scr _, _ => rfl
  | .exn .., h => nomatch h
  | .lst o xs, h => by
    rw [sh_lst, Bool.and_eq_true] at h
    have ho : o = false := by cases o <;> simp_all
    subst ho
    show D.lst false (D.flatL xs) = _
    rw [flatL_sh xs h.2]
  | .tup o xs, h => by
    rw [sh_tup, Bool.and_eq_true] at h
    have ho : o = false := by cases o <;> simp_all
    subst ho
    show D.tup false (D.flatL xs) = _
    rw [flatL_sh xs h.2]
  | .dct o t ks vs, h => by
    rw [sh_dct, Bool.and_eq_true] at h
    have ho : o = false := by cases o <;> simp_all
    subst ho
    show D.dct false t ks (D.flatL vs) = _
    rw [flatL_sh vs h.2]
  | .obj o c ns vs, h => by
    rw [sh_obj, Bool.and_eq_true] at h
    have ho : o = false := by cases o <;> simp_all
    subst ho
    show D.obj false c ns (D.flatL vs) = _
    rw [flatL_sh vs h.2]
theorem flatL_sh : ∀ xs : List D, D.isShL xs = true → D.flatL xs = xs
  | [], _ => rfl
  | d :: r, h => by
    rw [sh_cons, Bool.and_eq_true] at h
    show d.flat :: D.flatL r = _
    rw [flat_sh d h.1, flatL_sh r h.2]
end
@[simp] theorem fl_int (i : Int) : (D.int i).flat = .int i := (rfl)
@[simp] theorem fl_bl (i : Bool) : (D.bl i).flat = .bl i := (rfl)
@[simp] theorem fl_str (i : Str) : (D.str i).flat = .str i := (rfl)
@[simp] theorem fl_non : D.non.flat = .non := (rfl)
@[simp] theorem fl_dead : D.dead.flat = .dead := (rfl)
@[simp] theorem fl_scr (i : List Int) : (D.scr i).flat = .scr i := (rfl)
@[simp] theorem fl_lst (o : Bool) (xs : List D) : (D.lst o xs).flat = .lst false (D.flatL xs) := (rfl)
@[simp] theorem fl_tup (o : Bool) (xs : List D) : (D.tup o xs).flat = .tup false (D.flatL xs) := (rfl)
@[simp] theorem fl_obj (o : Bool) (c : Nat) (ns : List Str) (xs : List D) : (D.obj o c ns xs).flat = .obj false c ns (D.flatL xs) := (rfl)
@[simp] theorem fl_dct (o t : Bool) (ks xs : List D) : (D.dct o t ks xs).flat = .dct false t ks (D.flatL xs) := (rfl)
@[simp] theorem fl_pair (p : Int × Int) : (dPair p).flat = dPair p := (rfl)
@[simp] theorem fl_tri (p : Int × Int × Int) : (dTri p).flat = dTri p := (rfl)
@[simp] theorem fll_nil : D.flatL [] = [] := (rfl)
@[simp] theorem fll_cons (d : D) (r : List D) : D.flatL (d :: r) = d.flat :: D.flatL r := (rfl)
@[simp] theorem fll_ints (l : List Int) : D.flatL (l.map D.int) = l.map D.int := flatL_sh _ (shl_ints l)
@[simp] theorem fll_strs (l : List Str) : D.flatL (l.map D.str) = l.map D.str := flatL_sh _ (shl_strs l)
@[simp] theorem fll_bls (l : List Bool) : D.flatL (l.map D.bl) = l.map D.bl := flatL_sh _ (shl_bls l)
@[simp] theorem fll_pairs (l : List (Int × Int)) : D.flatL (l.map dPair) = l.map dPair := flatL_sh _ (shl_pairs l)
@[simp] theorem fll_tris (l : List (Int × Int × Int)) : D.flatL (l.map dTri) = l.map dTri := flatL_sh _ (shl_tris l)
@[simp] theorem fll_app (a b : List D) : D.flatL (a ++ b) = D.flatL a ++ D.flatL b := by
  induction a with
  | nil => rfl
  | cons x r ih => show x.flat :: D.flatL (r ++ b) = _; rw [ih]; rfl
@[simp] theorem leaf_bl (b : Bool) : (D.bl b).leaf = true := (rfl)
@[simp] theorem leaf_int (b : Int) : (D.int b).leaf = true := (rfl)
@[simp] theorem leaf_str (b : Str) : (D.str b).leaf = true := (rfl)
@[simp] theorem leaf_non : D.non.leaf = true := (rfl)
@[simp] theorem leaf_lst (o : Bool) (xs : List D) : (D.lst o xs).leaf = (o && xs.all flatD) := (rfl)
/-- data of at most n floors -/
def GD (n : Nat) (d : D) : Prop := d.dat = true ∧ d.py.canLay0 = true ∧ d.py.depth ≤ n
theorem gd_int (i : Int) : GD 0 (.int i) := ⟨rfl, by simp [D.py, PyData.canLay0], by simp [D.py, PyData.depth]⟩
theorem gd_bl (i : Bool) : GD 0 (.bl i) := ⟨rfl, by simp [D.py, PyData.canLay0], by simp [D.py, PyData.depth]⟩
theorem gd_non : GD 0 .non := ⟨rfl, by simp [D.py, PyData.canLay0], by simp [D.py, PyData.depth]⟩
theorem gd_str {x : Str} (h : PyData.strOk x = true) : GD 0 (.str x) := ⟨rfl, by simpa [D.py, PyData.canLay0] using h, by simp [D.py, PyData.depth]⟩
theorem gd_list {n : Nat} : ∀ {xs : List D}, (∀ d ∈ xs, GD n d) → D.datL xs = true ∧ PyData.canLayAll0 (D.pyL xs) = true ∧ PyData.depthAll (D.pyL xs) ≤ n
  | [], _ => ⟨rfl, by simp [D.pyL, PyData.canLayAll0], by simp [D.pyL, PyData.depthAll]⟩
  | d :: r, h => by
    obtain ⟨a, b, c⟩ := gd_list (fun d hd => h d (List.mem_cons_of_mem _ hd))
    obtain ⟨a', b', c'⟩ := h d List.mem_cons_self
    refine ⟨?_, ?_, ?_⟩
    · show (d.dat && D.datL r) = true; rw [a, a']; rfl
    · simp [D.pyL, PyData.canLayAll0, b, b']
    · simp [D.pyL, PyData.depthAll]; omega
theorem gd_lst {n : Nat} {o : Bool} {xs : List D} (h : ∀ d ∈ xs, GD n d) : GD (n + 1) (.lst o xs) := by
  obtain ⟨a, b, c⟩ := gd_list h
  refine ⟨a, ?_, ?_⟩
  · simpa [D.py, PyData.canLay0] using b
  · simp [D.py, PyData.depth]; omega
theorem gd_tup {n : Nat} {o : Bool} {xs : List D} (h : ∀ d ∈ xs, GD n d) : GD (n + 1) (.tup o xs) := by
  obtain ⟨a, b, c⟩ := gd_list h
  refine ⟨a, ?_, ?_⟩
  · simpa [D.py, PyData.canLay0] using b
  · simp [D.py, PyData.depth]; omega
theorem GD.ok {n : Nat} {d : D} (h : GD n d) (k : n ≤ 64 := by decide) : d.eqOk = true := by
  unfold D.eqOk SeqAt.shaped
  rw [h.1, h.2.1]
  have := h.2.2
  simp; omega
theorem gd_map {n : Nat} {α : Type} {f : α → D} (h : ∀ a, GD n (f a)) (l : List α) : ∀ d ∈ l.map f, GD n d := by
  intro d hd; obtain ⟨a, _, rfl⟩ := List.mem_map.mp hd; exact h a
theorem gd_pair (p : Int × Int) : GD 1 (dPair p) := gd_tup (by intro d hd; simp at hd; rcases hd with rfl | rfl <;> exact gd_int _)
theorem gd_tri (p : Int × Int × Int) : GD 1 (dTri p) := gd_tup (by intro d hd; simp at hd; rcases hd with rfl | rfl | rfl <;> exact gd_int _)
@[simp] theorem eo_int (i : Int) : (D.int i).eqOk = true := (gd_int i).ok
@[simp] theorem eo_bl (i : Bool) : (D.bl i).eqOk = true := (gd_bl i).ok
@[simp] theorem eo_non : D.non.eqOk = true := gd_non.ok
theorem eo_str {x : Str} (h : PyData.strOk x = true) : (D.str x).eqOk = true := (gd_str h).ok
@[simp] theorem eo_pair (p : Int × Int) : (dPair p).eqOk = true := (gd_pair p).ok
@[simp] theorem eo_tri (p : Int × Int × Int) : (dTri p).eqOk = true := (gd_tri p).ok
@[simp] theorem eo_ints (o : Bool) (l : List Int) : (D.lst o (l.map D.int)).eqOk = true := (gd_lst (gd_map gd_int l)).ok
@[simp] theorem eo_pairs (o : Bool) (l : List (Int × Int)) : (D.lst o (l.map dPair)).eqOk = true := (gd_lst (gd_map gd_pair l)).ok
@[simp] theorem eo_tris (o : Bool) (l : List (Int × Int × Int)) : (D.lst o (l.map dTri)).eqOk = true := (gd_lst (gd_map gd_tri l)).ok
@[simp] theorem eo_pairsT (o : Bool) (l : List (Int × Int)) : (D.tup o (l.map dPair)).eqOk = true := (gd_tup (gd_map gd_pair l)).ok
@[simp] theorem eo_intsT (o : Bool) (l : List Int) : (D.tup o (l.map D.int)).eqOk = true := (gd_tup (gd_map gd_int l)).ok
@[simp] theorem eo_trisT (o : Bool) (l : List (Int × Int × Int)) : (D.tup o (l.map dTri)).eqOk = true := (gd_tup (gd_map gd_tri l)).ok
@[simp] theorem eo_nil (o : Bool) : (D.lst o []).eqOk = true := (gd_lst (n := 0) (by simp)).ok
@[simp] theorem eo_tupi (o : Bool) (a b : Int) : (D.tup o [.int a, .int b]).eqOk = true := (gd_pair (a, b)).ok
@[simp] theorem eo_tup3 (o : Bool) (a b c : Int) : (D.tup o [.int a, .int b, .int c]).eqOk = true := (gd_tri (a, b, c)).ok
/-! equality -/
@[simp] theorem ev_int (i j : Int) : D.eqv (.int i) (.int j) = decide (i = j) := by simp [D.eqv, D.py, PyData.eqv]; rfl
@[simp] theorem ev_bl (i j : Bool) : D.eqv (.bl i) (.bl j) = decide (i = j) := by simp [D.eqv, D.py, PyData.eqv]; cases i <;> cases j <;> rfl
@[simp] theorem ev_str (i j : Str) : D.eqv (.str i) (.str j) = decide (i = j) := by
  simp only [D.eqv, D.py, PyData.eqv]
  rw [Bool.eq_iff_iff]; simp
def eqL : List D → List D → Bool
  | [], [] => true
  | x :: xs, y :: ys => D.eqv x y && eqL xs ys
  | _, _ => false
theorem eqL_py : ∀ xs ys : List D, PyData.eqvAll (D.pyL xs) (D.pyL ys) = eqL xs ys
  | [], [] => by simp [D.pyL, PyData.eqvAll, eqL]
  | [], _ :: _ => by simp [D.pyL, PyData.eqvAll, eqL]
  | _ :: _, [] => by simp [D.pyL, PyData.eqvAll, eqL]
  | x :: xs, y :: ys => by
    have := eqL_py xs ys
    simp [D.pyL, PyData.eqvAll, eqL, this, D.eqv]
theorem ev_lst (o p : Bool) (xs ys : List D) : D.eqv (.lst o xs) (.lst p ys) = eqL xs ys := by
  simp only [D.eqv, D.py, PyData.eqv, eqL_py]
theorem ev_tup (o p : Bool) (xs ys : List D) : D.eqv (.tup o xs) (.tup p ys) = eqL xs ys := by
  simp only [D.eqv, D.py, PyData.eqv, eqL_py]
def EqF {α : Type} [DecidableEq α] (f : α → D) : Prop := ∀ a b, D.eqv (f a) (f b) = decide (a = b)
theorem eqL_map {α : Type} [DecidableEq α] {f : α → D} (h : EqF f) : ∀ a b : List α, eqL (a.map f) (b.map f) = decide (a = b)
  | [], [] => by simp [eqL]
  | [], _ :: _ => by simp [eqL]
  | _ :: _, [] => by simp [eqL]
  | x :: xs, y :: ys => by
    simp only [List.map_cons, eqL, h x y, eqL_map h xs ys]
    rw [Bool.eq_iff_iff]; simp
theorem ef_int : EqF D.int := ev_int
theorem ef_pair : EqF dPair := fun a b => by
  unfold dPair
  rw [ev_tup]
  simp only [eqL, ev_int, Bool.and_true]
  rw [Bool.eq_iff_iff]; simp [Prod.ext_iff]
theorem ef_tri : EqF dTri := fun a b => by
  unfold dTri
  rw [ev_tup]
  simp only [eqL, ev_int, Bool.and_true]
  rw [Bool.eq_iff_iff]; simp [Prod.ext_iff]
@[simp] theorem ev_pair (p q : Int × Int) : D.eqv (dPair p) (dPair q) = decide (p = q) := ef_pair p q
@[simp] theorem ev_tri (p q : Int × Int × Int) : D.eqv (dTri p) (dTri q) = decide (p = q) := ef_tri p q
@[simp] theorem ev_ints (o p : Bool) (a b : List Int) : D.eqv (.lst o (a.map D.int)) (.lst p (b.map D.int)) = decide (a = b) := by rw [ev_lst, eqL_map ef_int]
@[simp] theorem ev_pairs (o p : Bool) (a b : List (Int × Int)) : D.eqv (.lst o (a.map dPair)) (.lst p (b.map dPair)) = decide (a = b) := by rw [ev_lst, eqL_map ef_pair]
@[simp] theorem ev_tris (o p : Bool) (a b : List (Int × Int × Int)) : D.eqv (.lst o (a.map dTri)) (.lst p (b.map dTri)) = decide (a = b) := by rw [ev_lst, eqL_map ef_tri]
@[simp] theorem ev_tupi (o p : Bool) (a b c d : Int) : D.eqv (.tup o [.int a, .int b]) (.tup p [.int c, .int d]) = decide ((a, b) = (c, d)) := by
  have := ef_pair (a, b) (c, d)
  unfold dPair at this
  rw [ev_tup] at this ⊢
  exact this
@[simp] theorem ev_lnil (o p : Bool) (xs : List D) : D.eqv (.lst o xs) (.lst p []) = xs.isEmpty := by
  rw [ev_lst]; cases xs <;> simp [eqL]
theorem any_map {α : Type} [DecidableEq α] {f : α → D} (h : EqF f) (l : List α) (x : α) : ((l.map f).any fun y => D.eqv y (f x)) = decide (x ∈ l) := by
  rw [Bool.eq_iff_iff]
  simp only [List.any_eq_true, List.mem_map, decide_eq_true_eq]
  constructor
  · rintro ⟨_, ⟨a, ha, rfl⟩, e⟩
    rw [h, decide_eq_true_eq] at e
    exact e ▸ ha
  · intro hx
    exact ⟨f x, ⟨x, hx, rfl⟩, by rw [h]; simp⟩
@[simp] theorem any_ints (l : List Int) (x : Int) : ((l.map D.int).any fun y => D.eqv y (.int x)) = decide (x ∈ l) := any_map ef_int l x
@[simp] theorem any_pairs (l : List (Int × Int)) (x : Int × Int) : ((l.map dPair).any fun y => D.eqv y (dPair x)) = decide (x ∈ l) := by rw [any_map ef_pair l x]; congr
@[simp] theorem any_pairs2 (l : List (Int × Int)) (a b : Int) : ((l.map dPair).any fun y => D.eqv y (.tup false [.int a, .int b])) = decide ((a, b) ∈ l) := by rw [show D.tup false [.int a, .int b] = dPair (a, b) from rfl, any_map ef_pair l (a, b)]; congr
@[simp] theorem fd_ints (l : List Int) : (l.map D.int).all flatD = true := by simp [flatD]
@[simp] theorem fd_strs (l : List Str) : (l.map D.str).all flatD = true := by simp [flatD]
@[simp] theorem fd_int (i : Int) : flatD (.int i) = true := (rfl)
@[simp] theorem fd_str (i : Str) : flatD (.str i) = true := (rfl)
@[simp] theorem fd_tup (o : Bool) (xs : List D) : flatD (.tup o xs) = false := (rfl)
@[simp] theorem fd_pair (p : Int × Int) : flatD (dPair p) = false := (rfl)
@[simp] theorem fd_lst (o : Bool) (xs : List D) : flatD (.lst o xs) = false := (rfl)
@[simp] theorem fd_non : flatD .non = true := (rfl)
@[simp] theorem fd_bl (i : Bool) : flatD (.bl i) = true := (rfl)
@[simp] theorem io_ints : ∀ l : List Int, intsOf (l.map D.int) = some l
  | [] => rfl
  | x :: r => by
    show (intsOf (r.map D.int)).map (x :: ·) = _
    rw [io_ints r]; rfl
@[simp] theorem po_pairs : ∀ l : List (Int × Int), pairsOf (l.map dPair) = some l
  | [] => rfl
  | x :: r => by
    show (pairsOf (r.map dPair)).map ((x.1, x.2) :: ·) = _
    rw [po_pairs r]; rfl
@[simp] theorem bo_bls : ∀ l : List Bool, boolsOf (l.map D.bl) = some l
  | [] => rfl
  | x :: r => by
    show (boolsOf (r.map D.bl)).map (x :: ·) = _
    rw [bo_bls r]; rfl
@[simp] theorem so_strs : ∀ l : List Str, strsOf (l.map D.str) = some l
  | [] => rfl
  | x :: r => by
    show (strsOf (r.map D.str)).map (x :: ·) = _
    rw [so_strs r]; rfl
end MM
set_option Elab.async false
set_option linter.all false
set_option maxRecDepth 100000
set_option maxHeartbeats 1000000
namespace MM
open PySem L2 MP
/-! ### parts of the words that are read off -/
section
variable (d : D) (n i : Nat) (o p : Op2) (o1 : Op1) (o3 : Op3) (a b c e : DE) (f : Str) (k : IK) (tg : Tg) (own : List Nat) (t : Bool)
@[simp] theorem fr_lit : (DE.lit d).fr = true := (rfl)
@[simp] theorem fr_gl : (DE.gl n).fr = true := (rfl)
@[simp] theorem fr_pk : (DE.pk n).fr = false := (rfl)
@[simp] theorem fr_mv : (DE.mv n).fr = true := (rfl)
@[simp] theorem fr_o1 : (DE.o1 o1 a).fr = true := (rfl)
@[simp] theorem fr_o2 : (DE.o2 o a b).fr = true := (rfl)
@[simp] theorem fr_mt : (DE.mt o a b).fr = true := (rfl)
@[simp] theorem fr_o3 : (DE.o3 o3 a b c).fr = c.fr := (rfl)
@[simp] theorem fr_ch2 : (DE.ch2 o p a b c).fr = true := (rfl)
@[simp] theorem fr_ch3 (q : Op2) : (DE.ch3 o p q a b c e).fr = true := (rfl)
@[simp] theorem fr_sl : (DE.sl a b c).fr = true := (rfl)
@[simp] theorem fr_and : (DE.and a b).fr = true := (rfl)
@[simp] theorem fr_or : (DE.or a b).fr = true := (rfl)
@[simp] theorem fr_ite : (DE.ite a b c).fr = false := (rfl)
@[simp] theorem fr_edict : (DE.edict t).fr = true := (rfl)
@[simp] theorem fr_lst : (DE.lst a).fr = true := (rfl)
@[simp] theorem fr_tup : (DE.tup a).fr = true := (rfl)
@[simp] theorem fr_call : (DE.call n a).fr = true := (rfl)
@[simp] theorem fr_fld : (DE.fld a f).fr = false := (rfl)
@[simp] theorem fr_comp : (DE.comp k a tg own b c).fr = true := (rfl)
@[simp] theorem fr_fz : (DE.fz a).fr = true := (rfl)
@[simp] theorem fr_dict1 : (DE.dict1 a b).fr = true := (rfl)
@[simp] theorem fr_dcomp : (DE.dcomp k a tg own b c e).fr = true := (rfl)
@[simp] theorem mo_fz : (DE.fz a).movs = [] := (rfl)
@[simp] theorem mo_dict1 : (DE.dict1 a b).movs = [] := (rfl)
@[simp] theorem mo_dcomp : (DE.dcomp k a tg own b c e).movs = [] := (rfl)
@[simp] theorem mo_lit : (DE.lit d).movs = [] := (rfl)
@[simp] theorem mo_gl : (DE.gl n).movs = [] := (rfl)
@[simp] theorem mo_pk : (DE.pk n).movs = [] := (rfl)
@[simp] theorem mo_mv : (DE.mv n).movs = [n] := (rfl)
@[simp] theorem mo_o1 : (DE.o1 o1 a).movs = [] := (rfl)
@[simp] theorem mo_o2 : (DE.o2 o a b).movs = [] := (rfl)
@[simp] theorem mo_mt : (DE.mt o a b).movs = [] := (rfl)
@[simp] theorem mo_o3 : (DE.o3 o3 a b c).movs = [] := (rfl)
@[simp] theorem mo_ch2 : (DE.ch2 o p a b c).movs = [] := (rfl)
@[simp] theorem mo_ch3 (q : Op2) : (DE.ch3 o p q a b c e).movs = [] := (rfl)
@[simp] theorem mo_sl : (DE.sl a b c).movs = [] := (rfl)
@[simp] theorem mo_and : (DE.and a b).movs = [] := (rfl)
@[simp] theorem mo_or : (DE.or a b).movs = [] := (rfl)
@[simp] theorem mo_ite : (DE.ite a b c).movs = [] := (rfl)
@[simp] theorem mo_edict : (DE.edict t).movs = [] := (rfl)
@[simp] theorem mo_lst : (DE.lst a).movs = a.movs := (rfl)
@[simp] theorem mo_tup : (DE.tup a).movs = a.movs := (rfl)
@[simp] theorem mo_nil : DE.nil.movs = [] := (rfl)
@[simp] theorem mo_cons : (DE.cons a b).movs = a.movs ++ b.movs := (rfl)
@[simp] theorem mo_call : (DE.call n a).movs = [] := (rfl)
@[simp] theorem mo_fld : (DE.fld a f).movs = [] := (rfl)
@[simp] theorem mo_comp : (DE.comp k a tg own b c).movs = [] := (rfl)
@[simp] theorem np_non : (DE.lit .non).noPart = true := (rfl)
@[simp] theorem np_int (j : Int) : (DE.lit (.int j)).noPart = false := (rfl)
@[simp] theorem np_pk : (DE.pk n).noPart = false := (rfl)
@[simp] theorem np_mt : (DE.mt o a b).noPart = false := (rfl)
@[simp] theorem np_o1 : (DE.o1 o1 a).noPart = false := (rfl)
@[simp] theorem np_o2 : (DE.o2 o a b).noPart = false := (rfl)
@[simp] theorem np_fld : (DE.fld a f).noPart = false := (rfl)
@[simp] theorem np_call : (DE.call n a).noPart = false := (rfl)
@[simp] theorem pd_t : partD true d = some none := (rfl)
@[simp] theorem pd_f (j : Int) : partD false (.int j) = some (some j) := (rfl)
@[simp] theorem kill_nil (δ : List D) : kill [] δ = δ := (rfl)
@[simp] theorem kill_cons (m : Nat) (r : List Nat) (δ : List D) : kill (m :: r) δ = (kill r δ).set m .dead := (rfl)
@[simp] theorem nd_nil : nodupB [] = true := (rfl)
@[simp] theorem nd_one (m : Nat) : nodupB [m] = true := (rfl)
theorem nd_cons (m : Nat) (r : List Nat) : nodupB (m :: r) = (!r.contains m && nodupB r) := (rfl)
@[simp] theorem wipe_nil (δ : List D) : wipeD δ [] = δ := (rfl)
@[simp] theorem wipe_cons (m : Nat) (r : List Nat) (δ : List D) : wipeD δ (m :: r) = (wipeD δ r).set m .dead := (rfl)
@[simp] theorem dl_t (xs : List D) : dispL true xs = .lst true (D.flatL xs) := (rfl)
@[simp] theorem dl_f (xs : List D) : dispL false xs = .lst true xs := (rfl)
@[simp] theorem dt_t (xs : List D) : dispT true xs = .tup false (D.flatL xs) := (rfl)
@[simp] theorem dt_f (xs : List D) : dispT false xs = .tup (!D.isShL xs) xs := (rfl)
@[simp] theorem rc_ix (o : Bool) (xs : List D) : recv .index (.lst o xs) = true := (rfl)
@[simp] theorem rc_jn (x : Str) : recv .join (.str x) = true := (rfl)
@[simp] theorem isd_d (o t : Bool) (ks vs : List D) : (D.dct o t ks vs).isD = true := (rfl)
end
/-! ### the words on values -/
theorem dnew_eq (xs : List D) : dnew xs = guardR (decide (xs.length ≤ 100000) && D.isShL xs) (.ok (.lst true xs)) := (rfl)
section
variable (o o' : Bool) (xs ys : List D) (i j : Int) (x y : Str) (b : Bool) (ns : List Int)
@[simp] theorem m_neg : sem1 .neg (.int i) = .ok (.int (-i)) := (rfl)
@[simp] theorem m_not : sem1 .not (.bl b) = .ok (.bl (!b)) := (rfl)
@[simp] theorem m_len_l : sem1 .len (.lst o xs) = .ok (.int xs.length) := (rfl)
@[simp] theorem m_len_t : sem1 .len (.tup o xs) = .ok (.int xs.length) := (rfl)
@[simp] theorem m_len_s : sem1 .len (.str x) = guardR (decide (x.length ≤ 100000)) (.ok (.int x.length)) := (rfl)
@[simp] theorem m_len_scr : sem1 .len (.scr ns) = .ok (.int ns.length) := (rfl)
@[simp] theorem m_abs : sem1 .abs (.int i) = .ok (.int (if i < 0 then -i else i)) := (rfl)
@[simp] theorem m_int : sem1 .int (.int i) = .ok (.int i) := (rfl)
@[simp] theorem m_intb : sem1 .int (.bl b) = .ok (.int (if b then 1 else 0)) := (rfl)
@[simp] theorem m_list_l : sem1 .list (.lst o xs) = dnew xs := (rfl)
@[simp] theorem m_list_t : sem1 .list (.tup o xs) = dnew xs := (rfl)
@[simp] theorem m_list_d : sem1 .list (.dct o false xs ys) = dnew xs := (rfl)
@[simp] theorem m_tuple_l : sem1 .tuple (.lst o xs) = guardR (D.isShL xs && decide (xs.length ≤ 100000)) (.ok (.tup false xs)) := (rfl)
@[simp] theorem m_tuple_t : sem1 .tuple (.tup false xs) = .ok (.tup false xs) := (rfl)
@[simp] theorem m_sorted_i : sem1 .sorted (.lst o (ns.map D.int)) = guardR (decide (ns.length ≤ 100000)) (.ok (.lst true ((isortI ns).map D.int))) := by
  show (match intsOf (ns.map D.int) with | some ns => _ | none => _) = _
  rw [io_ints]; rfl
@[simp] theorem m_sorted_p (ps : List (Int × Int)) : sem1 .sorted (.lst o (ps.map dPair)) = guardR (decide (ps.length ≤ 100000)) (.ok (.lst true ((isortP ps).map dPair))) := by
  cases ps with
  | nil => rfl
  | cons p r =>
    have e : intsOf ((p :: r).map dPair) = none := rfl
    have e2 := po_pairs (p :: r)
    simp only [sem1, e, e2]
@[simp] theorem m_all (bs : List Bool) : sem1 .all (.lst o (bs.map D.bl)) = .ok (.bl (bs.all id)) := by
  show (match boolsOf (bs.map D.bl) with | some bs => _ | none => _) = _
  rw [bo_bls]
@[simp] theorem m_any (bs : List Bool) : sem1 .any (.lst o (bs.map D.bl)) = .ok (.bl (bs.any id)) := by
  show (match boolsOf (bs.map D.bl) with | some bs => _ | none => _) = _
  rw [bo_bls]
@[simp] theorem m_rev : sem1 .rev (.lst o xs) = dnew xs.reverse := (rfl)
@[simp] theorem m_lrg : sem1 .lrg (.int j) = guardR (decide (-100000 ≤ j) && decide (j ≤ 100000)) (.ok (.lst true (rngD 0 j.toNat))) := (rfl)
@[simp] theorem m_isI (k : MP.Kind) (d : D) : sem1 (.isI k) d = d.isI k := by cases d <;> rfl
@[simp] theorem m_add : sem2 .add (.int i) (.int j) = .ok (.int (i + j)) := (rfl)
@[simp] theorem m_add_s : sem2 .add (.str x) (.str y) = guardR (decide (x.length + y.length ≤ 100000)) (.ok (.str (x ++ y))) := (rfl)
@[simp] theorem m_add_l : sem2 .add (.lst o xs) (.lst o' ys) = dnew (xs ++ ys) := (rfl)
@[simp] theorem m_sub : sem2 .sub (.int i) (.int j) = .ok (.int (i - j)) := (rfl)
@[simp] theorem m_mul : sem2 .mul (.int i) (.int j) = guardR (decide (i.natAbs < 2 ^ 64) || decide (j.natAbs < 2 ^ 64)) (.ok (.int (i * j))) := (rfl)
@[simp] theorem m_mul_l : sem2 .mul (.lst o xs) (.int j) = guardR (decide (j.natAbs ≤ 100000)) (dnew (List.replicate j.toNat xs).flatten) := (rfl)
@[simp] theorem m_mul_s : sem2 .mul (.str x) (.int j) = guardR (decide (j.natAbs ≤ 1000) && decide (x.length ≤ 100)) (.ok (.str (Txt.mul x j))) := (rfl)
@[simp] theorem m_lrg2 : sem2 .lrg2 (.int i) (.int j) = guardR (decide (-50000 ≤ i) && decide (i ≤ 50000) && decide (-50000 ≤ j) && decide (j ≤ 50000)) (.ok (.lst true (rngD i (j - i).toNat))) := (rfl)
@[simp] theorem m_fdiv : sem2 .fdiv (.int i) (.int j) = guardR (decide (0 < j) && decide (j < 1073741824)) (.ok (.int (i / j))) := (rfl)
@[simp] theorem m_mod : sem2 .mod (.int i) (.int j) = guardR (decide (0 < j)) (.ok (.int (i % j))) := (rfl)
@[simp] theorem m_pow : sem2 .pow (.int i) (.int j) = guardR (decide (0 ≤ j) && decide (j ≤ 1000000) && decide (i.natAbs < 2 ^ 64)) (.ok (.int (i ^ j.toNat))) := (rfl)
@[simp] theorem m_lt : sem2 .lt (.int i) (.int j) = .ok (.bl (decide (i < j))) := (rfl)
@[simp] theorem m_le : sem2 .le (.int i) (.int j) = .ok (.bl (decide (i ≤ j))) := (rfl)
@[simp] theorem m_gt : sem2 .gt (.int i) (.int j) = .ok (.bl (decide (j < i))) := (rfl)
@[simp] theorem m_ge : sem2 .ge (.int i) (.int j) = .ok (.bl (decide (j ≤ i))) := (rfl)
theorem m_eq (a b : D) : sem2 .eq a b = guardR (a.eqOk && b.eqOk) (.ok (.bl (D.eqv a b))) := by cases a <;> cases b <;> rfl
theorem m_ne (a b : D) : sem2 .ne a b = guardR (a.eqOk && b.eqOk) (.ok (.bl (!D.eqv a b))) := by cases a <;> cases b <;> rfl
theorem m_in_l (a : D) : sem2 .isin a (.lst o ys) = guardR (a.eqOk && D.eqOk (.lst o ys)) (.ok (.bl (ys.any fun y => D.eqv y a))) := by cases a <;> rfl
theorem m_in_t (a : D) : sem2 .isin a (.tup o ys) = guardR ((flatD a && ys.all flatD) || (a.eqOk && D.eqOk (.tup o ys))) (.ok (.bl (ys.any fun y => D.eqv y a))) := by cases a <;> rfl
theorem m_in_d (a : D) (t : Bool) : sem2 .isin a (.dct o t xs ys) = guardR (a.okKey t) (.ok (.bl (dlook t a xs ys).isSome)) := by cases a <;> rfl
theorem m_nin_l (a : D) : sem2 .nin a (.lst o ys) = guardR (a.eqOk && D.eqOk (.lst o ys)) (.ok (.bl (!ys.any fun y => D.eqv y a))) := by cases a <;> rfl
theorem m_nin_t (a : D) : sem2 .nin a (.tup o ys) = guardR ((flatD a && ys.all flatD) || (a.eqOk && D.eqOk (.tup o ys))) (.ok (.bl (!ys.any fun y => D.eqv y a))) := by cases a <;> rfl
theorem m_nin_d (a : D) (t : Bool) : sem2 .nin a (.dct o t xs ys) = guardR (a.okKey t) (.ok (.bl (!(dlook t a xs ys).isSome))) := by cases a <;> rfl
@[simp] theorem m_max : sem2 .max (.int i) (.int j) = .ok (.int (if j > i then j else i)) := (rfl)
@[simp] theorem m_min : sem2 .min (.int i) (.int j) = .ok (.int (if j < i then j else i)) := (rfl)
@[simp] theorem m_join (ss : List Str) : sem2 .join (.str x) (.lst o (ss.map D.str)) = guardR (decide ((ss.map (·.length)).sum + ss.length * x.length ≤ 100000)) (.ok (.str (Txt.join x ss))) := by
  show (match strsOf (ss.map D.str) with | some ys => _ | none => _) = _
  rw [so_strs]
def ixR (x : Option D) : Res D := match x with
  | some d => guardR d.isSh (.ok d)
  | none => .stuck
@[simp] theorem ixR_s (d : D) : ixR (some d) = guardR d.isSh (.ok d) := (rfl)
theorem m_ix_l : sem2 .ix (.lst o xs) (.int i) = ixR (atI xs i) := (rfl)
theorem m_ix_t : sem2 .ix (.tup o xs) (.int i) = ixR (atI xs i) := (rfl)
def ixC (x : Str) (c : Option Nat) : Res D := match c with
  | some c => guardR (decide (x.length ≤ 100000)) (.ok (.str ⟨#[c]⟩))
  | none => .stuck
@[simp] theorem ixC_s (c : Nat) : ixC x (some c) = guardR (decide (x.length ≤ 100000)) (.ok (.str ⟨#[c]⟩)) := (rfl)
theorem m_ix_s : sem2 .ix (.str x) (.int i) = ixC x (atI x.cps.toList i) := (rfl)
def ixI (c : Option Int) : Res D := match c with
  | some c => .ok (.int c)
  | none => .stuck
@[simp] theorem ixI_s (c : Int) : ixI (some c) = .ok (.int c) := (rfl)
theorem m_ix_scr : sem2 .ix (.scr ns) (.int i) = ixI (atI ns i) := (rfl)
def ixD (t : Bool) (a : D) (c : Option D) : Res D := match c with
  | some d => guardR (d.isSh && a.okKey t) (.ok d)
  | none => .stuck
@[simp] theorem ixD_s (t : Bool) (a d : D) : ixD t a (some d) = guardR (d.isSh && a.okKey t) (.ok d) := (rfl)
def idR (c : Option Nat) : Res D := match c with
  | some i => .ok (.int (i : Int))
  | none => .stuck
@[simp] theorem idR_s (c : Nat) : idR (some c) = .ok (.int (c : Int)) := (rfl)
def slR (xs : List D) (l h : Option (Option Int)) : Res D := match l, h with
  | some l, some h => guardR (D.isShL xs) (dnew (cutD xs l h))
  | _, _ => .stuck
@[simp] theorem slR_s (l h : Option Int) : slR xs (some l) (some h) = guardR (D.isShL xs) (dnew (cutD xs l h)) := (rfl)
theorem m_sl (b c : Bool) (lo hi : D) : semSl b c (.lst o xs) lo hi = slR xs (partD b lo) (partD c hi) := by
  unfold semSl slR; cases partD b lo <;> cases partD c hi <;> rfl
def getR (z : D) (c : Option D) : Res D := match c with
    | some d => guardR d.isSh (.ok d)
    | none => .ok z
@[simp] theorem getR_s (z d : D) : getR z (some d) = guardR d.isSh (.ok d) := (rfl)
@[simp] theorem getR_n (z : D) : getR z none = .ok z := (rfl)
theorem m_get (t : Bool) (a z : D) : sem3 .get2 (.dct o t xs ys) a z = guardR (a.okKey t) (getR z (dlook t a xs ys)) := (rfl)
end
/-! places -/
theorem atI_nat {α : Type} (l : List α) (k : Nat) : atI l (k : Int) = l[k]? := by
  unfold atI ixN
  by_cases h : k < l.length
  · rw [if_pos (by omega), if_pos (by omega)]; simp
  · rw [if_pos (by omega), if_neg (by omega)]; simp; omega
theorem atI_pos {α : Type} (l : List α) {i : Int} (h : 0 ≤ i) : atI l i = l[i.toNat]? := by
  obtain ⟨k, rfl⟩ := Int.eq_ofNat_of_zero_le h
  exact atI_nat l k
theorem atI_some {α : Type} (z : α) (l : List α) {i : Int} (h : 0 ≤ i) (k : i < l.length) : atI l i = some (l.getD i.toNat z) := by
  rw [atI_pos l h, List.getD_eq_getElem?_getD, List.getElem?_eq_getElem (by omega)]
  rfl
theorem atI_map {α β : Type} (f : α → β) (l : List α) (i : Int) : atI (l.map f) i = (atI l i).map f := by
  unfold atI
  rw [List.length_map]
  cases ixN l.length i <;> simp
theorem atI_int (l : List Int) {i : Int} (h : 0 ≤ i) (k : i < l.length) : atI (l.map D.int) i = some (.int (l.getD i.toNat 0)) := by
  rw [atI_map, atI_some 0 l h k]; rfl
theorem atI_pair (l : List (Int × Int)) {i : Int} (h : 0 ≤ i) (k : i < l.length) : atI (l.map dPair) i = some (dPair (l.getD i.toNat (0, 0))) := by
  rw [atI_map, atI_some (0, 0) l h k]; rfl
theorem atI_tri (l : List (Int × Int × Int)) {i : Int} (h : 0 ≤ i) (k : i < l.length) : atI (l.map dTri) i = some (dTri (l.getD i.toNat (0, 0, 0))) := by
  rw [atI_map, atI_some (0, 0, 0) l h k]; rfl
theorem ixN_some {n : Nat} {i : Int} (h : 0 ≤ i) (k : i < n) : ixN n i = some i.toNat := by
  unfold ixN; rw [if_pos h, if_pos k]
@[simp] theorem at_0 (a : D) (r : List D) : atI (a :: r) 0 = some a := by simpa using atI_nat (a :: r) 0
@[simp] theorem at_1 (a b : D) (r : List D) : atI (a :: b :: r) 1 = some b := by simpa using atI_nat (a :: b :: r) 1
@[simp] theorem at_2 (a b c : D) (r : List D) : atI (a :: b :: c :: r) 2 = some c := by simpa using atI_nat (a :: b :: c :: r) 2
@[simp] theorem at_3 (a b c d : D) (r : List D) : atI (a :: b :: c :: d :: r) 3 = some d := by simpa using atI_nat (a :: b :: c :: d :: r) 3
@[simp] theorem at_4 (a b c d e : D) (r : List D) : atI (a :: b :: c :: d :: e :: r) 4 = some e := by simpa using atI_nat (a :: b :: c :: d :: e :: r) 4
@[simp] theorem live_pair (p : Int × Int) : live (dPair p) = .ok (dPair p) := (rfl)
@[simp] theorem live_tri (p : Int × Int × Int) : live (dTri p) = .ok (dTri p) := (rfl)
@[simp] theorem it_pair (p : Int × Int) : itemsOf .seq [dPair p] = some ([p.1, p.2].map D.int) := (rfl)
@[simp] theorem it_tri (p : Int × Int × Int) : itemsOf .seq [dTri p] = some ([p.1, p.2.1, p.2.2].map D.int) := (rfl)
@[simp] theorem ss_pair (p : Int × Int) : srcSh .seq [dPair p] = true := (rfl)
@[simp] theorem ss_tri (p : Int × Int × Int) : srcSh .seq [dTri p] = true := (rfl)
theorem ix_0l (o : Bool) (a : D) (r : List D) : sem2 .ix (.lst o (a :: r)) (.int 0) = guardR a.isSh (.ok a) := by rw [m_ix_l, at_0]; rfl
theorem ix_1l (o : Bool) (a b : D) (r : List D) : sem2 .ix (.lst o (a :: b :: r)) (.int 1) = guardR b.isSh (.ok b) := by rw [m_ix_l, at_1]; rfl
theorem ix_2l (o : Bool) (a b c : D) (r : List D) : sem2 .ix (.lst o (a :: b :: c :: r)) (.int 2) = guardR c.isSh (.ok c) := by rw [m_ix_l, at_2]; rfl
theorem ix_3l (o : Bool) (a b c d : D) (r : List D) : sem2 .ix (.lst o (a :: b :: c :: d :: r)) (.int 3) = guardR d.isSh (.ok d) := by rw [m_ix_l, at_3]; rfl
theorem ix_4l (o : Bool) (a b c d e : D) (r : List D) : sem2 .ix (.lst o (a :: b :: c :: d :: e :: r)) (.int 4) = guardR e.isSh (.ok e) := by rw [m_ix_l, at_4]; rfl
theorem ix_0t (o : Bool) (a : D) (r : List D) : sem2 .ix (.tup o (a :: r)) (.int 0) = guardR a.isSh (.ok a) := by rw [m_ix_t, at_0]; rfl
theorem ix_1t (o : Bool) (a b : D) (r : List D) : sem2 .ix (.tup o (a :: b :: r)) (.int 1) = guardR b.isSh (.ok b) := by rw [m_ix_t, at_1]; rfl
theorem ix_2t (o : Bool) (a b c : D) (r : List D) : sem2 .ix (.tup o (a :: b :: c :: r)) (.int 2) = guardR c.isSh (.ok c) := by rw [m_ix_t, at_2]; rfl
@[simp] theorem ix_p0 (p : Int × Int) : sem2 .ix (dPair p) (.int 0) = .ok (.int p.1) := by unfold dPair; rw [ix_0t]; rfl
@[simp] theorem ix_p1 (p : Int × Int) : sem2 .ix (dPair p) (.int 1) = .ok (.int p.2) := by unfold dPair; rw [ix_1t]; rfl
@[simp] theorem ix_t0 (p : Int × Int × Int) : sem2 .ix (dTri p) (.int 0) = .ok (.int p.1) := by unfold dTri; rw [ix_0t]; rfl
@[simp] theorem ix_t1 (p : Int × Int × Int) : sem2 .ix (dTri p) (.int 1) = .ok (.int p.2.1) := by unfold dTri; rw [ix_1t]; rfl
@[simp] theorem ix_t2 (p : Int × Int × Int) : sem2 .ix (dTri p) (.int 2) = .ok (.int p.2.2) := by unfold dTri; rw [ix_2t]; rfl
theorem ix_int {o : Bool} {l : List Int} {i : Int} (h : 0 ≤ i) (k : i < l.length) : sem2 .ix (.lst o (l.map D.int)) (.int i) = .ok (.int (l.getD i.toNat 0)) := by rw [m_ix_l, atI_int l h k]; rfl
theorem ix_pair {o : Bool} {l : List (Int × Int)} {i : Int} (h : 0 ≤ i) (k : i < l.length) : sem2 .ix (.lst o (l.map dPair)) (.int i) = .ok (dPair (l.getD i.toNat (0, 0))) := by rw [m_ix_l, atI_pair l h k]; rfl
theorem ix_tri {o : Bool} {l : List (Int × Int × Int)} {i : Int} (h : 0 ≤ i) (k : i < l.length) : sem2 .ix (.lst o (l.map dTri)) (.int i) = .ok (dTri (l.getD i.toNat (0, 0, 0))) := by rw [m_ix_l, atI_tri l h k]; rfl
theorem ix_pairT {o : Bool} {l : List (Int × Int)} {i : Int} (h : 0 ≤ i) (k : i < l.length) : sem2 .ix (.tup o (l.map dPair)) (.int i) = .ok (dPair (l.getD i.toNat (0, 0))) := by rw [m_ix_t, atI_pair l h k]; rfl
theorem ix_triT {o : Bool} {l : List (Int × Int × Int)} {i : Int} (h : 0 ≤ i) (k : i < l.length) : sem2 .ix (.tup o (l.map dTri)) (.int i) = .ok (dTri (l.getD i.toNat (0, 0, 0))) := by rw [m_ix_t, atI_tri l h k]; rfl
theorem ix_scr {l : List Int} {i : Int} (h : 0 ≤ i) (k : i < l.length) : sem2 .ix (.scr l) (.int i) = .ok (.int (l.getD i.toNat 0)) := by rw [m_ix_scr, atI_some 0 l h k]; rfl
theorem cut_from {xs : List D} {i : Int} (h : 0 ≤ i) : cutD xs (some i) none = xs.drop i.toNat := by
  unfold cutD
  rw [HT.sIx_none]
  unfold HT.sIx
  simp only []
  rw [if_neg (by omega)]
  by_cases e : i.toNat ≤ xs.length
  · rw [Nat.min_eq_left e]
    apply List.take_of_length_le
    rw [List.length_drop]; exact Nat.le_refl _
  · rw [Nat.min_eq_right (by omega), List.drop_of_length_le (Nat.le_refl _), List.drop_of_length_le (by omega)]
    simp
theorem cut_to {xs : List D} {i : Int} (h : 0 ≤ i) : cutD xs none (some i) = xs.take i.toNat := by
  unfold cutD
  rw [HT.sIx_none]
  unfold HT.sIx
  simp only []
  rw [if_neg (by omega)]
  simp only [List.drop_zero, Nat.sub_zero]
  by_cases e : i.toNat ≤ xs.length
  · rw [Nat.min_eq_left e]
  · rw [Nat.min_eq_right (by omega), List.take_of_length_le (Nat.le_refl _), List.take_of_length_le (by omega)]
/-- a whole range -/
def rng (lo : Int) (n : Nat) : List Int := (List.range n).map fun i => lo + ((i : Nat) : Int)
theorem rngD_eq (lo : Int) (n : Nat) : rngD lo n = (rng lo n).map D.int := by simp [rngD, rng]
@[simp] theorem rng_len (lo : Int) (n : Nat) : (rng lo n).length = n := by simp [rng]
theorem mem_rng {lo : Int} {n : Nat} {i : Int} : i ∈ rng lo n ↔ lo ≤ i ∧ i < lo + n := by
  simp only [rng, List.mem_map, List.mem_range]
  constructor
  · rintro ⟨a, h, rfl⟩; omega
  · rintro ⟨a, b⟩; exact ⟨(i - lo).toNat, by omega, by omega⟩
theorem rng_nodup (lo : Int) (n : Nat) : (rng lo n).Nodup := by
  unfold rng
  rw [List.nodup_iff_pairwise_ne, List.pairwise_map]
  exact List.nodup_range.imp (fun h => by omega)
/-! depths -/
def dcp (b : Bool) : Nat := if b then 100 else 115
def dch (b : Bool) : Str := ⟨#[dcp b]⟩
def dstr (ds : List Bool) : Str := ⟨(ds.map dcp).toArray⟩
@[simp] theorem dstr_len (ds : List Bool) : (dstr ds).length = ds.length := by simp [dstr, Str.length]
theorem ok_dch (b : Bool) : PyData.strOk (dch b) = true := by cases b <;> decide +kernel
theorem ok_dstr (ds : List Bool) : PyData.strOk (dstr ds) = true := by
  unfold PyData.strOk dstr
  simp [dcp]
@[simp] theorem eo_dch (b : Bool) : (D.str (dch b)).eqOk = true := eo_str (ok_dch b)
@[simp] theorem eo_dstr (ds : List Bool) : (D.str (dstr ds)).eqOk = true := eo_str (ok_dstr ds)
@[simp] theorem eo_d : (D.str "d").eqOk = true := eo_str (by decide +kernel)
@[simp] theorem eo_s : (D.str "s").eqOk = true := eo_str (by decide +kernel)
@[simp] theorem eo_e : (D.str "").eqOk = true := eo_str (by decide +kernel)
theorem d_lit : ("d" : Str) = dch true := by decide +kernel
theorem s_lit : ("s" : Str) = dch false := by decide +kernel
theorem e_str : ("" : Str) = dstr [] := by decide +kernel
theorem dch_inj {a b : Bool} : dch a = dch b ↔ a = b := by cases a <;> cases b <;> decide
@[simp] theorem ev_d (b : Bool) : D.eqv (.str (dch b)) (.str "d") = b := by
  rw [ev_str, d_lit]; cases b <;> decide
@[simp] theorem ev_s (b : Bool) : D.eqv (.str (dch b)) (.str "s") = !b := by
  rw [ev_str, s_lit]; cases b <;> decide
@[simp] theorem dch_d (b : Bool) : (dch b = ("d" : Str)) ↔ b = true := by rw [d_lit, dch_inj]
@[simp] theorem dch_s (b : Bool) : (dch b = ("s" : Str)) ↔ b = false := by rw [s_lit, dch_inj]
theorem sum_dch (ds : List Bool) : ((ds.map dch).map fun x => x.length).sum = ds.length := by
  induction ds with
  | nil => rfl
  | cons a r ih =>
    rw [List.map_cons, List.map_cons, List.sum_cons, ih, List.length_cons, show (dch a).length = 1 from rfl]
    omega
/-- the scratch is deep -/
def deep (ds : List Bool) (i : Int) : Bool := ds.getD i.toNat false
theorem ix_ds {ds : List Bool} {i : Int} (h : 0 ≤ i) (k : i < ds.length) (hl : ds.length ≤ 100000) : sem2 .ix (.str (dstr ds)) (.int i) = .ok (.str (dch (deep ds i))) := by
  rw [m_ix_s]
  have : atI (dstr ds).cps.toList i = some (dcp (deep ds i)) := by
    simp only [dstr]
    rw [atI_map, atI_some false ds h k]; rfl
  rw [this, ixC_s, guardR_dec (by simpa using hl)]; rfl
/-! walked items -/
section
variable (o o' : Bool) (xs ys : List D) (x : Str) (i j : Int)
@[simp] theorem it_l : itemsOf .seq [.lst o xs] = some (D.flatL xs) := (rfl)
@[simp] theorem it_t : itemsOf .seq [.tup o xs] = some (D.flatL xs) := (rfl)
@[simp] theorem it_s : itemsOf .str [.str x] = some (strD x) := (rfl)
theorem it_r1 (h : -100000 ≤ j ∧ j ≤ 100000) : itemsOf .rng1 [.int j] = some ((rng 0 j.toNat).map D.int) := by
  show (if _ then _ else _) = _
  rw [if_pos h, rngD_eq]
theorem it_r2 (h : -100000 ≤ i ∧ i ≤ 100000 ∧ -100000 ≤ j ∧ j ≤ 100000) : itemsOf .rng2 [.int i, .int j] = some ((rng i (j - i).toNat).map D.int) := by
  show (if _ then _ else _) = _
  rw [if_pos h, rngD_eq]
theorem it_rv (h : -100000 ≤ j ∧ j ≤ 100000) : itemsOf .revr [.int j] = some ((rng 0 j.toNat).reverse.map D.int) := by
  show (if _ then _ else _) = _
  rw [if_pos h, rngD_eq, List.map_reverse]
@[simp] theorem ss_rv : srcSh .revr [.int i] = true := (rfl)
@[simp] theorem it_el : itemsOf .enum [.lst o xs] = some (enumD (D.flatL xs) 0) := (rfl)
@[simp] theorem it_et : itemsOf .enum [.tup o xs] = some (enumD (D.flatL xs) 0) := (rfl)
@[simp] theorem it_es : itemsOf .enum [.str x] = some (enumD (strD x) 0) := (rfl)
@[simp] theorem it_z : itemsOf .zip [.lst o xs, .lst o' ys] = some (zipD (D.flatL xs) (D.flatL ys)) := (rfl)
@[simp] theorem ss_l : srcSh .seq [.lst true xs] = D.isShL xs := (rfl)
@[simp] theorem ss_lf : srcSh .seq [.lst false xs] = D.isShL xs := by show (D.isSh _ && true) = _; rw [Bool.and_true]; rfl
@[simp] theorem ss_t : srcSh .seq [.tup false xs] = D.isShL xs := by show (D.isSh _ && true) = _; rw [Bool.and_true]; rfl
@[simp] theorem ss_r1 : srcSh .rng1 [.int i] = true := (rfl)
@[simp] theorem ss_r2 : srcSh .rng2 [.int i, .int j] = true := (rfl)
@[simp] theorem ss_s : srcSh .str [.str x] = true := (rfl)
@[simp] theorem ss_es : srcSh .enum [.str x] = true := (rfl)
end
/-! ### loops -/
theorem compL_map {α : Type} {f : α → D} {tg : Tg} {δ : List D} {t b : List D → Res D} {p : α → Bool} {g : α → D} : ∀ (l : List α), (∀ a ∈ l, ∃ δ1, tgSet tg (f a) δ = some δ1 ∧ t δ1 = .ok (.bl (p a)) ∧ (p a = true → b δ1 = .ok (g a))) → compL tg δ t b (l.map f) = .ok ((l.filter p).map g)
  | [], _ => rfl
  | a :: r, h => by
    obtain ⟨δ1, h1, h2, h3⟩ := h a List.mem_cons_self
    have ih := compL_map r (fun a ha => h a (List.mem_cons_of_mem _ ha))
    rw [List.map_cons, compL, h1]
    simp only [h2]
    cases e : p a with
    | true => simp only [h3 e, ih, List.filter_cons_of_pos e, List.map_cons]
    | false =>
      rw [List.filter_cons_of_neg (by simp [e])]
      exact ih
theorem compR_map {α : Type} {Φ : Tab} {f : α → D} {tg : Tg} {c b : DE} {δ : List D} {p : α → Bool} {g : α → D} {l : List α} (h : ∀ a ∈ l, ∃ δ1, tgSet tg (f a) δ = some δ1 ∧ evalE Φ c δ1 = .ok (.bl (p a)) ∧ (p a = true → guardR b.movs.isEmpty (tkOk b.fr (evalE Φ b δ1)) = .ok (g a))) (hl : l.length ≤ 100000) :
    compR Φ tg c b δ (some (l.map f)) = .ok (.lst true (D.flatL ((l.filter p).map g))) := by
  unfold compR
  simp only []
  rw [compL_map l h]
  simp only [List.length_map]
  rw [guardR_dec hl]
/-- without a condition -/
theorem compR_all {α : Type} {Φ : Tab} {f : α → D} {tg : Tg} {b : DE} {δ : List D} {g : α → D} {l : List α} (h : ∀ a ∈ l, ∃ δ1, tgSet tg (f a) δ = some δ1 ∧ guardR b.movs.isEmpty (tkOk b.fr (evalE Φ b δ1)) = .ok (g a)) (hl : l.length ≤ 100000) :
    compR Φ tg (.lit (.bl true)) b δ (some (l.map f)) = .ok (.lst true (D.flatL (l.map g))) := by
  rw [compR_map (p := fun _ => true) (g := g) (fun a ha => ?_) hl, List.filter_eq_self.mpr (fun _ _ => rfl)]
  obtain ⟨δ1, h1, h2⟩ := h a ha
  exact ⟨δ1, h1, rfl, fun _ => h2⟩
/-- a loop by what holds before each turn; R: what is asked of its end -/
theorem forL_inv {α : Type} {f : α → D} {tg : Tg} {b : List D → SR} {R : SR → Prop} (I : Nat → List D → Prop) : ∀ (l : List α) (δ : List D), I 0 δ →
    (∀ i a δ, l[i]? = some a → I i δ → ∃ δ1, tgSet tg (f a) δ = some δ1 ∧ (match b δ1 with | .nx δ2 => I (i + 1) δ2 | .ct δ2 => I (i + 1) δ2 | .bk δ2 => R (.nx δ2) | o => R o)) →
    (∀ δ, I l.length δ → R (.nx δ)) → R (forL tg b (l.map f) δ)
  | [], δ, h, _, e => e δ h
  | a :: r, δ, h, s, e => by
    obtain ⟨δ1, h1, h2⟩ := s 0 a δ rfl h
    show R (match tgSet tg (f a) δ with | none => .stuck | some δ1 => match b δ1 with | .nx δ2 => forL tg b (r.map f) δ2 | .ct δ2 => forL tg b (r.map f) δ2 | .bk δ2 => .nx δ2 | o => o)
    rw [h1]
    show R (match b δ1 with | .nx δ2 => forL tg b (r.map f) δ2 | .ct δ2 => forL tg b (r.map f) δ2 | .bk δ2 => .nx δ2 | o => o)
    have ih := fun δ2 k => forL_inv (fun i => I (i + 1)) r δ2 k (fun i a δ hi hI => s (i + 1) a δ (by simpa using hi) hI) (by simpa using e)
    cases hb : b δ1 with
    | nx δ2 => rw [hb] at h2; exact ih δ2 h2
    | ct δ2 => rw [hb] at h2; exact ih δ2 h2
    | bk δ2 => rw [hb] at h2; exact h2
    | rt d => rw [hb] at h2; exact h2
    | exc x d => rw [hb] at h2; exact h2
    | stuck => rw [hb] at h2; exact h2
/-- a loop that always ends at its end -/
theorem forL_nx {α : Type} {f : α → D} {tg : Tg} {b : List D → SR} (I : Nat → List D → Prop) (l : List α) (δ : List D) (h0 : I 0 δ)
    (s : ∀ i a δ, l[i]? = some a → I i δ → ∃ δ1 δ2, tgSet tg (f a) δ = some δ1 ∧ (b δ1 = .nx δ2 ∨ b δ1 = .ct δ2) ∧ I (i + 1) δ2) : ∃ δ', forL tg b (l.map f) δ = .nx δ' ∧ I l.length δ' := by
  refine forL_inv (R := fun r => ∃ δ', r = .nx δ' ∧ I l.length δ') I l δ h0 (fun i a δ hi hI => ?_) (fun δ h => ⟨δ, rfl, h⟩)
  obtain ⟨δ1, δ2, h1, h2, h3⟩ := s i a δ hi hI
  refine ⟨δ1, h1, ?_⟩
  rcases h2 with h2 | h2 <;> rw [h2] <;> exact h3
def Nxt (J : List D → Prop) (r : SR) : Prop := match r with
  | .nx δ => J δ
  | .ct δ => J δ
  | _ => False
@[simp] theorem Nxt_nx (J : List D → Prop) (δ : List D) : Nxt J (.nx δ) = J δ := (rfl)
@[simp] theorem Nxt_ct (J : List D → Prop) (δ : List D) : Nxt J (.ct δ) = J δ := (rfl)
/-- the same, with ends ahead of time -/
def NxtR (J : List D → Prop) (R : SR → Prop) (r : SR) : Prop := match r with
  | .nx δ => J δ
  | .ct δ => J δ
  | .bk δ => R (.nx δ)
  | o => R o
@[simp] theorem NxtR_nx (J : List D → Prop) (R : SR → Prop) (δ : List D) : NxtR J R (.nx δ) = J δ := (rfl)
@[simp] theorem NxtR_ct (J : List D → Prop) (R : SR → Prop) (δ : List D) : NxtR J R (.ct δ) = J δ := (rfl)
@[simp] theorem NxtR_bk (J : List D → Prop) (R : SR → Prop) (δ : List D) : NxtR J R (.bk δ) = R (.nx δ) := (rfl)
@[simp] theorem NxtR_rt (J : List D → Prop) (R : SR → Prop) (d : D) : NxtR J R (.rt d) = R (.rt d) := (rfl)
theorem forL_go {α : Type} {f : α → D} {tg : Tg} {b : List D → SR} (I : Nat → List D → Prop) (l : List α) (δ : List D) (h0 : I 0 δ)
    (s : ∀ i a δ, l[i]? = some a → I i δ → ∃ δ1, tgSet tg (f a) δ = some δ1 ∧ Nxt (I (i + 1)) (b δ1)) : ∃ δ', forL tg b (l.map f) δ = .nx δ' ∧ I l.length δ' := by
  refine forL_nx I l δ h0 (fun i a δ hi hI => ?_)
  obtain ⟨δ1, h1, h2⟩ := s i a δ hi hI
  cases hb : b δ1 with
  | nx δ2 => rw [hb] at h2; exact ⟨δ1, δ2, h1, .inl hb, h2⟩
  | ct δ2 => rw [hb] at h2; exact ⟨δ1, δ2, h1, .inr hb, h2⟩
  | _ => rw [hb] at h2; exact h2.elim
theorem forL_goR {α : Type} {f : α → D} {tg : Tg} {b : List D → SR} {R : SR → Prop} (I : Nat → List D → Prop) (l : List α) (δ : List D) (h0 : I 0 δ)
    (s : ∀ i a δ, l[i]? = some a → I i δ → ∃ δ1, tgSet tg (f a) δ = some δ1 ∧ NxtR (I (i + 1)) R (b δ1)) (e : ∀ δ, I l.length δ → R (.nx δ)) : R (forL tg b (l.map f) δ) := by
  refine forL_inv I l δ h0 (fun i a δ hi hI => ?_) e
  obtain ⟨δ1, h1, h2⟩ := s i a δ hi hI
  refine ⟨δ1, h1, ?_⟩
  cases hb : b δ1 <;> rw [hb] at h2 <;> exact h2
theorem enumD_map {α : Type} (f : α → D) : ∀ (l : List α) (k : Nat), enumD (l.map f) k = (l.zipIdx k).map fun q => .tup false [.int (q.2 : Nat), f q.1]
  | [], k => rfl
  | a :: r, k => by
    show D.tup false [.int (k : Nat), f a] :: enumD (r.map f) (k + 1) = _
    rw [enumD_map f r (k + 1)]; rfl
end MM
set_option Elab.async false
set_option linter.all false
set_option maxRecDepth 100000
set_option maxHeartbeats 1000000
namespace MM
open PySem L2 MP TX
variable {Φ : Tab} {fuel : Nat}
def CellS (f : List D → Res D) : Prop := ∀ (ns : List Int) {k : Int}, 0 ≤ k → f [.scr ns, .int k] = .ok (.int (ns.getD k.toNat 0))
theorem t_cell : CellS (runF Φ fuel N_law_cell.length b_law_cell) := fun ns k h => by
  by_cases e : k < ns.length
  · simp [b_law_cell, N_law_cell, run_fin, s_skip, s_nev, s_seq, s_asg, s_asgT, s_par, s_aug, s_ifs, s_for, s_ret, s_retN, s_brk, s_cnt, s_expr, s_app, s_appPop, s_setI, s_rev, s_clr, s_ins, s_pop, s_sdApp, s_rem, s_setA, s_dem, s_whl, e_lit, e_gl, e_pk, e_mv, e_o1, e_o2, e_mt, e_o3, e_ch2, e_ch3, e_sl, e_and, e_or, e_ite, e_edict, e_lst, e_tup, e_call, e_fld, e_comp, l_nil, l_cons, t_nil, t_cons, gd_0, gd_s, tgSet_n, tgSet_p2, tgSet_t3, nd_cons, dnew_eq, m_eq, m_ne, m_in_l, m_in_t, m_in_d, m_nin_l, m_nin_t, m_nin_d, ix_0l, ix_0t, ix_1l, ix_1t, ix_2l, ix_2t, ix_3l, ix_4l, m_sl, m_get, guardR_and, guardS_and, -List.any_map, -List.all_map, -List.getD_eq_getElem?_getD, -List.map_map, -List.drop_one, ← List.map_take, ← List.map_drop, ← List.map_reverse, e, ix_scr h e]
  · have e2 : ns.getD k.toNat 0 = 0 := by rw [List.getD_eq_getElem?_getD, List.getElem?_eq_none (by omega)]; rfl
    simp [b_law_cell, N_law_cell, run_fin, s_skip, s_nev, s_seq, s_asg, s_asgT, s_par, s_aug, s_ifs, s_for, s_ret, s_retN, s_brk, s_cnt, s_expr, s_app, s_appPop, s_setI, s_rev, s_clr, s_ins, s_pop, s_sdApp, s_rem, s_setA, s_dem, s_whl, e_lit, e_gl, e_pk, e_mv, e_o1, e_o2, e_mt, e_o3, e_ch2, e_ch3, e_sl, e_and, e_or, e_ite, e_edict, e_lst, e_tup, e_call, e_fld, e_comp, l_nil, l_cons, t_nil, t_cons, gd_0, gd_s, tgSet_n, tgSet_p2, tgSet_t3, nd_cons, dnew_eq, m_eq, m_ne, m_in_l, m_in_t, m_in_d, m_nin_l, m_nin_t, m_nin_d, ix_0l, ix_0t, ix_1l, ix_1t, ix_2l, ix_2t, ix_3l, ix_4l, m_sl, m_get, guardR_and, guardS_and, -List.any_map, -List.all_map, -List.getD_eq_getElem?_getD, -List.map_map, -List.drop_one, ← List.map_take, ← List.map_drop, ← List.map_reverse, e]
    exact e2.symm
/-- a row of draws -/
def RowOk (sz r : List Int) : Prop := r.length = sz.length ∧ ∀ i, i < sz.length → 0 ≤ r.getD i 0 ∧ r.getD i 0 < sz.getD i 0
def SzOk (sz : List Int) : Prop := (∀ s ∈ sz, 0 < s ∧ s < 1073741824) ∧ sz.length ≤ 100000
def RowS (f : List D → Res D) : Prop := ∀ (c : Int) (sz : List Int), SzOk sz → ∃ r, f [.int c, .lst false (sz.map D.int)] = .ok (.lst true (r.map D.int)) ∧ RowOk sz r
theorem RowOk.snoc {sz acc : List Int} {s v : Int} (h : ∀ j, j < acc.length → 0 ≤ acc.getD j 0 ∧ acc.getD j 0 < sz.getD j 0) (hs : sz[acc.length]? = some s) (h0 : 0 ≤ v) (h1 : v < s) : ∀ j, j < (acc ++ [v]).length → 0 ≤ (acc ++ [v]).getD j 0 ∧ (acc ++ [v]).getD j 0 < sz.getD j 0 := by
  intro j hj
  rw [List.length_append, List.length_singleton] at hj
  by_cases e : j < acc.length
  · have := h j e
    rw [List.getD_eq_getElem?_getD, List.getElem?_append_left e, ← List.getD_eq_getElem?_getD]
    exact this
  · have e : j = acc.length := by omega
    subst e
    simp only [List.getD_eq_getElem?_getD, hs]
    simp [h0, h1]
theorem lt_of_some {α : Type} {l : List α} {i : Nat} {a : α} (h : l[i]? = some a) : i < l.length := by
  obtain ⟨h, _⟩ := List.getElem?_eq_some_iff.mp h; exact h
def law_row_I1 (sz : List Int) (c szd m : D) (i : Nat) (δ : List D) : Prop := ∃ (l : Int) (acc : List Int) (x : D), δ = [c, szd, .int l, .lst true (acc.map D.int), m, x] ∧ acc.length = i ∧ ∀ j, j < acc.length → 0 ≤ acc.getD j 0 ∧ acc.getD j 0 < sz.getD j 0
def law_row_I2 (sz : List Int) (c szd l : D) (i : Nat) (δ : List D) : Prop := ∃ (m : Int) (acc : List Int) (x : D), δ = [c, szd, l, .lst true (acc.map D.int), .int m, x] ∧ acc.length = i ∧ ∀ j, j < acc.length → 0 ≤ acc.getD j 0 ∧ acc.getD j 0 < sz.getD j 0
theorem law_row_L1 {sz : List Int} (h : SzOk sz) (c szd m x : D) (l : Int) : ∃ δ', forL (.n 5) (fun δ' => evalS Φ fuel b_law_row_L1 δ') (sz.map D.int) [c, szd, .int l, .lst true [], m, x] = .nx δ' ∧ law_row_I1 sz c szd m sz.length δ' := by
  refine forL_go (law_row_I1 sz c szd m) sz _ ⟨l, [], x, rfl, rfl, fun j h => absurd h (Nat.not_lt_zero j)⟩ (fun i s δ hi hJ => ?_)
  obtain ⟨l, acc, x, rfl, rfl, hA⟩ := hJ
  obtain ⟨hs1, hs2⟩ := h.1 s (List.mem_of_getElem? hi)
  have hlt := lt_of_some hi
  have hl := h.2
  have : acc.length < 100000 := by omega
  refine ⟨_, rfl, ?_⟩
  simp only [b_law_row_L1]
  simp [run_fin, s_skip, s_nev, s_seq, s_asg, s_asgT, s_par, s_aug, s_ifs, s_for, s_ret, s_retN, s_brk, s_cnt, s_expr, s_app, s_appPop, s_setI, s_rev, s_clr, s_ins, s_pop, s_sdApp, s_rem, s_setA, s_dem, s_whl, e_lit, e_gl, e_pk, e_mv, e_o1, e_o2, e_mt, e_o3, e_ch2, e_ch3, e_sl, e_and, e_or, e_ite, e_edict, e_lst, e_tup, e_call, e_fld, e_comp, l_nil, l_cons, t_nil, t_cons, gd_0, gd_s, tgSet_n, tgSet_p2, tgSet_t3, nd_cons, dnew_eq, m_eq, m_ne, m_in_l, m_in_t, m_in_d, m_nin_l, m_nin_t, m_nin_d, ix_0l, ix_0t, ix_1l, ix_1t, ix_2l, ix_2t, ix_3l, ix_4l, m_sl, m_get, guardR_and, guardS_and, -List.any_map, -List.all_map, -List.getD_eq_getElem?_getD, -List.map_map, -List.drop_one, ← List.map_take, ← List.map_drop, ← List.map_reverse, hs1, hs2, this]
  exact ⟨l / s, acc ++ [l % s], .int s, by simp, by simp, RowOk.snoc hA hi (Int.emod_nonneg _ (by omega)) (Int.emod_lt_of_pos _ hs1)⟩
theorem law_row_L2 {sz : List Int} (h : SzOk sz) (c szd l x : D) (m : Int) : ∃ δ', forL (.n 5) (fun δ' => evalS Φ fuel b_law_row_L2 δ') (sz.map D.int) [c, szd, l, .lst true [], .int m, x] = .nx δ' ∧ law_row_I2 sz c szd l sz.length δ' := by
  refine forL_go (law_row_I2 sz c szd l) sz _ ⟨m, [], x, rfl, rfl, fun j h => absurd h (Nat.not_lt_zero j)⟩ (fun i s δ hi hJ => ?_)
  obtain ⟨m, acc, x, rfl, rfl, hA⟩ := hJ
  obtain ⟨hs1, hs2⟩ := h.1 s (List.mem_of_getElem? hi)
  have hlt := lt_of_some hi
  have hl := h.2
  have : acc.length < 100000 := by omega
  refine ⟨_, rfl, ?_⟩
  simp only [b_law_row_L2]
  simp [run_fin, s_skip, s_nev, s_seq, s_asg, s_asgT, s_par, s_aug, s_ifs, s_for, s_ret, s_retN, s_brk, s_cnt, s_expr, s_app, s_appPop, s_setI, s_rev, s_clr, s_ins, s_pop, s_sdApp, s_rem, s_setA, s_dem, s_whl, e_lit, e_gl, e_pk, e_mv, e_o1, e_o2, e_mt, e_o3, e_ch2, e_ch3, e_sl, e_and, e_or, e_ite, e_edict, e_lst, e_tup, e_call, e_fld, e_comp, l_nil, l_cons, t_nil, t_cons, gd_0, gd_s, tgSet_n, tgSet_p2, tgSet_t3, nd_cons, dnew_eq, m_eq, m_ne, m_in_l, m_in_t, m_in_d, m_nin_l, m_nin_t, m_nin_d, ix_0l, ix_0t, ix_1l, ix_1t, ix_2l, ix_2t, ix_3l, ix_4l, m_sl, m_get, guardR_and, guardS_and, -List.any_map, -List.all_map, -List.getD_eq_getElem?_getD, -List.map_map, -List.drop_one, ← List.map_take, ← List.map_drop, ← List.map_reverse, hs1, hs2, this]
  exact ⟨(m * 16807 + 40692) % 2147483399, acc ++ [(m * 16807 + 40692) % 2147483399 / 7 % s], .int s, by simp, by simp, RowOk.snoc hA hi (Int.emod_nonneg _ (by omega)) (Int.emod_lt_of_pos _ hs1)⟩
theorem t_row : RowS (runF Φ fuel N_law_row.length b_law_row) := fun c sz h => by
  by_cases e : 1000000000000000000 ≤ (if c < 0 then -c else c)
  · simp only [b_law_row, N_law_row]
    simp [run_fin, s_skip, s_nev, s_seq, s_asg, s_asgT, s_par, s_aug, s_ifs, s_for, s_ret, s_retN, s_brk, s_cnt, s_expr, s_app, s_appPop, s_setI, s_rev, s_clr, s_ins, s_pop, s_sdApp, s_rem, s_setA, s_dem, s_whl, e_lit, e_gl, e_pk, e_mv, e_o1, e_o2, e_mt, e_o3, e_ch2, e_ch3, e_sl, e_and, e_or, e_ite, e_edict, e_lst, e_tup, e_call, e_fld, e_comp, l_nil, l_cons, t_nil, t_cons, gd_0, gd_s, tgSet_n, tgSet_p2, tgSet_t3, nd_cons, dnew_eq, m_eq, m_ne, m_in_l, m_in_t, m_in_d, m_nin_l, m_nin_t, m_nin_d, ix_0l, ix_0t, ix_1l, ix_1t, ix_2l, ix_2t, ix_3l, ix_4l, m_sl, m_get, guardR_and, guardS_and, -List.any_map, -List.all_map, -List.getD_eq_getElem?_getD, -List.map_map, -List.drop_one, ← List.map_take, ← List.map_drop, ← List.map_reverse, e]
    obtain ⟨δ', h1, l, acc, x, rfl, h2, h3⟩ := law_row_L1 (Φ := Φ) (fuel := fuel) h (.int c) (.lst false (sz.map D.int)) .dead .dead ((if c < 0 then -c else c) - 1000000000000000000)
    rw [h1]
    simp [run_fin, s_skip, s_nev, s_seq, s_asg, s_asgT, s_par, s_aug, s_ifs, s_for, s_ret, s_retN, s_brk, s_cnt, s_expr, s_app, s_appPop, s_setI, s_rev, s_clr, s_ins, s_pop, s_sdApp, s_rem, s_setA, s_dem, s_whl, e_lit, e_gl, e_pk, e_mv, e_o1, e_o2, e_mt, e_o3, e_ch2, e_ch3, e_sl, e_and, e_or, e_ite, e_edict, e_lst, e_tup, e_call, e_fld, e_comp, l_nil, l_cons, t_nil, t_cons, gd_0, gd_s, tgSet_n, tgSet_p2, tgSet_t3, nd_cons, dnew_eq, m_eq, m_ne, m_in_l, m_in_t, m_in_d, m_nin_l, m_nin_t, m_nin_d, ix_0l, ix_0t, ix_1l, ix_1t, ix_2l, ix_2t, ix_3l, ix_4l, m_sl, m_get, guardR_and, guardS_and, -List.any_map, -List.all_map, -List.getD_eq_getElem?_getD, -List.map_map, -List.drop_one, ← List.map_take, ← List.map_drop, ← List.map_reverse]
    exact ⟨acc, rfl, h2, fun i hi => h3 i (by omega)⟩
  · simp only [b_law_row, N_law_row]
    simp [run_fin, s_skip, s_nev, s_seq, s_asg, s_asgT, s_par, s_aug, s_ifs, s_for, s_ret, s_retN, s_brk, s_cnt, s_expr, s_app, s_appPop, s_setI, s_rev, s_clr, s_ins, s_pop, s_sdApp, s_rem, s_setA, s_dem, s_whl, e_lit, e_gl, e_pk, e_mv, e_o1, e_o2, e_mt, e_o3, e_ch2, e_ch3, e_sl, e_and, e_or, e_ite, e_edict, e_lst, e_tup, e_call, e_fld, e_comp, l_nil, l_cons, t_nil, t_cons, gd_0, gd_s, tgSet_n, tgSet_p2, tgSet_t3, nd_cons, dnew_eq, m_eq, m_ne, m_in_l, m_in_t, m_in_d, m_nin_l, m_nin_t, m_nin_d, ix_0l, ix_0t, ix_1l, ix_1t, ix_2l, ix_2t, ix_3l, ix_4l, m_sl, m_get, guardR_and, guardS_and, -List.any_map, -List.all_map, -List.getD_eq_getElem?_getD, -List.map_map, -List.drop_one, ← List.map_take, ← List.map_drop, ← List.map_reverse, e]
    obtain ⟨δ', h1, l, acc, x, rfl, h2, h3⟩ := law_row_L2 (Φ := Φ) (fuel := fuel) h (.int c) (.lst false (sz.map D.int)) (.int (if c < 0 then -c else c)) .dead (((if c < 0 then -c else c) * 48271 + (if c < 0 then -c else c) / 5 + 11) % 2147483647)
    rw [h1]
    simp [run_fin, s_skip, s_nev, s_seq, s_asg, s_asgT, s_par, s_aug, s_ifs, s_for, s_ret, s_retN, s_brk, s_cnt, s_expr, s_app, s_appPop, s_setI, s_rev, s_clr, s_ins, s_pop, s_sdApp, s_rem, s_setA, s_dem, s_whl, e_lit, e_gl, e_pk, e_mv, e_o1, e_o2, e_mt, e_o3, e_ch2, e_ch3, e_sl, e_and, e_or, e_ite, e_edict, e_lst, e_tup, e_call, e_fld, e_comp, l_nil, l_cons, t_nil, t_cons, gd_0, gd_s, tgSet_n, tgSet_p2, tgSet_t3, nd_cons, dnew_eq, m_eq, m_ne, m_in_l, m_in_t, m_in_d, m_nin_l, m_nin_t, m_nin_d, ix_0l, ix_0t, ix_1l, ix_1t, ix_2l, ix_2t, ix_3l, ix_4l, m_sl, m_get, guardR_and, guardS_and, -List.any_map, -List.all_map, -List.getD_eq_getElem?_getD, -List.map_map, -List.drop_one, ← List.map_take, ← List.map_drop, ← List.map_reverse]
    exact ⟨acc, rfl, h2, fun i hi => h3 i (by omega)⟩
end MM
set_option Elab.async false
set_option linter.all false
set_option maxRecDepth 100000
set_option maxHeartbeats 1000000
namespace MM
open PySem L2 MP TX
variable {Φ : Tab} {fuel : Nat}
end MM
set_option Elab.async false
set_option linter.all false
set_option maxRecDepth 100000
set_option maxHeartbeats 1000000
namespace MM
open PySem L2 MP TX
variable {Φ : Tab} {fuel : Nat}
theorem join_dch (ds : List Bool) : Txt.join "" (ds.map dch) = dstr ds := by
  show Builtin.Str.glued _ _ = _
  rw [StrLaws.glued_eq_join, e_str]
  induction ds with
  | nil => rfl
  | cons a r ih =>
    cases r with
    | nil => rfl
    | cons b t =>
      have e : Str.join (dstr []) ((a :: b :: t).map dch) = dch a ++ dstr [] ++ Str.join (dstr []) ((b :: t).map dch) := rfl
      rw [e, ih]
      show (⟨((dch a).cps ++ (dstr []).cps) ++ (dstr (b :: t)).cps⟩ : Str) = dstr (a :: b :: t)
      simp [dstr, dch]
theorem len_e : ("" : Str).length = 0 := by decide +kernel
theorem rep_ok (n : Nat) (m : Int) (h : n ≤ 100000) (h0 : 0 < m) (h1 : m < 1073741824) : SzOk (List.replicate n m) := ⟨fun s hs => by
  have := List.eq_of_mem_replicate hs; omega, by simpa using h⟩
theorem rep_get {n i : Nat} {m : Int} (h : i < n) : (List.replicate n m).getD i 0 = m := by
  rw [List.getD_eq_getElem?_getD, List.getElem?_replicate, if_pos h]; rfl
theorem RowOk.rep {n : Nat} {m : Int} {r : List Int} (h : RowOk (List.replicate n m) r) : r.length = n ∧ ∀ a ∈ r, 0 ≤ a ∧ a < m := by
  obtain ⟨h1, h2⟩ := h
  rw [List.length_replicate] at h1 h2
  refine ⟨h1, fun a ha => ?_⟩
  obtain ⟨i, hi⟩ := List.mem_iff_getElem?.mp ha
  have hl := lt_of_some hi
  have := h2 i (by omega)
  rw [rep_get (by omega), List.getD_eq_getElem?_getD, hi] at this
  exact this
/-- a history of the depths: deep scratches, the polishing, the others -/
def IsHist (ds : List Bool) (h : List Int) : Prop := ∃ B A, h = B ++ -1 :: A ∧ (B ++ A).Perm (rng 0 ds.length) ∧ ∀ k ∈ B, deep ds k = true
end MM
set_option Elab.async false
set_option linter.all false
set_option maxRecDepth 100000
set_option maxHeartbeats 1000000
namespace MM
open PySem L2 MP TX
variable {Φ : Tab} {fuel : Nat}
/-- the mark that a history leaves -/
def markF (ds : List Bool) (h : List Int) (a b : Int) : Int × Int :=
  if h.idxOf b < h.idxOf a then
    (if deep ds b = true ∧ deep ds a = false ∧ h.idxOf b < h.idxOf (-1) then (b, a) else (a, b))
  else (if deep ds a = true ∧ deep ds b = false ∧ h.idxOf a < h.idxOf (-1) then (a, b) else (b, a))
theorem rng_some {lo : Int} {n i : Nat} {s : Int} (h : (rng lo n)[i]? = some s) : s = lo + i ∧ i < n := by
  have hl := lt_of_some h
  rw [rng_len] at hl
  simp [rng, hl] at h
  exact ⟨h.symm, hl⟩
end MM
set_option Elab.async false
set_option linter.all false
set_option maxRecDepth 100000
set_option maxHeartbeats 1000000
namespace MM
open PySem L2 MP TX
variable {Φ : Tab} {fuel : Nat}
theorem getD_mem {α : Type} {l : List α} {i : Nat} {z : α} (h : i < l.length) : l.getD i z ∈ l := by
  rw [List.getD_eq_getElem?_getD, List.getElem?_eq_getElem h]
  exact List.getElem_mem h
end MM
set_option Elab.async false
set_option linter.all false
set_option maxRecDepth 100000
set_option maxHeartbeats 1000000
namespace MM
open PySem L2 MP TX
variable {Φ : Tab} {fuel : Nat}
/-! ### panes -/
def crF (p : Int × Int) : Int × Int := (if p.2 < p.1 then p.2 else p.1, if p.2 > p.1 then p.2 else p.1)
def CrOfS (f : List D → Res D) : Prop := ∀ a b : Int, f [.int a, .int b] = .ok (dPair (crF (a, b)))
theorem t_crossing_of : CrOfS (runF Φ fuel N_crossing_of.length b_crossing_of) := fun a b => by
  simp only [b_crossing_of, N_crossing_of]
  simp [run_fin, s_skip, s_nev, s_seq, s_asg, s_asgT, s_par, s_aug, s_ifs, s_for, s_ret, s_retN, s_brk, s_cnt, s_expr, s_app, s_appPop, s_setI, s_rev, s_clr, s_ins, s_pop, s_sdApp, s_rem, s_setA, s_dem, s_whl, e_lit, e_gl, e_pk, e_mv, e_o1, e_o2, e_mt, e_o3, e_ch2, e_ch3, e_sl, e_and, e_or, e_ite, e_edict, e_lst, e_tup, e_call, e_fld, e_comp, l_nil, l_cons, t_nil, t_cons, gd_0, gd_s, tgSet_n, tgSet_p2, tgSet_t3, nd_cons, dnew_eq, m_eq, m_ne, m_in_l, m_in_t, m_in_d, m_nin_l, m_nin_t, m_nin_d, ix_0l, ix_0t, ix_1l, ix_1t, ix_2l, ix_2t, ix_3l, ix_4l, m_sl, m_get, guardR_and, guardS_and, -List.any_map, -List.all_map, -List.getD_eq_getElem?_getD, -List.map_map, -List.drop_one, ← List.map_take, ← List.map_drop, ← List.map_reverse, dPair, crF]
def sqD (b : Bool) (xs : List D) : D := match b with
  | true => .lst false xs
  | false => .tup false xs
@[simp] theorem sq_sh (b : Bool) (xs : List D) : (sqD b xs).isSh = D.isShL xs := by cases b <;> rfl
@[simp] theorem sq_fl (b : Bool) (xs : List D) : (sqD b xs).flat = sqD b (D.flatL xs) := by cases b <;> rfl
@[simp] theorem sq_live (b : Bool) (xs : List D) : live (sqD b xs) = .ok (sqD b xs) := by cases b <;> rfl
@[simp] theorem sq_enum (b : Bool) (xs : List D) : itemsOf .enum [sqD b xs] = some (enumD (D.flatL xs) 0) := by cases b <;> rfl
@[simp] theorem sq_tuple (b : Bool) {xs : List D} (h : D.isShL xs = true) (k : xs.length ≤ 100000) : sem1 .tuple (sqD b xs) = .ok (.tup false xs) := by
  cases b
  · rfl
  · show guardR _ _ = _
    rw [h, Bool.true_and, guardR_dec k]
@[simp] theorem strD_ds (ds : List Bool) : strD (dstr ds) = ds.map fun b => .str (dch b) := by simp [strD, dstr, dch]
def CheckDepthsS (f : List D → Res D) : Prop := ∀ ds : List Bool, f [.str (dstr ds)] = .ok .non
theorem keyT_pair (p : Int × Int) : D.keyT (dPair p) = some [.inl p.1, .inl p.2] := rfl
theorem same_pair (p q : Int × Int) : D.sameKey true (dPair p) (dPair q) = decide (p = q) := by
  unfold D.sameKey
  simp only [keyT_pair]
  rw [Bool.eq_iff_iff]
  simp [Prod.ext_iff]
@[simp] theorem okKey_pair (p : Int × Int) : (dPair p).okKey true = true := rfl
@[simp] theorem okKey_tupi (a b : Int) : (D.tup false [.int a, .int b]).okKey true = true := rfl
theorem dlook_pairs (q : Int × Int) : ∀ (ks : List (Int × Int)) (vs : List D), vs.length = ks.length → (dlook true (dPair q) (ks.map dPair) vs).isSome = decide (q ∈ ks)
  | [], vs, _ => by cases vs <;> rfl
  | k :: ks, [], h => by simp at h
  | k :: ks, v :: vs, h => by
    rw [List.map_cons, dlook, same_pair]
    by_cases e : k = q
    · subst e; simp
    · have e2 : q ≠ k := fun z => e z.symm
      simp only [e, decide_false, Bool.false_eq_true, if_false]
      rw [dlook_pairs q ks vs (by simpa using h)]
      simp [e2]
theorem dput_new {q : Int × Int} {ks : List (Int × Int)} {vs : List D} {y : D} (h : vs.length = ks.length) (k : q ∉ ks) : dput true (dPair q) y (ks.map dPair) vs = (ks.map dPair ++ [dPair q], vs ++ [y]) := by
  unfold dput
  have := dlook_pairs q ks vs h
  cases e : dlook true (dPair q) (ks.map dPair) vs with
  | none => rfl
  | some z => rw [e] at this; simp [k] at this
def hcF (h : Int × Int × Int) : Int × Int := (h.1, h.2.1)
/-- marks and hidden crossings of n scratches -/
def CrossOk (n : Nat) (ms : List (Int × Int)) (hs : List (Int × Int × Int)) : Prop := (∀ m ∈ ms, 0 ≤ m.1 ∧ m.1 < n ∧ 0 ≤ m.2 ∧ m.2 < n ∧ m.1 ≠ m.2) ∧ (∀ h ∈ hs, 0 ≤ h.1 ∧ h.1 < h.2.1 ∧ h.2.1 < n) ∧ (ms.map crF ++ hs.map hcF).Nodup ∧ ms.length ≤ 40000 ∧ hs.length ≤ 40000
def check_crossings_I1 (n md hd : D) (ms : List (Int × Int)) (i : Nat) (δ : List D) : Prop := ∃ (vs : List D) (a b c d e f g : D), δ = [n, md, hd, .dct true true (((ms.take i).map crF).map dPair) vs, a, b, c, d, e, f, g] ∧ vs.length = i ∧ D.isShL vs = true
def check_crossings_I2 (n md hd : D) (ms : List (Int × Int)) (hs : List (Int × Int × Int)) (i : Nat) (δ : List D) : Prop := ∃ (vs : List D) (a b c d e f g : D), δ = [n, md, hd, .dct true true ((ms.map crF ++ (hs.take i).map hcF).map dPair) vs, a, b, c, d, e, f, g] ∧ vs.length = ms.length + i ∧ D.isShL vs = true
theorem take_succ_some {α : Type} {l : List α} {i : Nat} {a : α} (h : l[i]? = some a) : l.take (i + 1) = l.take i ++ [a] := by
  rw [List.take_add_one, h]; rfl
theorem nodup_take_new {α : Type} {l : List α} {i : Nat} {a : α} (hn : l.Nodup) (h : l[i]? = some a) : a ∉ l.take i := by
  intro hm
  have h1 : (l.take (i + 1)).Nodup := hn.sublist (List.take_sublist _ _)
  rw [take_succ_some h, List.nodup_append] at h1
  exact h1.2.2 a hm a (by simp) rfl
theorem zip_some {α : Type} {l : List α} {i : Nat} {q : α × Nat} (h : (l.zipIdx 0)[i]? = some q) : l[i]? = some q.1 ∧ q.2 = i := by
  rw [List.getElem?_zipIdx] at h
  cases e : l[i]? with
  | none => rw [e] at h; simp at h
  | some a => rw [e] at h; simp at h; subst h; simp
def NotesOk (n : Nat) (ns : List (Int × Int)) : Prop := (∀ m ∈ ns, -1 ≤ m.1 ∧ m.1 < n ∧ -1 ≤ m.2 ∧ m.2 < n ∧ m.1 ≠ m.2) ∧ ns.length ≤ 40000
def PaneOk (ds : List Bool) (ms : List (Int × Int)) (hs : List (Int × Int × Int)) (ns : List (Int × Int)) : Prop := CrossOk ds.length ms hs ∧ NotesOk ds.length ns ∧ ds.length ≤ 1000
/-- a pane -/
def paneD (o : Bool) (ds : List Bool) (ms : List (Int × Int)) (hs : List (Int × Int × Int)) (ns : List (Int × Int)) : D :=
  .obj o 0 ["depths", "size", "marks", "hidden", "notes"] [.str (dstr ds), .int ds.length, .tup false (ms.map dPair), .tup false (hs.map dTri), .tup false (ns.map dPair)]
def PaneS (f : List D → Res D) : Prop := ∀ (ds : List Bool) (ms : List (Int × Int)) (hs : List (Int × Int × Int)) (ns : List (Int × Int)) (b1 b2 b3 : Bool), PaneOk ds ms hs ns →
  f [.str (dstr ds), sqD b1 (ms.map dPair), sqD b2 (hs.map dTri), sqD b3 (ns.map dPair)] = .ok (paneD true ds ms hs ns)
end MM
set_option Elab.async false
set_option linter.all false
set_option maxRecDepth 100000
set_option maxHeartbeats 1000000
namespace MM
open PySem L2 MP TX
variable {Φ : Tab} {fuel : Nat}
theorem pn_depths (o : Bool) (ds : List Bool) (ms : List (Int × Int)) (hs : List (Int × Int × Int)) (ns : List (Int × Int)) : (paneD o ds ms hs ns).getF "depths" = some (.str (dstr ds)) := by
  have k : (("depths" : Str) == "depths") = true := by decide +kernel
  simp only [paneD, D.getF, List.zip_cons_cons, List.lookup, k]
theorem pn_size (o : Bool) (ds : List Bool) (ms : List (Int × Int)) (hs : List (Int × Int × Int)) (ns : List (Int × Int)) : (paneD o ds ms hs ns).getF "size" = some (.int ds.length) := by
  have k : (("size" : Str) == "depths") = false := by decide +kernel
  have k1 : (("size" : Str) == "size") = true := by decide +kernel
  simp only [paneD, D.getF, List.zip_cons_cons, List.lookup, k, k1]
theorem pn_marks (o : Bool) (ds : List Bool) (ms : List (Int × Int)) (hs : List (Int × Int × Int)) (ns : List (Int × Int)) : (paneD o ds ms hs ns).getF "marks" = some (.tup false (ms.map dPair)) := by
  have k : (("marks" : Str) == "depths") = false := by decide +kernel
  have k1 : (("marks" : Str) == "size") = false := by decide +kernel
  have k2 : (("marks" : Str) == "marks") = true := by decide +kernel
  simp only [paneD, D.getF, List.zip_cons_cons, List.lookup, k, k1, k2]
theorem pn_hidden (o : Bool) (ds : List Bool) (ms : List (Int × Int)) (hs : List (Int × Int × Int)) (ns : List (Int × Int)) : (paneD o ds ms hs ns).getF "hidden" = some (.tup false (hs.map dTri)) := by
  have k : (("hidden" : Str) == "depths") = false := by decide +kernel
  have k1 : (("hidden" : Str) == "size") = false := by decide +kernel
  have k2 : (("hidden" : Str) == "marks") = false := by decide +kernel
  have k3 : (("hidden" : Str) == "hidden") = true := by decide +kernel
  simp only [paneD, D.getF, List.zip_cons_cons, List.lookup, k, k1, k2, k3]
theorem pn_notes (o : Bool) (ds : List Bool) (ms : List (Int × Int)) (hs : List (Int × Int × Int)) (ns : List (Int × Int)) : (paneD o ds ms hs ns).getF "notes" = some (.tup false (ns.map dPair)) := by
  have k : (("notes" : Str) == "depths") = false := by decide +kernel
  have k1 : (("notes" : Str) == "size") = false := by decide +kernel
  have k2 : (("notes" : Str) == "marks") = false := by decide +kernel
  have k3 : (("notes" : Str) == "hidden") = false := by decide +kernel
  have k4 : (("notes" : Str) == "notes") = true := by decide +kernel
  simp only [paneD, D.getF, List.zip_cons_cons, List.lookup, k, k1, k2, k3, k4]
@[simp] theorem pn_live (o : Bool) (ds : List Bool) (ms : List (Int × Int)) (hs : List (Int × Int × Int)) (ns : List (Int × Int)) : live (paneD o ds ms hs ns) = .ok (paneD o ds ms hs ns) := rfl
@[simp] theorem pn_flat (o : Bool) (ds : List Bool) (ms : List (Int × Int)) (hs : List (Int × Int × Int)) (ns : List (Int × Int)) : (paneD o ds ms hs ns).flat = paneD false ds ms hs ns := by simp [paneD]
@[simp] theorem pn_sh (ds : List Bool) (ms : List (Int × Int)) (hs : List (Int × Int × Int)) (ns : List (Int × Int)) : (paneD false ds ms hs ns).isSh = true := by simp [paneD]
@[simp] theorem isI_int (i : Int) (k : MP.Kind) : (D.int i).isI k = .ok (.bl (k == .int)) := by cases k <;> rfl
@[simp] theorem isI_bl (b : Bool) (k : MP.Kind) : (D.bl b).isI k = .ok (.bl (k == .int || k == .bool)) := by cases k <;> rfl
@[simp] theorem isI_str (x : Str) (k : MP.Kind) : (D.str x).isI k = .ok (.bl (k == .str)) := by cases k <;> rfl
@[simp] theorem isI_lst (o : Bool) (xs : List D) (k : MP.Kind) : (D.lst o xs).isI k = .ok (.bl (k == .list)) := by cases k <;> rfl
@[simp] theorem isI_tup (o : Bool) (xs : List D) (k : MP.Kind) : (D.tup o xs).isI k = .ok (.bl (k == .tup)) := by cases k <;> rfl
@[simp] theorem isI_pair (p : Int × Int) (k : MP.Kind) : (dPair p).isI k = .ok (.bl (k == .tup)) := by cases k <;> rfl
@[simp] theorem isI_tri (p : Int × Int × Int) (k : MP.Kind) : (dTri p).isI k = .ok (.bl (k == .tup)) := by cases k <;> rfl
@[simp] theorem isI_non (k : MP.Kind) : D.non.isI k = .ok (.bl false) := by cases k <;> rfl
@[simp] theorem isI_pane (o : Bool) (ds : List Bool) (ms : List (Int × Int)) (hs : List (Int × Int × Int)) (ns : List (Int × Int)) : (paneD o ds ms hs ns).isI (.cls 0) = .ok (.bl true) := rfl
theorem allR {α : Type} (l : List α) (g : α → Bool) : (Res.ok (D.lst true (D.flatL (l.map fun a => D.bl (g a))))).bind (sem1 .all) = .ok (.bl (l.all g)) := by
  rw [show (l.map fun a => D.bl (g a)) = (l.map g).map D.bl by rw [List.map_map]; rfl, fll_bls, bind_ok, m_all, List.all_map]
  rfl
def IsIntS (f : List D → Res D) : Prop := ∀ i : Int, f [.int i] = .ok (.bl true)
theorem t_is_integer : IsIntS (runF Φ fuel N_law_is_integer.length b_law_is_integer) := fun i => by
  simp only [b_law_is_integer, N_law_is_integer]
  simp [run_fin, s_skip, s_nev, s_seq, s_asg, s_asgT, s_par, s_aug, s_ifs, s_for, s_ret, s_retN, s_brk, s_cnt, s_expr, s_app, s_appPop, s_setI, s_rev, s_clr, s_ins, s_pop, s_sdApp, s_rem, s_setA, s_dem, s_whl, e_lit, e_gl, e_pk, e_mv, e_o1, e_o2, e_mt, e_o3, e_ch2, e_ch3, e_sl, e_and, e_or, e_ite, e_edict, e_lst, e_tup, e_call, e_fld, e_comp, l_nil, l_cons, t_nil, t_cons, gd_0, gd_s, tgSet_n, tgSet_p2, tgSet_t3, nd_cons, dnew_eq, m_eq, m_ne, m_in_l, m_in_t, m_in_d, m_nin_l, m_nin_t, m_nin_d, ix_0l, ix_0t, ix_1l, ix_1t, ix_2l, ix_2t, ix_3l, ix_4l, m_sl, m_get, guardR_and, guardS_and, -List.any_map, -List.all_map, -List.getD_eq_getElem?_getD, -List.map_map, -List.drop_one, ← List.map_take, ← List.map_drop, ← List.map_reverse]
theorem insI_perm (x : Int) : ∀ l : List Int, (insI x l).Perm (x :: l)
  | [] => List.Perm.refl _
  | y :: r => by
    unfold insI
    split
    · exact List.Perm.refl _
    · exact (List.Perm.cons y (insI_perm x r)).trans (List.Perm.swap x y r)
theorem isortI_perm : ∀ l : List Int, (isortI l).Perm l
  | [] => List.Perm.refl _
  | x :: r => (insI_perm x _).trans (List.Perm.cons x (isortI_perm r))
/-- is a list of numbers a history of the depths? -/
def histB (ds : List Bool) (ev : List Int) : Bool := decide (isortI ev = rng (-1) (ds.length + 1)) && (ev.take (ev.idxOf (-1))).all (deep ds)
theorem perm_of_sort {ev : List Int} {n : Nat} (h : isortI ev = rng (-1) (n + 1)) : ev.Perm (rng (-1) (n + 1)) := h ▸ (isortI_perm ev).symm
theorem pol_mem {ev : List Int} {n : Nat} (h : ev.Perm (rng (-1) (n + 1))) : -1 ∈ ev := h.mem_iff.mpr (mem_rng.mpr (by omega))
/-! the same tuples -/
def SameTupS (f : List D → Res D) : Prop := (∀ ps : List (Int × Int), ps.length ≤ 50000 → f [.tup false (ps.map dPair), .lst false (ps.map dPair)] = .ok (.bl true)) ∧ ∀ ps : List (Int × Int × Int), ps.length ≤ 50000 → f [.tup false (ps.map dTri), .lst false (ps.map dTri)] = .ok (.bl true)
theorem t_same_tuples (hi : IsIntS (Φ.fn 4)) : SameTupS (runF Φ fuel N_law_same_tuples.length b_law_same_tuples) := by
  refine ⟨fun ps hl => ?_, fun ps hl => ?_⟩
  · have L1 : ∃ δ', forL (.n 2) (fun δ' => evalS Φ fuel b_law_same_tuples_L1 δ') ((rng 0 ps.length).map D.int) [.tup false (ps.map dPair), .lst false (ps.map dPair), .dead, .dead] = .nx δ' ∧ ∃ x y, δ' = [.tup false (ps.map dPair), .lst false (ps.map dPair), x, y] := by
      refine forL_go (fun _ δ' => ∃ x y, δ' = [.tup false (ps.map dPair), .lst false (ps.map dPair), x, y]) _ _ ⟨_, _, rfl⟩ (fun i s δ hi' hJ => ?_)
      obtain ⟨x, y, rfl⟩ := hJ
      obtain ⟨rfl, hlt⟩ := rng_some hi'
      refine ⟨_, rfl, ?_⟩
      simp only [b_law_same_tuples_L1]
      simp [run_fin, s_skip, s_nev, s_seq, s_asg, s_asgT, s_par, s_aug, s_ifs, s_for, s_ret, s_retN, s_brk, s_cnt, s_expr, s_app, s_appPop, s_setI, s_rev, s_clr, s_ins, s_pop, s_sdApp, s_rem, s_setA, s_dem, s_whl, e_lit, e_gl, e_pk, e_mv, e_o1, e_o2, e_mt, e_o3, e_ch2, e_ch3, e_sl, e_and, e_or, e_ite, e_edict, e_lst, e_tup, e_call, e_fld, e_comp, l_nil, l_cons, t_nil, t_cons, gd_0, gd_s, tgSet_n, tgSet_p2, tgSet_t3, nd_cons, dnew_eq, m_eq, m_ne, m_in_l, m_in_t, m_in_d, m_nin_l, m_nin_t, m_nin_d, ix_0l, ix_0t, ix_1l, ix_1t, ix_2l, ix_2t, ix_3l, ix_4l, m_sl, m_get, guardR_and, guardS_and, -List.any_map, -List.all_map, -List.getD_eq_getElem?_getD, -List.map_map, -List.drop_one, ← List.map_take, ← List.map_drop, ← List.map_reverse, ix_pair (l := ps) (i := (i : Int)) (by omega) (by omega), ix_pairT (l := ps) (i := (i : Int)) (by omega) (by omega), -List.map_cons]
      rw [compR_all (g := fun _ => .bl true) (fun a ha => ⟨_, rfl, by simp [run_fin, s_skip, s_nev, s_seq, s_asg, s_asgT, s_par, s_aug, s_ifs, s_for, s_ret, s_retN, s_brk, s_cnt, s_expr, s_app, s_appPop, s_setI, s_rev, s_clr, s_ins, s_pop, s_sdApp, s_rem, s_setA, s_dem, s_whl, e_lit, e_gl, e_pk, e_mv, e_o1, e_o2, e_mt, e_o3, e_ch2, e_ch3, e_sl, e_and, e_or, e_ite, e_edict, e_lst, e_tup, e_call, e_fld, e_comp, l_nil, l_cons, t_nil, t_cons, gd_0, gd_s, tgSet_n, tgSet_p2, tgSet_t3, nd_cons, dnew_eq, m_eq, m_ne, m_in_l, m_in_t, m_in_d, m_nin_l, m_nin_t, m_nin_d, ix_0l, ix_0t, ix_1l, ix_1t, ix_2l, ix_2t, ix_3l, ix_4l, m_sl, m_get, guardR_and, guardS_and, -List.any_map, -List.all_map, -List.getD_eq_getElem?_getD, -List.map_map, -List.drop_one, ← List.map_take, ← List.map_drop, ← List.map_reverse, hi a]⟩) (by simp)]
      rw [allR _ (fun _ => true)]
      simp [run_fin, s_skip, s_nev, s_seq, s_asg, s_asgT, s_par, s_aug, s_ifs, s_for, s_ret, s_retN, s_brk, s_cnt, s_expr, s_app, s_appPop, s_setI, s_rev, s_clr, s_ins, s_pop, s_sdApp, s_rem, s_setA, s_dem, s_whl, e_lit, e_gl, e_pk, e_mv, e_o1, e_o2, e_mt, e_o3, e_ch2, e_ch3, e_sl, e_and, e_or, e_ite, e_edict, e_lst, e_tup, e_call, e_fld, e_comp, l_nil, l_cons, t_nil, t_cons, gd_0, gd_s, tgSet_n, tgSet_p2, tgSet_t3, nd_cons, dnew_eq, m_eq, m_ne, m_in_l, m_in_t, m_in_d, m_nin_l, m_nin_t, m_nin_d, ix_0l, ix_0t, ix_1l, ix_1t, ix_2l, ix_2t, ix_3l, ix_4l, m_sl, m_get, guardR_and, guardS_and, -List.any_map, -List.all_map, -List.getD_eq_getElem?_getD, -List.map_map, -List.drop_one, ← List.map_take, ← List.map_drop, ← List.map_reverse, ix_pair (l := ps) (i := (i : Int)) (by omega) (by omega), ix_pairT (l := ps) (i := (i : Int)) (by omega) (by omega)]
    simp only [b_law_same_tuples, N_law_same_tuples]
    simp [run_fin, s_skip, s_nev, s_seq, s_asg, s_asgT, s_par, s_aug, s_ifs, s_for, s_ret, s_retN, s_brk, s_cnt, s_expr, s_app, s_appPop, s_setI, s_rev, s_clr, s_ins, s_pop, s_sdApp, s_rem, s_setA, s_dem, s_whl, e_lit, e_gl, e_pk, e_mv, e_o1, e_o2, e_mt, e_o3, e_ch2, e_ch3, e_sl, e_and, e_or, e_ite, e_edict, e_lst, e_tup, e_call, e_fld, e_comp, l_nil, l_cons, t_nil, t_cons, gd_0, gd_s, tgSet_n, tgSet_p2, tgSet_t3, nd_cons, dnew_eq, m_eq, m_ne, m_in_l, m_in_t, m_in_d, m_nin_l, m_nin_t, m_nin_d, ix_0l, ix_0t, ix_1l, ix_1t, ix_2l, ix_2t, ix_3l, ix_4l, m_sl, m_get, guardR_and, guardS_and, -List.any_map, -List.all_map, -List.getD_eq_getElem?_getD, -List.map_map, -List.drop_one, ← List.map_take, ← List.map_drop, ← List.map_reverse, it_r1 (j := (ps.length : Int)) (by omega)]
    obtain ⟨δ', h1, x, y, rfl⟩ := L1
    rw [h1]
    simp [run_fin, s_skip, s_nev, s_seq, s_asg, s_asgT, s_par, s_aug, s_ifs, s_for, s_ret, s_retN, s_brk, s_cnt, s_expr, s_app, s_appPop, s_setI, s_rev, s_clr, s_ins, s_pop, s_sdApp, s_rem, s_setA, s_dem, s_whl, e_lit, e_gl, e_pk, e_mv, e_o1, e_o2, e_mt, e_o3, e_ch2, e_ch3, e_sl, e_and, e_or, e_ite, e_edict, e_lst, e_tup, e_call, e_fld, e_comp, l_nil, l_cons, t_nil, t_cons, gd_0, gd_s, tgSet_n, tgSet_p2, tgSet_t3, nd_cons, dnew_eq, m_eq, m_ne, m_in_l, m_in_t, m_in_d, m_nin_l, m_nin_t, m_nin_d, ix_0l, ix_0t, ix_1l, ix_1t, ix_2l, ix_2t, ix_3l, ix_4l, m_sl, m_get, guardR_and, guardS_and, -List.any_map, -List.all_map, -List.getD_eq_getElem?_getD, -List.map_map, -List.drop_one, ← List.map_take, ← List.map_drop, ← List.map_reverse]
  · have L1 : ∃ δ', forL (.n 2) (fun δ' => evalS Φ fuel b_law_same_tuples_L1 δ') ((rng 0 ps.length).map D.int) [.tup false (ps.map dTri), .lst false (ps.map dTri), .dead, .dead] = .nx δ' ∧ ∃ x y, δ' = [.tup false (ps.map dTri), .lst false (ps.map dTri), x, y] := by
      refine forL_go (fun _ δ' => ∃ x y, δ' = [.tup false (ps.map dTri), .lst false (ps.map dTri), x, y]) _ _ ⟨_, _, rfl⟩ (fun i s δ hi' hJ => ?_)
      obtain ⟨x, y, rfl⟩ := hJ
      obtain ⟨rfl, hlt⟩ := rng_some hi'
      refine ⟨_, rfl, ?_⟩
      simp only [b_law_same_tuples_L1]
      simp [run_fin, s_skip, s_nev, s_seq, s_asg, s_asgT, s_par, s_aug, s_ifs, s_for, s_ret, s_retN, s_brk, s_cnt, s_expr, s_app, s_appPop, s_setI, s_rev, s_clr, s_ins, s_pop, s_sdApp, s_rem, s_setA, s_dem, s_whl, e_lit, e_gl, e_pk, e_mv, e_o1, e_o2, e_mt, e_o3, e_ch2, e_ch3, e_sl, e_and, e_or, e_ite, e_edict, e_lst, e_tup, e_call, e_fld, e_comp, l_nil, l_cons, t_nil, t_cons, gd_0, gd_s, tgSet_n, tgSet_p2, tgSet_t3, nd_cons, dnew_eq, m_eq, m_ne, m_in_l, m_in_t, m_in_d, m_nin_l, m_nin_t, m_nin_d, ix_0l, ix_0t, ix_1l, ix_1t, ix_2l, ix_2t, ix_3l, ix_4l, m_sl, m_get, guardR_and, guardS_and, -List.any_map, -List.all_map, -List.getD_eq_getElem?_getD, -List.map_map, -List.drop_one, ← List.map_take, ← List.map_drop, ← List.map_reverse, ix_tri (l := ps) (i := (i : Int)) (by omega) (by omega), ix_triT (l := ps) (i := (i : Int)) (by omega) (by omega), -List.map_cons]
      rw [compR_all (g := fun _ => .bl true) (fun a ha => ⟨_, rfl, by simp [run_fin, s_skip, s_nev, s_seq, s_asg, s_asgT, s_par, s_aug, s_ifs, s_for, s_ret, s_retN, s_brk, s_cnt, s_expr, s_app, s_appPop, s_setI, s_rev, s_clr, s_ins, s_pop, s_sdApp, s_rem, s_setA, s_dem, s_whl, e_lit, e_gl, e_pk, e_mv, e_o1, e_o2, e_mt, e_o3, e_ch2, e_ch3, e_sl, e_and, e_or, e_ite, e_edict, e_lst, e_tup, e_call, e_fld, e_comp, l_nil, l_cons, t_nil, t_cons, gd_0, gd_s, tgSet_n, tgSet_p2, tgSet_t3, nd_cons, dnew_eq, m_eq, m_ne, m_in_l, m_in_t, m_in_d, m_nin_l, m_nin_t, m_nin_d, ix_0l, ix_0t, ix_1l, ix_1t, ix_2l, ix_2t, ix_3l, ix_4l, m_sl, m_get, guardR_and, guardS_and, -List.any_map, -List.all_map, -List.getD_eq_getElem?_getD, -List.map_map, -List.drop_one, ← List.map_take, ← List.map_drop, ← List.map_reverse, hi a]⟩) (by simp)]
      rw [allR _ (fun _ => true)]
      simp [run_fin, s_skip, s_nev, s_seq, s_asg, s_asgT, s_par, s_aug, s_ifs, s_for, s_ret, s_retN, s_brk, s_cnt, s_expr, s_app, s_appPop, s_setI, s_rev, s_clr, s_ins, s_pop, s_sdApp, s_rem, s_setA, s_dem, s_whl, e_lit, e_gl, e_pk, e_mv, e_o1, e_o2, e_mt, e_o3, e_ch2, e_ch3, e_sl, e_and, e_or, e_ite, e_edict, e_lst, e_tup, e_call, e_fld, e_comp, l_nil, l_cons, t_nil, t_cons, gd_0, gd_s, tgSet_n, tgSet_p2, tgSet_t3, nd_cons, dnew_eq, m_eq, m_ne, m_in_l, m_in_t, m_in_d, m_nin_l, m_nin_t, m_nin_d, ix_0l, ix_0t, ix_1l, ix_1t, ix_2l, ix_2t, ix_3l, ix_4l, m_sl, m_get, guardR_and, guardS_and, -List.any_map, -List.all_map, -List.getD_eq_getElem?_getD, -List.map_map, -List.drop_one, ← List.map_take, ← List.map_drop, ← List.map_reverse, ix_tri (l := ps) (i := (i : Int)) (by omega) (by omega), ix_triT (l := ps) (i := (i : Int)) (by omega) (by omega)]
    simp only [b_law_same_tuples, N_law_same_tuples]
    simp [run_fin, s_skip, s_nev, s_seq, s_asg, s_asgT, s_par, s_aug, s_ifs, s_for, s_ret, s_retN, s_brk, s_cnt, s_expr, s_app, s_appPop, s_setI, s_rev, s_clr, s_ins, s_pop, s_sdApp, s_rem, s_setA, s_dem, s_whl, e_lit, e_gl, e_pk, e_mv, e_o1, e_o2, e_mt, e_o3, e_ch2, e_ch3, e_sl, e_and, e_or, e_ite, e_edict, e_lst, e_tup, e_call, e_fld, e_comp, l_nil, l_cons, t_nil, t_cons, gd_0, gd_s, tgSet_n, tgSet_p2, tgSet_t3, nd_cons, dnew_eq, m_eq, m_ne, m_in_l, m_in_t, m_in_d, m_nin_l, m_nin_t, m_nin_d, ix_0l, ix_0t, ix_1l, ix_1t, ix_2l, ix_2t, ix_3l, ix_4l, m_sl, m_get, guardR_and, guardS_and, -List.any_map, -List.all_map, -List.getD_eq_getElem?_getD, -List.map_map, -List.drop_one, ← List.map_take, ← List.map_drop, ← List.map_reverse, it_r1 (j := (ps.length : Int)) (by omega)]
    obtain ⟨δ', h1, x, y, rfl⟩ := L1
    rw [h1]
    simp [run_fin, s_skip, s_nev, s_seq, s_asg, s_asgT, s_par, s_aug, s_ifs, s_for, s_ret, s_retN, s_brk, s_cnt, s_expr, s_app, s_appPop, s_setI, s_rev, s_clr, s_ins, s_pop, s_sdApp, s_rem, s_setA, s_dem, s_whl, e_lit, e_gl, e_pk, e_mv, e_o1, e_o2, e_mt, e_o3, e_ch2, e_ch3, e_sl, e_and, e_or, e_ite, e_edict, e_lst, e_tup, e_call, e_fld, e_comp, l_nil, l_cons, t_nil, t_cons, gd_0, gd_s, tgSet_n, tgSet_p2, tgSet_t3, nd_cons, dnew_eq, m_eq, m_ne, m_in_l, m_in_t, m_in_d, m_nin_l, m_nin_t, m_nin_d, ix_0l, ix_0t, ix_1l, ix_1t, ix_2l, ix_2t, ix_3l, ix_4l, m_sl, m_get, guardR_and, guardS_and, -List.any_map, -List.all_map, -List.getD_eq_getElem?_getD, -List.map_map, -List.drop_one, ← List.map_take, ← List.map_drop, ← List.map_reverse]
def IsPaneS (f : List D → Res D) : Prop := ∀ (ds : List Bool) (ms : List (Int × Int)) (hs : List (Int × Int × Int)) (ns : List (Int × Int)), PaneOk ds ms hs ns → f [paneD false ds ms hs ns, .str (dstr ds), .lst false (ms.map dPair), .lst false (hs.map dTri), .lst false (ns.map dPair)] = .ok (.bl true)
theorem t_is_pane (hi : IsIntS (Φ.fn 4)) (hs : SameTupS (Φ.fn 6)) : IsPaneS (runF Φ fuel N_law_is_pane.length b_law_is_pane) := fun ds ms hd ns h => by
  obtain ⟨h1, h2, h3⟩ := h
  have l1 := h1.2.2.2
  have l2 := h2.2
  simp only [b_law_is_pane, N_law_is_pane]
  simp [run_fin, s_skip, s_nev, s_seq, s_asg, s_asgT, s_par, s_aug, s_ifs, s_for, s_ret, s_retN, s_brk, s_cnt, s_expr, s_app, s_appPop, s_setI, s_rev, s_clr, s_ins, s_pop, s_sdApp, s_rem, s_setA, s_dem, s_whl, e_lit, e_gl, e_pk, e_mv, e_o1, e_o2, e_mt, e_o3, e_ch2, e_ch3, e_sl, e_and, e_or, e_ite, e_edict, e_lst, e_tup, e_call, e_fld, e_comp, l_nil, l_cons, t_nil, t_cons, gd_0, gd_s, tgSet_n, tgSet_p2, tgSet_t3, nd_cons, dnew_eq, m_eq, m_ne, m_in_l, m_in_t, m_in_d, m_nin_l, m_nin_t, m_nin_d, ix_0l, ix_0t, ix_1l, ix_1t, ix_2l, ix_2t, ix_3l, ix_4l, m_sl, m_get, guardR_and, guardS_and, -List.any_map, -List.all_map, -List.getD_eq_getElem?_getD, -List.map_map, -List.drop_one, ← List.map_take, ← List.map_drop, ← List.map_reverse, pn_depths, pn_size, pn_marks, pn_hidden, pn_notes, hi ds.length, hs.1 ms (by omega), hs.2 hd (by omega), hs.1 ns (by omega), show ds.length ≤ 100000 by omega]
end MM
set_option Elab.async false
set_option linter.all false
set_option maxRecDepth 100000
set_option maxHeartbeats 2000000
namespace MM
open PySem L2 MP TX
variable {Φ : Tab} {fuel : Nat}
theorem IsHist.perm {ds : List Bool} {h : List Int} (H : IsHist ds h) : h.Perm (rng (-1) (ds.length + 1)) := by
  obtain ⟨B, A, rfl, hp, hd⟩ := H
  have e : rng (-1) (ds.length + 1) = -1 :: rng 0 ds.length := by
    unfold rng
    rw [List.range_succ_eq_map, List.map_cons, List.map_map]
    congr 1
    apply List.map_congr_left
    intro a _
    simp only [Function.comp_apply]
    omega
  rw [e]
  exact List.perm_middle.trans (List.Perm.cons _ hp)
theorem IsHist.nodup {ds : List Bool} {h : List Int} (H : IsHist ds h) : h.Nodup := H.perm.nodup_iff.mpr (rng_nodup _ _)
theorem IsHist.len {ds : List Bool} {h : List Int} (H : IsHist ds h) : h.length = ds.length + 1 := by rw [H.perm.length_eq]; simp
end MM
set_option Elab.async false
set_option linter.all false
set_option maxRecDepth 100000
set_option maxHeartbeats 2000000
namespace MM
open PySem L2 MP TX
variable {Φ : Tab} {fuel : Nat}
def Pane0S (f : List D → Res D) : Prop := ∀ (ds : List Bool), ds.length ≤ 1000 → f [.str (dstr ds)] = .ok (paneD true ds [] [] [])
theorem pane0 {ds : List Bool} (h : ds.length ≤ 1000) : PaneOk ds [] [] [] := ⟨⟨by simp, by simp, by simp, by simp, by simp⟩, ⟨by simp, by simp⟩, h⟩
def lD (ev : List Int) : D := .lst false (ev.map D.int)
def LawS (f : List D → Res D) : Prop := ∀ ns : List Int, ns.length ≤ 63 → f [.scr ns] = .ok (.bl true)
end MM
set_option Elab.async false
set_option linter.all false
set_option maxRecDepth 100000
set_option maxHeartbeats 2000000
namespace MM
open PySem L2 MP TX
variable {Φ : Tab} {fuel : Nat}
end MM
set_option Elab.async false
set_option linter.all false
set_option maxRecDepth 100000
set_option maxHeartbeats 2000000
namespace MM
open PySem L2 MP TX
variable {Φ : Tab} {fuel : Nat}
/-! ### histories: the two forms -/
theorem insI_sorted (x : Int) : ∀ l : List Int, l.Pairwise (· ≤ ·) → (insI x l).Pairwise (· ≤ ·)
  | [], _ => by simp [insI]
  | y :: r, h => by
    unfold insI
    rw [List.pairwise_cons] at h
    split
    · rename_i hxy
      rw [List.pairwise_cons]
      refine ⟨fun z hz => ?_, List.pairwise_cons.mpr h⟩
      rcases List.mem_cons.mp hz with rfl | hz
      · exact hxy
      · have := h.1 z hz; omega
    · rename_i hxy
      rw [List.pairwise_cons]
      refine ⟨fun z hz => ?_, insI_sorted x r h.2⟩
      rcases List.mem_cons.mp ((insI_perm x r).mem_iff.mp hz) with rfl | hz
      · omega
      · exact h.1 z hz
theorem isortI_sorted : ∀ l : List Int, (isortI l).Pairwise (· ≤ ·)
  | [] => List.Pairwise.nil
  | x :: r => insI_sorted x _ (isortI_sorted r)
theorem rng_sorted (lo : Int) (n : Nat) : (rng lo n).Pairwise (· ≤ ·) := by
  unfold rng
  rw [List.pairwise_map]
  exact (List.pairwise_lt_range (n := n)).imp (fun h => by omega)
theorem sorted_eq {a b : List Int} (ha : a.Pairwise (· ≤ ·)) (hb : b.Pairwise (· ≤ ·)) (h : a.Perm b) : a = b :=
  h.eq_of_pairwise (fun x y _ _ h1 h2 => by omega) ha hb
theorem isort_of_perm {l : List Int} {lo : Int} {n : Nat} (h : l.Perm (rng lo n)) : isortI l = rng lo n :=
  sorted_eq (isortI_sorted l) (rng_sorted lo n) ((isortI_perm l).trans h)
theorem rng_neg (n : Nat) : rng (-1) (n + 1) = -1 :: rng 0 n := by
  unfold rng
  rw [List.range_succ_eq_map, List.map_cons, List.map_map]
  congr 1
  apply List.map_congr_left
  intro a _
  simp only [Function.comp_apply]
  omega
theorem idx_mid {B A : List Int} (h : (-1 : Int) ∉ B) : (B ++ -1 :: A).idxOf (-1) = B.length := by
  rw [List.idxOf_append, if_neg h]; simp
theorem isHist_iff {ds : List Bool} {h : List Int} : IsHist ds h ↔ h.Perm (rng (-1) (ds.length + 1)) ∧ ∀ k ∈ h.take (h.idxOf (-1)), deep ds k = true := by
  constructor
  · intro H
    refine ⟨H.perm, ?_⟩
    have hnd := H.nodup
    obtain ⟨B, A, rfl, hp, hd⟩ := H
    have : (-1 : Int) ∉ B := fun hm => (List.nodup_append.mp hnd).2.2 _ hm _ List.mem_cons_self rfl
    rw [idx_mid this, List.take_left]
    exact hd
  · rintro ⟨hp, hd⟩
    have hm := pol_mem hp
    have hlt := List.idxOf_lt_length_of_mem hm
    have hget : h[h.idxOf (-1)]'hlt = -1 := by
      have := List.getElem_idxOf (x := (-1 : Int)) (xs := h) hlt
      exact this
    refine ⟨h.take (h.idxOf (-1)), h.drop (h.idxOf (-1) + 1), ?_, ?_, hd⟩
    · have e := List.drop_eq_getElem_cons hlt
      rw [hget] at e
      rw [← e, List.take_append_drop]
    · have e := List.drop_eq_getElem_cons hlt
      rw [hget] at e
      have h2 : h.Perm (-1 :: (h.take (h.idxOf (-1)) ++ h.drop (h.idxOf (-1) + 1))) := by
        have : h = h.take (h.idxOf (-1)) ++ -1 :: h.drop (h.idxOf (-1) + 1) := by rw [← e, List.take_append_drop]
        exact (this ▸ List.Perm.refl h : h.Perm (h.take (h.idxOf (-1)) ++ -1 :: h.drop (h.idxOf (-1) + 1))).trans List.perm_middle
      have h3 := h2.symm.trans hp
      rw [rng_neg] at h3
      exact List.Perm.cons_inv h3
theorem histB_iff {ds : List Bool} {h : List Int} : histB ds h = true ↔ IsHist ds h := by
  rw [isHist_iff]
  unfold histB
  rw [Bool.and_eq_true, decide_eq_true_eq, List.all_eq_true]
  constructor
  · rintro ⟨a, b⟩; exact ⟨perm_of_sort a, b⟩
  · rintro ⟨a, b⟩; exact ⟨isort_of_perm a, b⟩
end MM
set_option Elab.async false
set_option linter.all false
set_option maxRecDepth 100000
set_option maxHeartbeats 2000000
namespace MM
open PySem L2 MP TX
variable {Φ : Tab} {fuel : Nat}
end MM
set_option Elab.async false
set_option linter.all false
set_option maxRecDepth 100000
set_option maxHeartbeats 2000000
namespace MM
open PySem L2 MP TX
variable {Φ : Tab} {fuel : Nat}
end MM
set_option Elab.async false
set_option linter.all false
set_option maxRecDepth 100000
set_option maxHeartbeats 2000000
namespace MM
open PySem L2 MP TX
variable {Φ : Tab} {fuel : Nat}
theorem forL_all {α : Type} {f : α → D} {tg : Tg} {b : List D → SR} (p : α → Bool) (J : List D → Prop) : ∀ (l : List α) (δ : List D), J δ →
    (∀ a ∈ l, ∀ δ, J δ → ∃ δ1, tgSet tg (f a) δ = some δ1 ∧ (p a = true → Nxt J (b δ1)) ∧ (p a = false → b δ1 = .rt (.bl false))) →
    (l.all p = true ∧ ∃ δ', forL tg b (l.map f) δ = .nx δ' ∧ J δ') ∨ (l.all p = false ∧ forL tg b (l.map f) δ = .rt (.bl false))
  | [], δ, h, _ => .inl ⟨rfl, δ, rfl, h⟩
  | a :: r, δ, h, s => by
    obtain ⟨δ1, h1, h2, h3⟩ := s a List.mem_cons_self δ h
    rw [List.map_cons, forL, h1, List.all_cons]
    simp only []
    cases q : p a with
    | false => rw [h3 q]; exact .inr ⟨rfl, rfl⟩
    | true =>
      have h4 := h2 q
      have ih := fun δ2 k => forL_all p J r δ2 k (fun a ha => s a (List.mem_cons_of_mem _ ha))
      rw [Bool.true_and]
      cases hb : b δ1 with
      | nx δ2 => rw [hb] at h4; exact ih δ2 h4
      | ct δ2 => rw [hb] at h4; exact ih δ2 h4
      | _ => rw [hb] at h4; exact h4.elim
/-- does a list of numbers fit? -/
def fitsB (ds : List Bool) (ms ns : List (Int × Int)) (ev : List Int) : Bool := histB ds ev && (ms.all (fun m => decide (markF ds ev m.1 m.2 = m)) && ns.all fun n => !decide (ev.idxOf n.2 < ev.idxOf n.1))
def MarksIn (ds : List Bool) (ms : List (Int × Int)) : Prop := ∀ m ∈ ms, 0 ≤ m.1 ∧ m.1 < ds.length ∧ 0 ≤ m.2 ∧ m.2 < ds.length
def NotesIn (ds : List Bool) (ns : List (Int × Int)) : Prop := ∀ m ∈ ns, -1 ≤ m.1 ∧ m.1 < ds.length ∧ -1 ≤ m.2 ∧ m.2 < ds.length
theorem PaneOk.marks {ds : List Bool} {ms : List (Int × Int)} {hs : List (Int × Int × Int)} {ns : List (Int × Int)} (h : PaneOk ds ms hs ns) : MarksIn ds ms := fun m hm => by have := h.1.1 m hm; omega
theorem PaneOk.notes {ds : List Bool} {ms : List (Int × Int)} {hs : List (Int × Int × Int)} {ns : List (Int × Int)} (h : PaneOk ds ms hs ns) : NotesIn ds ns := fun m hm => by have := h.2.1.1 m hm; omega
theorem sh_evs (evs : List (List Int)) : D.isShL (evs.map lD) = true := sh_map (fun a => by simp [lD]) evs
end MM
set_option Elab.async false
set_option linter.all false
set_option maxRecDepth 100000
set_option maxHeartbeats 2000000
namespace MM
open PySem L2 MP TX
variable {Φ : Tab} {fuel : Nat}
/-- a mark or a note the other way round -/
theorem crF_swap (p : Int × Int) : crF (p.2, p.1) = crF p := by
  unfold crF
  simp only [Prod.mk.injEq]
  constructor <;> split <;> split <;> omega
end MM
set_option Elab.async false
set_option linter.all false
set_option maxRecDepth 100000
set_option maxHeartbeats 2000000
namespace MM
open PySem L2 MP TX
variable {Φ : Tab} {fuel : Nat}
end MM
set_option Elab.async false
set_option linter.all false
set_option maxRecDepth 100000
set_option maxHeartbeats 2000000
namespace MM
open PySem L2 MP TX
variable {Φ : Tab} {fuel : Nat}
@[simp] theorem sq_seq (b : Bool) (xs : List D) : itemsOf .seq [sqD b xs] = some (D.flatL xs) := by cases b <;> rfl
@[simp] theorem isin_sq (b : Bool) (x : Int) (cs : List Int) : sem2 .isin (.int x) (sqD b (cs.map D.int)) = .ok (.bl (decide (x ∈ cs))) := by
  cases b
  · show sem2 .isin (.int x) (.tup false (cs.map D.int)) = _
    rw [m_in_t, fd_ints, any_ints]; rfl
  · show sem2 .isin (.int x) (.lst false (cs.map D.int)) = _
    rw [m_in_l, eo_ints, eo_int, any_ints]; rfl
end MM
set_option Elab.async false
set_option linter.all false
set_option maxRecDepth 100000
set_option maxHeartbeats 2000000
namespace MM
open PySem L2 MP TX
variable {Φ : Tab} {fuel : Nat}
end MM
set_option Elab.async false
set_option linter.all false
set_option maxRecDepth 100000
set_option maxHeartbeats 2000000
namespace MM
open PySem L2 MP TX
variable {Φ : Tab} {fuel : Nat}
end MM
set_option Elab.async false
set_option linter.all false
set_option maxRecDepth 100000
set_option maxHeartbeats 2000000
namespace MM
open PySem L2 MP TX
variable {Φ : Tab} {fuel : Nat}
def CheckPairsS (f : List D → Res D) : Prop := ∀ (ds : List Bool) (ms : List (Int × Int)) (hs : List (Int × Int × Int)) (ns : List (Int × Int)) (b : Bool) (xs : List (Int × Int)), NotesOk ds.length xs → f [paneD false ds ms hs ns, sqD b (xs.map dPair)] = .ok .non
def doubtB (ds : List Bool) (ms : List (Int × Int)) (e l : Int) : Bool := decide ((l, e) ∈ ms) && (!deep ds e && deep ds l)
def DoubtS (f : List D → Res D) : Prop := ∀ (ds : List Bool) (ms : List (Int × Int)) (hs : List (Int × Int × Int)) (ns : List (Int × Int)) (e l : Int), ds.length ≤ 1000 → MarksIn ds ms → f [paneD false ds ms hs ns, .int e, .int l] = .ok (.bl (doubtB ds ms e l))
@[simp] theorem any_pairs3 (l : List (Int × Int)) (a b : Int) (o : Bool) : ((l.map dPair).any fun y => D.eqv y (.tup o [.int a, .int b])) = decide ((a, b) ∈ l) := by
  rw [← any_pairs2]; rfl
def sureB (ds : List Bool) (ms ns xs : List (Int × Int)) (e l : Int) : Bool := decide ((e, l) ∈ ns) || (decide ((e, l) ∈ xs) || (if e = -1 ∧ l ≠ -1 then (!deep ds l || ms.any fun m => decide (m.2 = l) && !deep ds m.1) else (decide ((l, e) ∈ ms) && !doubtB ds ms e l)))
def SureS (f : List D → Res D) : Prop := ∀ (ds : List Bool) (ms : List (Int × Int)) (hs : List (Int × Int × Int)) (ns : List (Int × Int)) (b : Bool) (xs : List (Int × Int)) (e l : Int), ds.length ≤ 1000 → ms.length ≤ 50000 → MarksIn ds ms → -1 ≤ l → l < ds.length → f [paneD false ds ms hs ns, sqD b (xs.map dPair), .int e, .int l] = .ok (.bl (sureB ds ms ns xs e l))
@[simp] theorem isin_sqP (b : Bool) (x y : Int) (cs : List (Int × Int)) : sem2 .isin (.tup false [.int x, .int y]) (sqD b (cs.map dPair)) = .ok (.bl (decide ((x, y) ∈ cs))) := by
  cases b
  · show sem2 .isin _ (.tup false (cs.map dPair)) = _
    rw [m_in_t, any_pairs2]; simp
  · show sem2 .isin _ (.lst false (cs.map dPair)) = _
    rw [m_in_l, any_pairs2]; simp
end MM
set_option Elab.async false
set_option linter.all false
set_option maxRecDepth 100000
set_option maxHeartbeats 2000000
set_option profiler true
namespace MM
open PySem L2 MP TX
variable {Φ : Tab} {fuel : Nat}
def diffB (n : Nat) (evs : List Int) : Bool := (evs.zipIdx 0).all fun q => (decide (-1 ≤ q.1) && decide (q.1 < n)) && !decide (q.1 ∈ evs.take q.2)
theorem diffB_mem {n : Nat} {evs : List Int} (h : diffB n evs = true) : (∀ e ∈ evs, -1 ≤ e ∧ e < n) ∧ evs.Nodup := by
  unfold diffB at h
  rw [List.all_eq_true] at h
  have key : ∀ (i : Nat) (e : Int), evs[i]? = some e → (-1 ≤ e ∧ e < n) ∧ e ∉ evs.take i := fun i e he => by
    have := h (e, i) (List.mk_mem_zipIdx_iff_getElem?.mpr he)
    simpa [and_assoc] using this
  refine ⟨fun e he => ?_, ?_⟩
  · obtain ⟨i, hi⟩ := List.mem_iff_getElem?.mp he
    exact (key i e hi).1
  · rw [List.nodup_iff_pairwise_ne, List.pairwise_iff_getElem]
    intro i j hi hj hij e
    have := (key j evs[j] (List.getElem?_eq_getElem hj)).2
    apply this
    rw [← e]
    exact List.mem_iff_getElem?.mpr ⟨i, by rw [List.getElem?_take_of_lt hij, List.getElem?_eq_getElem hi]⟩
def DiffS (f : List D → Res D) : Prop := ∀ (ds : List Bool) (ms : List (Int × Int)) (hs : List (Int × Int × Int)) (ns : List (Int × Int)) (evs : List Int), evs.length ≤ 100000 → f [paneD false ds ms hs ns, .lst false (evs.map D.int)] = .ok (.bl (diffB ds.length evs))
def chainB (ds : List Bool) (ms ns xs : List (Int × Int)) (c : List Int) (e : Int) : Bool := diffB ds.length c && (decide (c.getD 0 0 = -1) && (decide (c.getD (c.length - 1) 0 = e) && (rng 1 (c.length - 1)).all fun i => sureB ds ms ns xs (c.getD (i.toNat - 1) 0) (c.getD i.toNat 0)))
def ChainS (f : List D → Res D) : Prop := ∀ (ds : List Bool) (ms : List (Int × Int)) (hs : List (Int × Int × Int)) (ns : List (Int × Int)) (b : Bool) (xs : List (Int × Int)) (c : List Int) (e : Int), ds.length ≤ 1000 → ms.length ≤ 50000 → MarksIn ds ms → c ≠ [] → c.length ≤ 50000 → f [paneD false ds ms hs ns, sqD b (xs.map dPair), .lst false (c.map D.int), .int e] = .ok (.bl (chainB ds ms ns xs c e))
theorem ix_evs {o : Bool} {l : List (List Int)} {i : Int} (h : 0 ≤ i) (k : i < l.length) : sem2 .ix (.lst o (l.map lD)) (.int i) = .ok (lD (l.getD i.toNat [])) := by
  rw [m_ix_l, atI_map, atI_some [] l h k]
  show guardR (lD _).isSh _ = _
  rw [guardR_of (by simp [lD])]
def refB (ds : List Bool) (ms ns xs : List (Int × Int)) (r : List Int) (cs : List (List Int)) : Bool := decide (2 ≤ r.length) && (decide (cs.length = r.length) && (diffB ds.length r && (r.zipIdx 0).all fun q =>
  if cs.getD q.2 [] = [] then sureB ds ms ns xs q.1 (r.getD ((q.2 + 1) % r.length) 0) else doubtB ds ms q.1 (r.getD ((q.2 + 1) % r.length) 0) && chainB ds ms ns xs (cs.getD q.2 []) (r.getD ((q.2 + 1) % r.length) 0)))
def RefS (f : List D → Res D) : Prop := ∀ (ds : List Bool) (ms : List (Int × Int)) (hs : List (Int × Int × Int)) (ns : List (Int × Int)) (r : List Int) (cs : List (List Int)) (b : Bool) (xs : List (Int × Int)), PaneOk ds ms hs ns → NotesOk ds.length xs → r.length ≤ 50000 → (∀ c ∈ cs, c.length ≤ 50000) → f [paneD false ds ms hs ns, .lst false (r.map D.int), .lst false (cs.map lD), sqD b (xs.map dPair)] = .ok (.bl (refB ds ms ns xs r cs))
@[simp] theorem lD_live (c : List Int) : live (lD c) = .ok (lD c) := (rfl)
@[simp] theorem lD_sh (c : List Int) : (lD c).isSh = true := by simp [lD]
@[simp] theorem lD_eo (c : List Int) : (lD c).eqOk = true := by simp [lD]
@[simp] theorem lD_nil (o : Bool) (c : List Int) : D.eqv (lD c) (.lst o []) = c.isEmpty := by unfold lD; rw [ev_lnil]; cases c <;> rfl
@[simp] theorem lD_fl (c : List Int) : (lD c).flat = lD c := by simp [lD]
theorem t_refutes (hg : Φ.gl 0 = .int (-1)) (hcp : CheckPairsS (Φ.fn 52)) (hd : DiffS (Φ.fn 50)) (hs' : SureS (Φ.fn 51)) (hdo : DoubtS (Φ.fn 49)) (hch : ChainS (Φ.fn 53)) : RefS (runF Φ fuel N_refutes.length b_refutes) := fun ds ms hs ns r cs b xs hp hx hrl hcl => by
  have c0 := hcp ds ms hs ns b xs hx
  have d1 := hd ds ms hs ns r (by omega)
  have l1 := hp.1.2.2.2
  have l3 := hp.2.2
  simp only [b_refutes, N_refutes]
  by_cases a1 : (r.length : Int) < 2
  · simp [run_fin, s_skip, s_nev, s_seq, s_asg, s_asgT, s_par, s_aug, s_ifs, s_for, s_ret, s_retN, s_brk, s_cnt, s_expr, s_app, s_appPop, s_setI, s_rev, s_clr, s_ins, s_pop, s_sdApp, s_rem, s_setA, s_dem, s_whl, e_lit, e_gl, e_pk, e_mv, e_o1, e_o2, e_mt, e_o3, e_ch2, e_ch3, e_sl, e_and, e_or, e_ite, e_edict, e_lst, e_tup, e_call, e_fld, e_comp, l_nil, l_cons, t_nil, t_cons, gd_0, gd_s, tgSet_n, tgSet_p2, tgSet_t3, nd_cons, dnew_eq, m_eq, m_ne, m_in_l, m_in_t, m_in_d, m_nin_l, m_nin_t, m_nin_d, ix_0l, ix_0t, ix_1l, ix_1t, ix_2l, ix_2t, ix_3l, ix_4l, m_sl, m_get, guardR_and, guardS_and, -List.any_map, -List.all_map, -List.getD_eq_getElem?_getD, -List.map_map, -List.drop_one, ← List.map_take, ← List.map_drop, ← List.map_reverse, c0, a1, refB, show ¬ 2 ≤ r.length by omega]
  by_cases a2 : cs.length = r.length
  rotate_left
  · have a3 : ¬ (cs.length : Int) = r.length := by omega
    simp [run_fin, s_skip, s_nev, s_seq, s_asg, s_asgT, s_par, s_aug, s_ifs, s_for, s_ret, s_retN, s_brk, s_cnt, s_expr, s_app, s_appPop, s_setI, s_rev, s_clr, s_ins, s_pop, s_sdApp, s_rem, s_setA, s_dem, s_whl, e_lit, e_gl, e_pk, e_mv, e_o1, e_o2, e_mt, e_o3, e_ch2, e_ch3, e_sl, e_and, e_or, e_ite, e_edict, e_lst, e_tup, e_call, e_fld, e_comp, l_nil, l_cons, t_nil, t_cons, gd_0, gd_s, tgSet_n, tgSet_p2, tgSet_t3, nd_cons, dnew_eq, m_eq, m_ne, m_in_l, m_in_t, m_in_d, m_nin_l, m_nin_t, m_nin_d, ix_0l, ix_0t, ix_1l, ix_1t, ix_2l, ix_2t, ix_3l, ix_4l, m_sl, m_get, guardR_and, guardS_and, -List.any_map, -List.all_map, -List.getD_eq_getElem?_getD, -List.map_map, -List.drop_one, ← List.map_take, ← List.map_drop, ← List.map_reverse, c0, a1, a3, refB, a2, show 2 ≤ r.length by omega]
  cases q : diffB ds.length r with
  | false =>
    rw [q] at d1
    simp [run_fin, s_skip, s_nev, s_seq, s_asg, s_asgT, s_par, s_aug, s_ifs, s_for, s_ret, s_retN, s_brk, s_cnt, s_expr, s_app, s_appPop, s_setI, s_rev, s_clr, s_ins, s_pop, s_sdApp, s_rem, s_setA, s_dem, s_whl, e_lit, e_gl, e_pk, e_mv, e_o1, e_o2, e_mt, e_o3, e_ch2, e_ch3, e_sl, e_and, e_or, e_ite, e_edict, e_lst, e_tup, e_call, e_fld, e_comp, l_nil, l_cons, t_nil, t_cons, gd_0, gd_s, tgSet_n, tgSet_p2, tgSet_t3, nd_cons, dnew_eq, m_eq, m_ne, m_in_l, m_in_t, m_in_d, m_nin_l, m_nin_t, m_nin_d, ix_0l, ix_0t, ix_1l, ix_1t, ix_2l, ix_2t, ix_3l, ix_4l, m_sl, m_get, guardR_and, guardS_and, -List.any_map, -List.all_map, -List.getD_eq_getElem?_getD, -List.map_map, -List.drop_one, ← List.map_take, ← List.map_drop, ← List.map_reverse, c0, a1, a2, d1, refB, q]
  | true =>
    rw [q] at d1
    obtain ⟨hr, hn⟩ := diffB_mem q
    simp [run_fin, s_skip, s_nev, s_seq, s_asg, s_asgT, s_par, s_aug, s_ifs, s_for, s_ret, s_retN, s_brk, s_cnt, s_expr, s_app, s_appPop, s_setI, s_rev, s_clr, s_ins, s_pop, s_sdApp, s_rem, s_setA, s_dem, s_whl, e_lit, e_gl, e_pk, e_mv, e_o1, e_o2, e_mt, e_o3, e_ch2, e_ch3, e_sl, e_and, e_or, e_ite, e_edict, e_lst, e_tup, e_call, e_fld, e_comp, l_nil, l_cons, t_nil, t_cons, gd_0, gd_s, tgSet_n, tgSet_p2, tgSet_t3, nd_cons, dnew_eq, m_eq, m_ne, m_in_l, m_in_t, m_in_d, m_nin_l, m_nin_t, m_nin_d, ix_0l, ix_0t, ix_1l, ix_1t, ix_2l, ix_2t, ix_3l, ix_4l, m_sl, m_get, guardR_and, guardS_and, -List.any_map, -List.all_map, -List.getD_eq_getElem?_getD, -List.map_map, -List.drop_one, ← List.map_take, ← List.map_drop, ← List.map_reverse, c0, a1, a2, d1, enumD_map]
    have L1 := forL_all (f := fun q : Int × Nat => D.tup false [.int (q.2 : Nat), .int q.1]) (tg := .p (.n 4) (.n 5)) (b := fun δ' => evalS Φ fuel b_refutes_L1 δ') (fun q => if cs.getD q.2 [] = [] then sureB ds ms ns xs q.1 (r.getD ((q.2 + 1) % r.length) 0) else doubtB ds ms q.1 (r.getD ((q.2 + 1) % r.length) 0) && chainB ds ms ns xs (cs.getD q.2 []) (r.getD ((q.2 + 1) % r.length) 0))
      (fun δ => ∃ x y z w, δ = [paneD false ds ms hs ns, .lst false (r.map D.int), .lst false (cs.map lD), sqD b (xs.map dPair), x, y, z, w]) (r.zipIdx 0) [paneD false ds ms hs ns, .lst false (r.map D.int), .lst false (cs.map lD), sqD b (xs.map dPair), .dead, .dead, .dead, .dead] ⟨_, _, _, _, rfl⟩ (fun q hq δ hJ => by
        obtain ⟨x, y, z, w, rfl⟩ := hJ
        obtain ⟨e, i⟩ := q
        have hi := List.mk_mem_zipIdx_iff_getElem?.mp hq
        have hlt := lt_of_some hi
        have hm1 : (i + 1) % r.length < r.length := Nat.mod_lt _ (by omega)
        have hmod : sem2 .mod (D.int ((i : Int) + 1)) (D.int (r.length : Int)) = .ok (.int (((i + 1) % r.length : Nat) : Int)) := by
          rw [m_mod, guardR_dec (by omega)]; push_cast; rfl
        generalize (i + 1) % r.length = m at *
        have hmem := hr _ (getD_mem (l := r) (z := 0) hm1)
        have s1 := hs' ds ms hs ns b xs e (r.getD m 0) l3 (by omega) hp.marks hmem.1 hmem.2
        have s2 := hdo ds ms hs ns e (r.getD m 0) l3 hp.marks
        have hcm : cs.getD i [] ∈ cs := getD_mem (by omega)
        by_cases k : cs.getD i [] = []
        · refine ⟨_, rfl, fun z => ?_, fun z => ?_⟩
          · simp only [k, if_true] at z
            rw [z] at s1
            simp only [b_refutes_L1]
            simp [run_fin, s_skip, s_nev, s_seq, s_asg, s_asgT, s_par, s_aug, s_ifs, s_for, s_ret, s_retN, s_brk, s_cnt, s_expr, s_app, s_appPop, s_setI, s_rev, s_clr, s_ins, s_pop, s_sdApp, s_rem, s_setA, s_dem, s_whl, e_lit, e_gl, e_pk, e_mv, e_o1, e_o2, e_mt, e_o3, e_ch2, e_ch3, e_sl, e_and, e_or, e_ite, e_edict, e_lst, e_tup, e_call, e_fld, e_comp, l_nil, l_cons, t_nil, t_cons, gd_0, gd_s, tgSet_n, tgSet_p2, tgSet_t3, nd_cons, dnew_eq, m_eq, m_ne, m_in_l, m_in_t, m_in_d, m_nin_l, m_nin_t, m_nin_d, ix_0l, ix_0t, ix_1l, ix_1t, ix_2l, ix_2t, ix_3l, ix_4l, m_sl, m_get, guardR_and, guardS_and, -List.any_map, -List.all_map, -List.getD_eq_getElem?_getD, -List.map_map, -List.drop_one, ← List.map_take, ← List.map_drop, ← List.map_reverse, hmod, -m_mod, ix_int (l := r) (i := (m : Int)) (by omega) (by omega), ix_evs (l := cs) (i := (i : Int)) (by omega) (by omega), k, s1]
          · simp only [k, if_true] at z
            rw [z] at s1
            simp only [b_refutes_L1]
            simp [run_fin, s_skip, s_nev, s_seq, s_asg, s_asgT, s_par, s_aug, s_ifs, s_for, s_ret, s_retN, s_brk, s_cnt, s_expr, s_app, s_appPop, s_setI, s_rev, s_clr, s_ins, s_pop, s_sdApp, s_rem, s_setA, s_dem, s_whl, e_lit, e_gl, e_pk, e_mv, e_o1, e_o2, e_mt, e_o3, e_ch2, e_ch3, e_sl, e_and, e_or, e_ite, e_edict, e_lst, e_tup, e_call, e_fld, e_comp, l_nil, l_cons, t_nil, t_cons, gd_0, gd_s, tgSet_n, tgSet_p2, tgSet_t3, nd_cons, dnew_eq, m_eq, m_ne, m_in_l, m_in_t, m_in_d, m_nin_l, m_nin_t, m_nin_d, ix_0l, ix_0t, ix_1l, ix_1t, ix_2l, ix_2t, ix_3l, ix_4l, m_sl, m_get, guardR_and, guardS_and, -List.any_map, -List.all_map, -List.getD_eq_getElem?_getD, -List.map_map, -List.drop_one, ← List.map_take, ← List.map_drop, ← List.map_reverse, hmod, -m_mod, ix_int (l := r) (i := (m : Int)) (by omega) (by omega), ix_evs (l := cs) (i := (i : Int)) (by omega) (by omega), k, s1]
        · have s3 := hch ds ms hs ns b xs (cs.getD i []) (r.getD m 0) l3 (by omega) hp.marks k (hcl _ hcm)
          have k2 : (cs.getD i []).isEmpty = false := by
            cases h : cs.getD i [] with
            | nil => exact absurd h k
            | cons _ _ => rfl
          rw [show D.lst false ((cs.getD i []).map D.int) = lD (cs.getD i []) from rfl] at s3
          refine ⟨_, rfl, fun z => ?_, fun z => ?_⟩
          · simp only [k, if_false, Bool.and_eq_true] at z
            rw [z.1] at s2
            rw [z.2] at s3
            simp only [b_refutes_L1]
            simp [run_fin, s_skip, s_nev, s_seq, s_asg, s_asgT, s_par, s_aug, s_ifs, s_for, s_ret, s_retN, s_brk, s_cnt, s_expr, s_app, s_appPop, s_setI, s_rev, s_clr, s_ins, s_pop, s_sdApp, s_rem, s_setA, s_dem, s_whl, e_lit, e_gl, e_pk, e_mv, e_o1, e_o2, e_mt, e_o3, e_ch2, e_ch3, e_sl, e_and, e_or, e_ite, e_edict, e_lst, e_tup, e_call, e_fld, e_comp, l_nil, l_cons, t_nil, t_cons, gd_0, gd_s, tgSet_n, tgSet_p2, tgSet_t3, nd_cons, dnew_eq, m_eq, m_ne, m_in_l, m_in_t, m_in_d, m_nin_l, m_nin_t, m_nin_d, ix_0l, ix_0t, ix_1l, ix_1t, ix_2l, ix_2t, ix_3l, ix_4l, m_sl, m_get, guardR_and, guardS_and, -List.any_map, -List.all_map, -List.getD_eq_getElem?_getD, -List.map_map, -List.drop_one, ← List.map_take, ← List.map_drop, ← List.map_reverse, hmod, -m_mod, ix_int (l := r) (i := (m : Int)) (by omega) (by omega), ix_evs (l := cs) (i := (i : Int)) (by omega) (by omega), k2, s2, s3]
          · simp only [k, if_false] at z
            simp only [b_refutes_L1]
            cases w1 : doubtB ds ms e (r.getD m 0) with
            | false =>
              rw [w1] at s2
              simp [run_fin, s_skip, s_nev, s_seq, s_asg, s_asgT, s_par, s_aug, s_ifs, s_for, s_ret, s_retN, s_brk, s_cnt, s_expr, s_app, s_appPop, s_setI, s_rev, s_clr, s_ins, s_pop, s_sdApp, s_rem, s_setA, s_dem, s_whl, e_lit, e_gl, e_pk, e_mv, e_o1, e_o2, e_mt, e_o3, e_ch2, e_ch3, e_sl, e_and, e_or, e_ite, e_edict, e_lst, e_tup, e_call, e_fld, e_comp, l_nil, l_cons, t_nil, t_cons, gd_0, gd_s, tgSet_n, tgSet_p2, tgSet_t3, nd_cons, dnew_eq, m_eq, m_ne, m_in_l, m_in_t, m_in_d, m_nin_l, m_nin_t, m_nin_d, ix_0l, ix_0t, ix_1l, ix_1t, ix_2l, ix_2t, ix_3l, ix_4l, m_sl, m_get, guardR_and, guardS_and, -List.any_map, -List.all_map, -List.getD_eq_getElem?_getD, -List.map_map, -List.drop_one, ← List.map_take, ← List.map_drop, ← List.map_reverse, hmod, -m_mod, ix_int (l := r) (i := (m : Int)) (by omega) (by omega), ix_evs (l := cs) (i := (i : Int)) (by omega) (by omega), k2, s2]
            | true =>
              rw [w1, Bool.true_and] at z
              rw [w1] at s2
              rw [z] at s3
              simp [run_fin, s_skip, s_nev, s_seq, s_asg, s_asgT, s_par, s_aug, s_ifs, s_for, s_ret, s_retN, s_brk, s_cnt, s_expr, s_app, s_appPop, s_setI, s_rev, s_clr, s_ins, s_pop, s_sdApp, s_rem, s_setA, s_dem, s_whl, e_lit, e_gl, e_pk, e_mv, e_o1, e_o2, e_mt, e_o3, e_ch2, e_ch3, e_sl, e_and, e_or, e_ite, e_edict, e_lst, e_tup, e_call, e_fld, e_comp, l_nil, l_cons, t_nil, t_cons, gd_0, gd_s, tgSet_n, tgSet_p2, tgSet_t3, nd_cons, dnew_eq, m_eq, m_ne, m_in_l, m_in_t, m_in_d, m_nin_l, m_nin_t, m_nin_d, ix_0l, ix_0t, ix_1l, ix_1t, ix_2l, ix_2t, ix_3l, ix_4l, m_sl, m_get, guardR_and, guardS_and, -List.any_map, -List.all_map, -List.getD_eq_getElem?_getD, -List.map_map, -List.drop_one, ← List.map_take, ← List.map_drop, ← List.map_reverse, hmod, -m_mod, ix_int (l := r) (i := (m : Int)) (by omega) (by omega), ix_evs (l := cs) (i := (i : Int)) (by omega) (by omega), k2, s2, s3])
    rcases L1 with ⟨k1, δ', e1, x, y, z, w, rfl⟩ | ⟨k1, e1⟩
    · rw [e1]
      simp only [refB, q, a2, k1, show 2 ≤ r.length by omega]
      simp [run_fin, s_skip, s_nev, s_seq, s_asg, s_asgT, s_par, s_aug, s_ifs, s_for, s_ret, s_retN, s_brk, s_cnt, s_expr, s_app, s_appPop, s_setI, s_rev, s_clr, s_ins, s_pop, s_sdApp, s_rem, s_setA, s_dem, s_whl, e_lit, e_gl, e_pk, e_mv, e_o1, e_o2, e_mt, e_o3, e_ch2, e_ch3, e_sl, e_and, e_or, e_ite, e_edict, e_lst, e_tup, e_call, e_fld, e_comp, l_nil, l_cons, t_nil, t_cons, gd_0, gd_s, tgSet_n, tgSet_p2, tgSet_t3, nd_cons, dnew_eq, m_eq, m_ne, m_in_l, m_in_t, m_in_d, m_nin_l, m_nin_t, m_nin_d, ix_0l, ix_0t, ix_1l, ix_1t, ix_2l, ix_2t, ix_3l, ix_4l, m_sl, m_get, guardR_and, guardS_and, -List.any_map, -List.all_map, -List.getD_eq_getElem?_getD, -List.map_map, -List.drop_one, ← List.map_take, ← List.map_drop, ← List.map_reverse]
    · rw [e1]
      simp only [refB, q, a2, k1, show 2 ≤ r.length by omega]
      simp [run_fin, s_skip, s_nev, s_seq, s_asg, s_asgT, s_par, s_aug, s_ifs, s_for, s_ret, s_retN, s_brk, s_cnt, s_expr, s_app, s_appPop, s_setI, s_rev, s_clr, s_ins, s_pop, s_sdApp, s_rem, s_setA, s_dem, s_whl, e_lit, e_gl, e_pk, e_mv, e_o1, e_o2, e_mt, e_o3, e_ch2, e_ch3, e_sl, e_and, e_or, e_ite, e_edict, e_lst, e_tup, e_call, e_fld, e_comp, l_nil, l_cons, t_nil, t_cons, gd_0, gd_s, tgSet_n, tgSet_p2, tgSet_t3, nd_cons, dnew_eq, m_eq, m_ne, m_in_l, m_in_t, m_in_d, m_nin_l, m_nin_t, m_nin_d, ix_0l, ix_0t, ix_1l, ix_1t, ix_2l, ix_2t, ix_3l, ix_4l, m_sl, m_get, guardR_and, guardS_and, -List.any_map, -List.all_map, -List.getD_eq_getElem?_getD, -List.map_map, -List.drop_one, ← List.map_take, ← List.map_drop, ← List.map_reverse]
end MM
set_option Elab.async false
set_option linter.all false
set_option maxRecDepth 100000
set_option maxHeartbeats 2000000
namespace MM
open PySem L2 MP TX
/-- a history fits marks and notes -/
structure Fits (ds : List Bool) (h : List Int) (ms ns : List (Int × Int)) : Prop where
  hist : IsHist ds h
  marks : ∀ m ∈ ms, markF ds h m.1 m.2 = m
  notes : ∀ n ∈ ns, h.idxOf n.1 < h.idxOf n.2
section
variable {ds : List Bool} {h : List Int} {ms ns xs : List (Int × Int)}
end
end MM
set_option Elab.async false
set_option linter.all false
set_option maxRecDepth 100000
set_option maxHeartbeats 2000000
namespace MM
open PySem L2 MP TX
variable {Φ : Tab} {fuel : Nat}
/-! the steps as the law tells them -/
end MM
set_option Elab.async false
set_option linter.all false
set_option maxRecDepth 100000
set_option maxHeartbeats 2000000
namespace MM
open PySem L2 MP TX
variable {Φ : Tab} {fuel : Nat}
/-! k15: what the law says of a certificate is what the program says -/
end MM
set_option Elab.async false
set_option linter.all false
set_option maxRecDepth 100000
set_option maxHeartbeats 2000000
namespace MM
open PySem L2 MP TX
variable {Φ : Tab} {fuel : Nat}
end MM
set_option Elab.async false
set_option linter.all false
set_option maxRecDepth 100000
set_option maxHeartbeats 2000000
namespace MM
open PySem L2 MP TX
variable {Φ : Tab} {fuel : Nat}
end MM
set_option Elab.async false
set_option linter.all false
set_option maxRecDepth 100000
set_option maxHeartbeats 2000000
namespace MM
open PySem L2 MP TX
variable {Φ : Tab} {fuel : Nat}
end MM
set_option Elab.async false
set_option linter.all false
set_option maxRecDepth 100000
set_option maxHeartbeats 2000000
namespace MM
open PySem L2 MP TX
variable {Φ : Tab} {fuel : Nat}
theorem ef_lD : EqF lD := fun a b => by unfold lD; rw [ev_ints]
@[simp] theorem ev_evs (o p : Bool) (a b : List (List Int)) : D.eqv (.lst o (a.map lD)) (.lst p (b.map lD)) = decide (a = b) := by rw [ev_lst, eqL_map ef_lD]
theorem gd_lD (c : List Int) : GD 1 (lD c) := gd_lst (gd_map gd_int c)
@[simp] theorem eo_evs (o : Bool) (a : List (List Int)) : (D.lst o (a.map lD)).eqOk = true := (gd_lst (gd_map gd_lD a)).ok
@[simp] theorem shl_evs (a : List (List Int)) : D.isShL (a.map lD) = true := sh_evs a
@[simp] theorem fll_evs (a : List (List Int)) : D.flatL (a.map lD) = a.map lD := flatL_sh _ (sh_evs a)
end MM
set_option Elab.async false
set_option linter.all false
set_option maxRecDepth 100000
set_option maxHeartbeats 4000000
namespace MM
open PySem L2 MP TX
variable {Φ : Tab} {fuel : Nat}
end MM
set_option Elab.async false
set_option linter.all false
set_option maxRecDepth 100000
set_option maxHeartbeats 2000000
namespace MM
open PySem L2 MP TX
variable {Φ : Tab} {fuel : Nat}
/-! k15: texts that differ in names alone; the law's own view of a certificate -/
theorem t_law_same_tuples_v1 (hi : IsIntS (Φ.fn 4)) : SameTupS (runF Φ fuel N_law_same_tuples_v1.length b_law_same_tuples_v1) := t_same_tuples hi
@[simp] theorem nin_lP (o : Bool) (x y : Int) (cs : List (Int × Int)) : sem2 .nin (.tup false [.int x, .int y]) (.lst o (cs.map dPair)) = .ok (.bl (!decide ((x, y) ∈ cs))) := by
  rw [m_nin_l, any_pairs2]; simp
end MM
set_option Elab.async false
set_option linter.all false
set_option maxRecDepth 100000
set_option maxHeartbeats 2000000
namespace MM
open PySem L2 MP TX
variable {Φ : Tab} {fuel : Nat}
end MM
set_option Elab.async false
set_option linter.all false
set_option maxRecDepth 100000
set_option maxHeartbeats 2000000
namespace MM
open PySem L2 MP TX
variable {Φ : Tab} {fuel : Nat}
theorem join_dstr (ds : List Bool) (h : ds.length ≤ 1000) (o : Bool) : sem2 .join (.str "") (.lst o (ds.map fun b => D.str (dch b))) = .ok (.str (dstr ds)) := by
  rw [show (ds.map fun b => D.str (dch b)) = (ds.map dch).map D.str by simp]
  have hs := sum_dch ds
  simp only [m_join, hs, len_e, List.length_map]
  rw [guardR_dec (by omega), join_dch]
theorem fll_dch (ds : List Bool) : D.flatL (ds.map fun b => D.str (dch b)) = ds.map fun b => D.str (dch b) := by
  rw [show (ds.map fun b => D.str (dch b)) = (ds.map dch).map D.str by simp, fll_strs]
end MM
set_option Elab.async false
set_option linter.all false
set_option maxRecDepth 100000
set_option maxHeartbeats 2000000
namespace MM
open PySem L2 MP TX
variable {Φ : Tab} {fuel : Nat}
def RingIn (n : Nat) (r : List Int) : Prop := 2 ≤ r.length ∧ r.length ≤ n + 1 ∧ r.Nodup ∧ ∀ e ∈ r, -1 ≤ e ∧ e < (n : Int)
theorem nodup_len : ∀ {l m : List Int}, l.Nodup → (∀ e ∈ l, e ∈ m) → l.length ≤ m.length
  | [], _, _, _ => by simp
  | a :: l, m, hn, hs => by
    have hn := List.nodup_cons.mp hn
    have ha : a ∈ m := hs a (by simp)
    have := nodup_len (l := l) (m := m.erase a) hn.2 (fun e he => by
      have hne : e ≠ a := fun z => hn.1 (z ▸ he)
      exact (List.mem_erase_of_ne hne).mpr (hs e (by simp [he])))
    rw [List.length_erase_of_mem ha] at this
    have := List.length_pos_of_mem ha
    simp
    omega
end MM
set_option Elab.async false
set_option linter.all false
set_option maxRecDepth 100000
set_option maxHeartbeats 2000000
namespace MM
open PySem L2 MP TX
variable {Φ : Tab} {fuel : Nat}
def MarksTo (r : List Int) (i : Nat) (ms : List (Int × Int)) : Prop := (∀ m ∈ ms, ∃ k, k < i ∧ m = (r.getD ((k + 1) % r.length) 0, r.getD k 0) ∧ 0 ≤ m.1 ∧ 0 ≤ m.2) ∧ (ms.map crF).Nodup ∧ ms.length ≤ i
theorem crF_ne {a b : Int} {m : Int × Int} (h1 : m ≠ (b, a)) (h2 : m ≠ (a, b)) : crF m ≠ crF (b, a) := by
  obtain ⟨x, y⟩ := m
  intro z
  simp only [crF, Prod.mk.injEq] at z
  obtain ⟨z1, z2⟩ := z
  by_cases c : x = b
  · subst c
    exact h1 (by rw [show y = a by omega])
  · exact h2 (by rw [show x = a by omega, show y = b by omega])
end MM
set_option Elab.async false
set_option linter.all false
set_option maxRecDepth 100000
set_option maxHeartbeats 2000000
namespace MM
open PySem L2 MP TX
variable {Φ : Tab} {fuel : Nat}
theorem MarksTo.inn {n : Nat} {r : List Int} {ms : List (Int × Int)} {ds : List Bool} (h : MarksTo r r.length ms) (hr : RingIn n r) (hn : n = ds.length) : MarksIn ds ms := fun m hm => by
  obtain ⟨k, k1, k2, k3, k4⟩ := h.1 m hm
  have a1 := hr.2.2.2 _ (getD_mem (l := r) (z := 0) k1)
  have a2 := hr.2.2.2 _ (getD_mem (l := r) (z := 0) (show (k + 1) % r.length < r.length from Nat.mod_lt _ (by omega)))
  rw [k2] at k3 k4 ⊢
  simp only [] at k3 k4 ⊢
  omega
end MM
set_option Elab.async false
set_option linter.all false
set_option maxRecDepth 100000
set_option maxHeartbeats 2000000
namespace MM
open PySem L2 MP TX
variable {Φ : Tab} {fuel : Nat}
/-- the notes cover the steps of a chain -/
def ChainCov (ds : List Bool) (nd : List (Int × Int)) (c : List Int) : Prop := ∀ j, 1 ≤ j → j < c.length → (c.getD (j - 1) 0, c.getD j 0) ∈ nd ∨ (j = 1 ∧ deep ds (c.getD 1 0) = false)
/-- the notes cover step k -/
def StepCov (ds : List Bool) (ms nd : List (Int × Int)) (r : List Int) (k : Nat) : Prop := (r.getD ((k + 1) % r.length) 0, r.getD k 0) ∈ ms ∨ (r.getD k 0 = -1 ∧ deep ds (r.getD ((k + 1) % r.length) 0) = false) ∨ (r.getD k 0, r.getD ((k + 1) % r.length) 0) ∈ nd
end MM
set_option Elab.async false
set_option linter.all false
set_option maxRecDepth 100000
set_option maxHeartbeats 2000000
namespace MM
open PySem L2 MP TX
variable {Φ : Tab} {fuel : Nat}
def NotesIn2 (n : Nat) (nd : List (Int × Int)) : Prop := ∀ m ∈ nd, -1 ≤ m.1 ∧ m.1 < (n : Int) ∧ -1 ≤ m.2 ∧ m.2 < (n : Int) ∧ m.1 ≠ m.2
/-- the first j steps of a chain are covered -/
def CovTo (ds : List Bool) (nd : List (Int × Int)) (c : List Int) (j : Nat) : Prop := ∀ i, 1 ≤ i → i < j → (c.getD (i - 1) 0, c.getD i 0) ∈ nd ∨ (i = 1 ∧ deep ds (c.getD 1 0) = false)
theorem CovTo.more {ds : List Bool} {nd : List (Int × Int)} {c : List Int} {j : Nat} (h : CovTo ds nd c j) (l : List (Int × Int)) : CovTo ds (nd ++ l) c j := fun i h1 h2 => (h i h1 h2).imp (fun g => List.mem_append_left _ g) id
theorem ChainCov.more {ds : List Bool} {nd : List (Int × Int)} {c : List Int} (h : ChainCov ds nd c) (l : List (Int × Int)) : ChainCov ds (nd ++ l) c := fun i h1 h2 => (h i h1 h2).imp (fun g => List.mem_append_left _ g) id
theorem StepCov.more {ds : List Bool} {ms nd : List (Int × Int)} {r : List Int} {k : Nat} (h : StepCov ds ms nd r k) (l : List (Int × Int)) : StepCov ds ms (nd ++ l) r k := h.imp id (fun g => g.imp id (fun g => List.mem_append_left _ g))
end MM
set_option Elab.async false
set_option linter.all false
set_option maxRecDepth 100000
set_option maxHeartbeats 2000000
namespace MM
open PySem L2 MP TX
variable {Φ : Tab} {fuel : Nat}
end MM
set_option Elab.async false
set_option linter.all false
set_option maxRecDepth 100000
set_option maxHeartbeats 1000000
namespace MM
open PySem L2 MP
section
variable {α β : Type} {δ : List D} {p : Prop} [Decidable p]
theorem sIf_b (b : Bool) (A B : SR) : sIf (D.bl b) A B = if b = true then A else B := by cases b <;> rfl
theorem rIf_b (b : Bool) (A B : Res α) : rIf (D.bl b) A B = if b = true then A else B := by cases b <;> rfl
theorem rIf_and (b c : Bool) : rIf (D.bl b) (.ok (D.bl c)) (.ok (D.bl false)) = .ok (.bl (b && c)) := by cases b <;> rfl
theorem rIf_or (b c : Bool) : rIf (D.bl b) (.ok (D.bl true)) (.ok (D.bl c)) = .ok (.bl (b || c)) := by cases b <;> rfl
theorem bind_ite (a b : Res α) (f : α → Res β) : (if p then a else b).bind f = if p then a.bind f else b.bind f := by split <;> rfl
theorem of_ite (a b : Res α) (f : α → SR) : SR.of (if p then a else b) δ f = if p then SR.of a δ f else SR.of b δ f := by split <;> rfl
theorem tk_ite (x : Bool) (a b : Res D) : tkOk x (if p then a else b) = if p then tkOk x a else tkOk x b := by split <;> rfl
theorem sThen_ite (a b : SR) (f : List D → SR) : sThen (if p then a else b) f = if p then sThen a f else sThen b f := by split <;> rfl
theorem out_ite (x : Bool) (a b : Res D) : callOut x (if p then a else b) = if p then callOut x a else callOut x b := by split <;> rfl
theorem NxtR_ite (J : List D → Prop) (R : SR → Prop) (a b : SR) : NxtR J R (if p then a else b) = if p then NxtR J R a else NxtR J R b := by split <;> rfl
theorem Nxt_ite (J : List D → Prop) (a b : SR) : Nxt J (if p then a else b) = if p then Nxt J a else Nxt J b := by split <;> rfl
end
theorem row5 {f : List D → Res D} (h : RowS f) (k : Int) {a b c d e : Int} (ha : 0 < a ∧ a < 1073741824) (hb : 0 < b ∧ b < 1073741824) (hc : 0 < c ∧ c < 1073741824) (hd : 0 < d ∧ d < 1073741824) (he : 0 < e ∧ e < 1073741824) : ∃ x y z u v : Int, f [.int k, .lst false [.int a, .int b, .int c, .int d, .int e]] = .ok (.lst true [.int x, .int y, .int z, .int u, .int v]) ∧ (0 ≤ x ∧ x < a) ∧ (0 ≤ y ∧ y < b) ∧ (0 ≤ z ∧ z < c) ∧ (0 ≤ u ∧ u < d) ∧ (0 ≤ v ∧ v < e) := by
  obtain ⟨r, h1, h2, h3⟩ := h k [a, b, c, d, e] ⟨fun s hs => by simp at hs; omega, by simp⟩
  match r, h2, h3, h1 with
  | [x, y, z, u, v], _, h3, h1 => exact ⟨x, y, z, u, v, h1, h3 0 (by simp), h3 1 (by simp), h3 2 (by simp), h3 3 (by simp), h3 4 (by simp)⟩
/-- a run, then a block: the block stays as it is until the run has ended -/
def sSeq (Φ : Tab) (fuel : Nat) (r : SR) (b : DS) : SR := sThen r fun δ2 => evalS Φ fuel b δ2
section
variable {Φ : Tab} {fuel : Nat} {δ : List D} (b : DS)
theorem s_seqB (a : DS) : evalS Φ fuel (.seq a b) δ = sSeq Φ fuel (evalS Φ fuel a δ) b := by rw [s_seq]; rfl
@[simp] theorem sSeq_nx : sSeq Φ fuel (.nx δ) b = evalS Φ fuel b δ := (rfl)
@[simp] theorem sSeq_rt (d : D) : sSeq Φ fuel (.rt d) b = .rt d := (rfl)
@[simp] theorem sSeq_bk : sSeq Φ fuel (.bk δ) b = .bk δ := (rfl)
@[simp] theorem sSeq_ct : sSeq Φ fuel (.ct δ) b = .ct δ := (rfl)
@[simp] theorem sSeq_exc (x : Exn) : sSeq Φ fuel (.exc x δ) b = .exc x δ := (rfl)
@[simp] theorem sSeq_stuck : sSeq Φ fuel .stuck b = .stuck := (rfl)
theorem sSeq_ite {p : Prop} [Decidable p] (x y : SR) : sSeq Φ fuel (if p then x else y) b = if p then sSeq Φ fuel x b else sSeq Φ fuel y b := by split <;> rfl
end
@[simp] theorem m_isB (a b : Bool) : sem1 (.isB b) (.bl a) = .ok (.bl (decide (a = b))) := (rfl)
@[simp] theorem m_notB (a b : Bool) : sem1 (.notB b) (.bl a) = .ok (.bl (!decide (a = b))) := (rfl)
theorem comp1a {α : Type} {Φ : Tab} {f : α → D} {j : Nat} {b : DE} {δ : List D} {l : List α} (g : α → D) (hl : l.length ≤ 100000) (hj : j < δ.length) (hb : ∀ a ∈ l, guardR b.movs.isEmpty (tkOk b.fr (evalE Φ b (δ.set j (f a)))) = .ok (g a)) :
    compR Φ (.n j) (.lit (.bl true)) b δ (some (l.map f)) = .ok (.lst true (D.flatL (l.map g))) :=
  compR_all (fun a ha => ⟨_, by rw [tgSet_n, if_pos hj], hb a ha⟩) hl
@[simp] theorem sk_int (a b : Int) : D.sameKey false (.int a) (.int b) = decide (a = b) := by simp [D.sameKey, D.key]
@[simp] theorem ok_int (a : Int) : (D.int a).okKey false = true := (rfl)
/-- whiles stay as they are -/
def sWhl (Φ : Tab) (fuel : Nat) (c : DE) (b : DS) (δ : List D) : SR := whileL (fun δ' => evalE Φ c δ') (fun δ' => evalS Φ fuel b δ') fuel δ
def sWhlN (Φ : Tab) (fuel : Nat) (i : Nat) (e : DE) (b : DS) (δ : List D) : SR := whileN i e.fr e.movs (fun δ' => evalE Φ e δ') (fun δ' => evalS Φ fuel b δ') fuel δ
theorem s_whlB {Φ : Tab} {fuel : Nat} {δ : List D} (c : DE) (b : DS) : evalS Φ fuel (.whl c b) δ = sWhl Φ fuel c b δ := (rfl)
theorem s_whlNB {Φ : Tab} {fuel : Nat} {δ : List D} (i : Nat) (e : DE) (b : DS) : evalS Φ fuel (.whlN i e b) δ = sWhlN Φ fuel i e b δ := (rfl)
/-- bundles of rules -/
def EVA := And.intro @e_xfld <| And.intro @e_xis <| And.intro @e_xisV <| And.intro @s_tryS <| And.intro @run_fin (And.intro @s_skip (And.intro @s_nev (And.intro @s_seqB (And.intro @s_asg (And.intro @s_asgT (And.intro @s_par (And.intro @s_aug (And.intro @s_ifs (And.intro @s_for (And.intro @s_ret (And.intro @s_retN (And.intro @s_brk (And.intro @s_cnt (And.intro @s_expr (And.intro @s_app (And.intro @s_appPop (And.intro @s_setI (And.intro @s_rev (And.intro @s_clr (And.intro @s_ins (And.intro @s_pop (And.intro @s_sdApp (And.intro @s_rem (And.intro @s_setA (And.intro @s_dem (And.intro @s_whlB (And.intro @e_lit (And.intro @e_gl (And.intro @e_pk (And.intro @e_mv (And.intro @e_o1 (And.intro @e_o2 (And.intro @e_mt (And.intro @e_o3 (And.intro @e_ch2 (And.intro @e_ch3 (And.intro @e_sl (And.intro @e_and (And.intro @e_or (And.intro @e_ite (And.intro @e_edict (And.intro @e_lst (And.intro @e_tup (And.intro @e_call (And.intro @e_fld (And.intro @e_comp (And.intro @l_nil (And.intro @l_cons (And.intro @t_nil (And.intro @t_cons (And.intro @gd_0 (And.intro @gd_s (And.intro @tgSet_n (And.intro @tgSet_p2 (And.intro @tgSet_t3 (And.intro @nd_cons (And.intro @dnew_eq (And.intro @m_eq (And.intro @m_ne (And.intro @m_in_l (And.intro @m_in_t (And.intro @m_in_d (And.intro @m_nin_l (And.intro @m_nin_t (And.intro @m_nin_d (And.intro @ix_0l (And.intro @ix_0t (And.intro @ix_1l (And.intro @ix_1t (And.intro @ix_2l (And.intro @ix_2t (And.intro @ix_3l (And.intro @ix_4l (And.intro @m_sl (And.intro @m_get (And.intro @guardR_and (And.intro @guardS_and (And.intro @s_augI (And.intro @s_popL (And.intro @s_whlNB (And.intro @e_fz (And.intro @e_dict1 (And.intro @e_dcomp (And.intro @s_rse (@s_tryA)))))))))))))))))))))))))))))))))))))))))))))))))))))))))))))))))))))))))))))))))))))
def IXA := And.intro @guardR_dec (And.intro @guardS_dec (And.intro @ix_int (And.intro @ix_pair (And.intro @ix_tri (And.intro @ix_pairT (And.intro @ix_triT (And.intro @ix_ds (And.intro @ix_evs (And.intro @ix_scr (And.intro @it_r1 (And.intro @it_r2 (And.intro @rIf_and (And.intro @rIf_or (And.intro @ixN_some (And.intro @cut_from (And.intro @cut_to (And.intro @sh_app (And.intro @it_rv (And.intro @pn_depths (And.intro @pn_size (And.intro @pn_marks (And.intro @pn_hidden (@pn_notes)))))))))))))))))))))))
def ITA := And.intro @sxOut_ite <| And.intro @sIf_b (And.intro @rIf_b (And.intro @bind_ite (And.intro @of_ite (And.intro @tk_ite (And.intro @sSeq_ite (And.intro @sThen_ite (And.intro @out_ite (And.intro @Nxt_ite (@NxtR_ite)))))))))
end MM
set_option Elab.async false
set_option linter.all false
set_option maxRecDepth 100000
set_option maxHeartbeats 2000000
namespace MM
open PySem L2 MP TX
variable {Φ : Tab} {fuel : Nat}
end MM
set_option Elab.async false
set_option linter.all false
set_option maxRecDepth 100000
set_option maxHeartbeats 2000000
namespace MM
open PySem L2 MP TX
variable {Φ : Tab} {fuel : Nat}
theorem StepCov.sub {ds : List Bool} {ms nd nd' : List (Int × Int)} {r : List Int} {k : Nat} (h : StepCov ds ms nd r k) (s : ∀ p ∈ nd, p ∈ nd') : StepCov ds ms nd' r k := h.imp id (fun g => g.imp id (s _))
theorem ChainCov.sub {ds : List Bool} {nd nd' : List (Int × Int)} {c : List Int} (h : ChainCov ds nd c) (s : ∀ p ∈ nd, p ∈ nd') : ChainCov ds nd' c := fun i h1 h2 => (h i h1 h2).imp (s _) id
end MM
set_option Elab.async false
set_option linter.all false
set_option maxRecDepth 100000
set_option maxHeartbeats 2000000
namespace MM
open PySem L2 MP TX
variable {Φ : Tab} {fuel : Nat}
theorem CellS.ex {f : List D → Res D} (h : CellS f) (ns : List Int) {k : Int} (hk : 0 ≤ k := by omega) : ∃ c : Int, f [.scr ns, .int k] = .ok (.int c) := ⟨_, h ns hk⟩
theorem row_rep {f : List D → Res D} (h : RowS f) (c : Int) (n : Nat) (m : Int) (hn : n ≤ 100000) (hm : 0 < m ∧ m < 1073741824) : ∃ r : List Int, f [.int c, .lst false (List.replicate n (D.int m))] = .ok (.lst true (r.map D.int)) ∧ r.length = n ∧ ∀ a ∈ r, 0 ≤ a ∧ a < m := by
  obtain ⟨r, g1, g2⟩ := h c (List.replicate n m) (rep_ok n m hn hm.1 hm.2)
  obtain ⟨g2, g3⟩ := g2.rep
  exact ⟨r, by simpa using g1, g2, g3⟩
@[simp] theorem shl_rep (n : Nat) (m : Int) : D.isShL (List.replicate n (D.int m)) = true := by simpa using shl_ints (List.replicate n m)
@[simp] theorem fll_rep (n : Nat) (m : Int) : D.flatL (List.replicate n (D.int m)) = List.replicate n (D.int m) := by simpa using fll_ints (List.replicate n m)
end MM
set_option Elab.async false
set_option linter.all false
set_option maxRecDepth 100000
set_option maxHeartbeats 4000000
namespace MM
open PySem L2 MP TX
variable {Φ : Tab} {fuel : Nat}
@[simp] theorem shl_repP (n : Nat) (a b : Int) : D.isShL (List.replicate n (D.tup false [.int a, .int b])) = true := by simpa [dPair] using shl_pairs (List.replicate n (a, b))
@[simp] theorem fll_repP (n : Nat) (a b : Int) : D.flatL (List.replicate n (D.tup false [.int a, .int b])) = List.replicate n (D.tup false [.int a, .int b]) := by simpa [dPair] using fll_pairs (List.replicate n (a, b))
theorem NotesIn2.ok {n : Nat} {l : List (Int × Int)} (h : NotesIn2 n l) (k : l.length ≤ 40000) : NotesOk n l := ⟨fun m hm => by have := h m hm; omega, k⟩
end MM
set_option Elab.async false
set_option linter.all false
set_option maxRecDepth 100000
set_option maxHeartbeats 2000000
namespace MM
open PySem L2 MP TX
variable {Φ : Tab} {fuel : Nat}
theorem take_at {α : Type} {l : List α} {i : Nat} {a : α} (h : l[i]? = some a) : l.take (i + 1) = l.take i ++ [a] := by rw [List.take_succ, h]; rfl
end MM
set_option Elab.async false
set_option linter.all false
set_option maxRecDepth 100000
set_option maxHeartbeats 2000000
namespace MM
open PySem L2 MP TX
variable {Φ : Tab} {fuel : Nat}
def succF (S : List (Int × Int)) (k : Int) : List Int := (S.filter fun p => decide (p.1 = k)).map Prod.snd
/-- what chains of steps reach from -1 -/
inductive Reach (S : List (Int × Int)) : Int → Prop
  | base : Reach S (-1)
  | step {a b : Int} : Reach S a → (a, b) ∈ S → Reach S b
/-- a search tree from -1: events with the event before each -/
structure CameT (S L : List (Int × Int)) : Prop where
  nd : (L.map Prod.fst).Nodup
  h0 : L[0]? = some (-1, -1)
  tree : ∀ (i : Nat) (x y : Int), 0 < i → L[i]? = some (x, y) → (y, x) ∈ S ∧ ∃ (j : Nat) (z : Int), j < i ∧ L[j]? = some (y, z)
theorem CameT.len {S L : List (Int × Int)} (h : CameT S L) : L.length ≤ S.length + 1 := by
  have := nodup_len (l := L.map Prod.fst) (m := -1 :: S.map Prod.snd) h.nd (fun e he => by
    obtain ⟨⟨a, b⟩, hm, rfl⟩ := List.mem_map.mp he
    obtain ⟨i, hi⟩ := List.mem_iff_getElem?.mp hm
    by_cases z : i = 0
    · subst z; rw [h.h0] at hi; cases hi; simp
    · obtain ⟨h1, _⟩ := h.tree i a b (by omega) hi
      exact List.mem_cons_of_mem _ (List.mem_map.mpr ⟨_, h1, rfl⟩))
  simpa using this
def cameD (o : Bool) (L : List (Int × Int)) : D := .dct o false ((L.map Prod.fst).map D.int) ((L.map Prod.snd).map D.int)
end MM
set_option Elab.async false
set_option linter.all false
set_option maxRecDepth 100000
set_option maxHeartbeats 2000000
namespace MM
open PySem L2 MP TX
variable {Φ : Tab} {fuel : Nat}
open Classical in
def StepsIn (n : Nat) (S : List (Int × Int)) : Prop := ∀ p ∈ S, -1 ≤ p.1 ∧ p.1 < (n : Int) ∧ -1 ≤ p.2 ∧ p.2 < (n : Int)
theorem Reach.inn {n : Nat} {S : List (Int × Int)} (h : StepsIn n S) {x : Int} (r : Reach S x) : -1 ≤ x ∧ x < n := by
  induction r with
  | base => omega
  | step _ hs _ => have := h _ hs; simp only [] at this; omega
/-- what a relaxation has found -/
structure LateL (n : Nat) (S : List (Int × Int)) (L : List Int) : Prop where
  nd : L.Nodup
  h0 : (-1 : Int) ∈ L
  rc : ∀ x ∈ L, Reach S x
theorem LateL.len {n : Nat} {S : List (Int × Int)} {L : List Int} (h : LateL n S L) (hS : StepsIn n S) : L.length ≤ n + 1 := by
  have := nodup_len (l := L) (m := rng (-1) (n + 1)) h.nd (fun x hx => by have := (h.rc x hx).inn hS; exact mem_rng.mpr (by omega))
  simpa using this
end MM
set_option Elab.async false
set_option linter.all false
set_option maxRecDepth 100000
set_option maxHeartbeats 2000000
namespace MM
open PySem L2 MP TX
variable {Φ : Tab} {fuel : Nat}
end MM
set_option Elab.async false
set_option linter.all false
set_option maxRecDepth 100000
set_option maxHeartbeats 2000000
namespace MM
open PySem L2 MP TX
variable {Φ : Tab} {fuel : Nat}
end MM
set_option Elab.async false
set_option linter.all false
set_option maxRecDepth 100000
set_option maxHeartbeats 2000000
namespace MM
open PySem L2 MP TX
variable {Φ : Tab} {fuel : Nat}
end MM
set_option Elab.async false
set_option linter.all false
set_option maxRecDepth 100000
set_option maxHeartbeats 2000000
namespace MM
open PySem L2 MP TX
variable {Φ : Tab} {fuel : Nat}
/-- steps counted -/
def wc (S : List (Int × Int)) (P : List Int) (y : Int) : Int := ((S.filter fun p => decide (p.2 = y) && !decide (p.1 ∈ P)).length : Int)
def cF (F : List Int) (y : Int) : Int := ((F.filter fun z => decide (z = y)).length : Int)
theorem wc_split {P : List Int} {x : Int} (h : x ∉ P) (y : Int) : ∀ S : List (Int × Int), wc S P y = wc S (P ++ [x]) y + cF (succF S x) y
  | [] => by simp [wc, cF, succF]
  | (a, b) :: r => by
    have ih := wc_split h y r
    unfold wc cF succF at *
    simp only [List.filter_cons, List.mem_append, List.mem_singleton]
    by_cases h1 : b = y
    · by_cases h2 : a = x
      · subst h2; simp [h1, h] at ih ⊢; omega
      · by_cases h3 : a ∈ P
        · simp [h1, h2, h3] at ih ⊢; omega
        · simp [h1, h2, h3] at ih ⊢; omega
    · by_cases h2 : a = x
      · simp [h1, h2] at ih ⊢; omega
      · simp [h1, h2] at ih ⊢; omega
end MM
set_option Elab.async false
set_option linter.all false
set_option maxRecDepth 100000
set_option maxHeartbeats 2000000
namespace MM
open PySem L2 MP TX
variable {Φ : Tab} {fuel : Nat}
structure OrdT (E : List Int) (S : List (Int × Int)) (O : List Int) (at_ m : Nat) (W : Int → Int) (F : List Int) : Prop where
  nd : O.Nodup
  sub : ∀ x ∈ O, x ∈ E
  w : ∀ y ∈ E, W y = wc S (O.take at_) y - cF F y
  zero : ∀ y ∈ E, (y ∈ O ↔ W y = 0)
  st : ∀ (i : Nat) (y : Int), O[i]? = some y → ∀ x, (x, y) ∈ S → ∃ j, j < i ∧ j < m ∧ O[j]? = some x
theorem OrdT.len {E : List Int} {S : List (Int × Int)} {O : List Int} {at_ m : Nat} {W : Int → Int} {F : List Int} (h : OrdT E S O at_ m W F) : O.length ≤ E.length := nodup_len h.nd h.sub
theorem take_not {O : List Int} (h : O.Nodup) {i : Nat} {x : Int} (e : O[i]? = some x) : x ∉ O.take i := fun hm => by
  obtain ⟨j, hj⟩ := List.mem_iff_getElem?.mp hm
  have hlt := lt_of_some hj
  simp at hlt
  rw [List.getElem?_take_of_lt (by omega)] at hj
  have h1 := lt_of_some hj
  have h2 := lt_of_some e
  have := (List.getElem?_inj h1 h).mp (hj.trans e.symm)
  omega
theorem OrdT.next {E : List Int} {S : List (Int × Int)} {O : List Int} {at_ : Nat} {W : Int → Int} {x : Int} (h : OrdT E S O at_ (at_ + 1) W (succF S x)) (hx : O[at_]? = some x) : OrdT E S O (at_ + 1) (at_ + 1) W [] :=
  ⟨h.nd, h.sub, fun y hy => by
    have := wc_split (take_not h.nd hx) y S
    rw [take_at hx, h.w y hy]
    simp only [cF, List.filter_nil, List.length_nil] at *
    omega, h.zero, h.st⟩
end MM
set_option Elab.async false
set_option linter.all false
set_option maxRecDepth 100000
set_option maxHeartbeats 2000000
namespace MM
open PySem L2 MP TX
variable {Φ : Tab} {fuel : Nat}
/-- a ring of steps -/
structure StRing (E : List Int) (S : List (Int × Int)) (R : List Int) : Prop where
  ne : R ≠ []
  nd : R.Nodup
  sub : ∀ x ∈ R, x ∈ E
  st : ∀ i < R.length, (R.getD i 0, R.getD ((i + 1) % R.length) 0) ∈ S
/-- a path back -/
structure PathT (T : List Int) (G : Int → Int) (P : List Int) : Prop where
  ne : P ≠ []
  nd : P.Nodup
  sub : ∀ x ∈ P, x ∈ T
  st : ∀ i, i + 1 < P.length → G (P.getD i 0) = P.getD (i + 1) 0
theorem PathT.len {T : List Int} {G : Int → Int} {P : List Int} (h : PathT T G P) : 0 < P.length ∧ P.length ≤ T.length := ⟨List.length_pos_iff.mpr h.ne, nodup_len h.nd h.sub⟩
end MM
set_option Elab.async false
set_option linter.all false
set_option maxRecDepth 100000
set_option maxHeartbeats 2000000
namespace MM
open PySem L2 MP TX
variable {Φ : Tab} {fuel : Nat}
theorem StRing.next {E : List Int} {S : List (Int × Int)} {R : List Int} (h : StRing E S R) {x : Int} (hx : x ∈ R) : ∃ b ∈ R, (x, b) ∈ S := by
  obtain ⟨i, hi⟩ := List.mem_iff_getElem?.mp hx
  have hl := lt_of_some hi
  have hg : R.getD i 0 = x := by rw [List.getD_eq_getElem?_getD, hi]; rfl
  have := h.st i hl
  rw [hg] at this
  exact ⟨_, getD_mem (Nat.mod_lt _ (by omega)), this⟩
end MM
set_option Elab.async false
set_option linter.all false
set_option maxRecDepth 100000
set_option maxHeartbeats 2000000
namespace MM
open PySem L2 MP TX
variable {Φ : Tab} {fuel : Nat}
@[simp] theorem m_isN_n : sem1 .isN .non = .ok (.bl true) := (rfl)
@[simp] theorem m_isN_l (o : Bool) (l : List D) : sem1 .isN (.lst o l) = .ok (.bl false) := (rfl)
@[simp] theorem m_isN_i (i : Int) : sem1 .isN (.int i) = .ok (.bl false) := (rfl)
@[simp] theorem m_notN_n : sem1 .notN .non = .ok (.bl false) := (rfl)
@[simp] theorem m_notN_l (o : Bool) (l : List D) : sem1 .notN (.lst o l) = .ok (.bl true) := (rfl)
@[simp] theorem m_notN_i (i : Int) : sem1 .notN (.int i) = .ok (.bl true) := (rfl)
end MM
set_option Elab.async false
set_option linter.all false
set_option maxRecDepth 100000
set_option maxHeartbeats 1000000
namespace MM
open PySem L2 MP TX
section
variable {ds : List Bool} {h : List Int} {ms ns S : List (Int × Int)}
end
open Classical in
open Classical in
open Classical in
section
variable {ds : List Bool} {ms ns S : List (Int × Int)} {O : List Int}
open Classical in
end
end MM
set_option Elab.async false
set_option linter.all false
set_option maxRecDepth 100000
set_option maxHeartbeats 2000000
namespace MM
open PySem L2 MP TX
variable {Φ : Tab} {fuel : Nat}
@[simp] theorem came_flat (o : Bool) (L : List (Int × Int)) : (cameD o L).flat = cameD false L := by
  unfold cameD
  show D.dct false false _ (D.flatL _) = _
  rw [fll_ints]
@[simp] theorem came_live (o : Bool) (L : List (Int × Int)) : live (cameD o L) = .ok (cameD o L) := (rfl)
@[simp] theorem came_sh (L : List (Int × Int)) : (cameD false L).isSh = true := by
  unfold cameD
  show (true && D.isShL _) = true
  rw [shl_ints]; rfl
open Classical in
structure BackT (S L : List (Int × Int)) (e : Int) (c : List Int) (k : Nat) : Prop where
  ne : c ≠ []
  first : c.getD 0 0 = e
  st : ∀ i, i + 1 < c.length → (c.getD (i + 1) 0, c.getD i 0) ∈ S
  nd : c.Nodup
  sub : ∀ x ∈ c, x ∈ L.map Prod.fst
  at_ : ∃ y, L[k]? = some (c.getD (c.length - 1) 0, y)
  far : ∀ x ∈ c, x ∉ (L.take k).map Prod.fst
theorem BackT.len {S L : List (Int × Int)} {e : Int} {c : List Int} {k : Nat} (h : BackT S L e c k) : c.length ≤ L.length := by simpa using nodup_len h.nd h.sub
end MM
set_option Elab.async false
set_option linter.all false
set_option maxRecDepth 100000
set_option maxHeartbeats 2000000
namespace MM
open PySem L2 MP TX
variable {Φ : Tab} {fuel : Nat}
open Classical in
open Classical in
/-! the certificate as the law reads it -/
/-! search and solve -/
end MM
set_option Elab.async false
set_option linter.all false
set_option maxRecDepth 100000
set_option maxHeartbeats 2000000
namespace MM
open PySem L2 MP TX
variable {Φ : Tab} {fuel : Nat}
end MM
set_option Elab.async false
set_option linter.all false
set_option maxRecDepth 100000
set_option maxHeartbeats 2000000
namespace MM
open PySem L2 MP TX
variable {Φ : Tab} {fuel : Nat}
end MM
set_option Elab.async false
set_option linter.all false
set_option maxRecDepth 100000
set_option maxHeartbeats 2000000
namespace MM
open PySem L2 MP TX
variable {Φ : Tab} {fuel : Nat}
end MM
set_option Elab.async false
set_option linter.all false
set_option maxRecDepth 100000
set_option maxHeartbeats 2000000
namespace MM
open PySem L2 MP TX
variable {Φ : Tab} {fuel : Nat}
theorem Fits.b {ds : List Bool} {h : List Int} {ms ns : List (Int × Int)} (F : Fits ds h ms ns) : fitsB ds ms ns h = true := by
  unfold fitsB
  rw [Bool.and_eq_true, Bool.and_eq_true, List.all_eq_true, List.all_eq_true]
  exact ⟨histB_iff.mpr F.hist, fun m hm => decide_eq_true (F.marks m hm), fun n hn => by
    have := F.notes n hn
    rw [Bool.not_eq_true', decide_eq_false_iff_not]; omega⟩
end MM
set_option Elab.async false
set_option linter.all false
set_option maxRecDepth 100000
set_option maxHeartbeats 2000000
namespace MM
open PySem L2 MP TX
variable {Φ : Tab} {fuel : Nat}
end MM
set_option Elab.async false
set_option linter.all false
set_option maxRecDepth 100000
set_option maxHeartbeats 2000000
namespace MM
open PySem L2 MP TX
variable {Φ : Tab} {fuel : Nat}
/-- two different events -/
def EvP (n : Nat) (x y : Int) : Prop := -1 ≤ x ∧ x < n ∧ -1 ≤ y ∧ y < n ∧ x ≠ y
theorem EvP.swap {n : Nat} {x y : Int} (h : EvP n x y) : EvP n y x := ⟨h.2.2.1, h.2.2.2.1, h.1, h.2.1, fun z => h.2.2.2.2 z.symm⟩
theorem NotesOk.nil (n : Nat) : NotesOk n [] := ⟨fun m hm => (nomatch hm), by simp⟩
section
variable {ds : List Bool} {ms ns xs : List (Int × Int)} {f : List D → Res D}
end
end MM
set_option Elab.async false
set_option linter.all false
set_option maxRecDepth 100000
set_option maxHeartbeats 2000000
namespace MM
open PySem L2 MP TX
variable {Φ : Tab} {fuel : Nat}
end MM
set_option Elab.async false
set_option linter.all false
set_option maxRecDepth 100000
set_option maxHeartbeats 2000000
namespace MM
open PySem L2 MP TX
variable {Φ : Tab} {fuel : Nat}
/-! the web -/
def webD (o : Bool) (ds : List Bool) (ms : List (Int × Int)) (hs : List (Int × Int × Int)) (ns W : List (Int × Int)) : D := .obj o 2 ["whole", "pairs"] [paneD false ds ms hs ns, .tup false (W.map dPair)]
section
variable (o : Bool) (ds : List Bool) (ms : List (Int × Int)) (hs : List (Int × Int × Int)) (ns W : List (Int × Int))
@[simp] theorem wb_pairs : (webD o ds ms hs ns W).getF "pairs" = some (.tup false (W.map dPair)) := by unfold webD; rfl
@[simp] theorem wb_whole : (webD o ds ms hs ns W).getF "whole" = some (paneD false ds ms hs ns) := by unfold webD; rfl
@[simp] theorem wb_live : live (webD o ds ms hs ns W) = .ok (webD o ds ms hs ns W) := (rfl)
@[simp] theorem wb_fl : (webD o ds ms hs ns W).flat = webD false ds ms hs ns W := by simp [webD]
@[simp] theorem wb_sh : (webD o ds ms hs ns W).isSh = !o := by simp [webD]
end
end MM
set_option Elab.async false
set_option linter.all false
set_option maxRecDepth 100000
set_option maxHeartbeats 2000000
namespace MM
open PySem L2 MP TX
variable {Φ : Tab} {fuel : Nat}
end MM
set_option Elab.async false
set_option linter.all false
set_option maxRecDepth 100000
set_option maxHeartbeats 2000000
namespace MM
open PySem L2 MP TX
variable {Φ : Tab} {fuel : Nat}
/-- two different scratches -/
def ScP (n : Nat) (x y : Int) : Prop := 0 ≤ x ∧ x < n ∧ 0 ≤ y ∧ y < n ∧ x ≠ y
theorem ScP.ev {n : Nat} {x y : Int} (h : ScP n x y) : EvP n x y := ⟨by have := h.1; omega, h.2.1, by have := h.2.2.1; omega, h.2.2.2.1, h.2.2.2.2⟩
theorem ScP.swap {n : Nat} {x y : Int} (h : ScP n x y) : ScP n y x := ⟨h.2.2.1, h.2.2.2.1, h.1, h.2.1, fun z => h.2.2.2.2 z.symm⟩
end MM
set_option Elab.async false
set_option linter.all false
set_option maxRecDepth 100000
set_option maxHeartbeats 2000000
namespace MM
open PySem L2 MP TX
variable {Φ : Tab} {fuel : Nat}
end MM
set_option Elab.async false
set_option linter.all false
set_option maxRecDepth 100000
set_option maxHeartbeats 2000000
namespace MM
open PySem L2 MP TX
variable {Φ : Tab} {fuel : Nat}
theorem PaneOk.more {ds : List Bool} {ms : List (Int × Int)} {hs : List (Int × Int × Int)} {ns : List (Int × Int)} (P : PaneOk ds ms hs ns) {a b : Int} (hab : ScP ds.length a b) (h1 : (a, b) ∉ ms) (h2 : (b, a) ∉ ms) (hl : ms.length ≤ 30000) {m : Int × Int} (hm : m = (a, b) ∨ m = (b, a)) :
    PaneOk ds (ms ++ [m]) (hs.filter fun t => !decide ((t.1, t.2.1) = crF (a, b))) ns := by
  obtain ⟨⟨c1, c2, c3, c4, c5⟩, p2, p3⟩ := P
  have hmc : crF m = crF (a, b) := by rcases hm with rfl | rfl; rfl; exact crF_swap (a, b)
  have hms : ScP ds.length m.1 m.2 := by rcases hm with rfl | rfl; exact hab; exact hab.swap
  refine ⟨⟨fun x hx => ?_, fun x hx => c2 x (List.mem_filter.mp hx).1, ?_, by simp; omega, Nat.le_trans (List.length_filter_le _ _) c5⟩, p2, p3⟩
  · rcases List.mem_append.mp hx with hx | hx
    · exact c1 x hx
    · rw [List.mem_singleton.mp hx]; exact hms
  · rw [List.nodup_append] at c3 ⊢
    obtain ⟨n1, n2, n3⟩ := c3
    refine ⟨?_, (List.filter_sublist.map hcF).nodup n2, ?_⟩
    · rw [List.map_append, List.nodup_append]
      refine ⟨n1, by simp, fun x hx y hy => ?_⟩
      rw [List.map_cons, List.map_nil, List.mem_singleton] at hy
      subst hy
      rintro rfl
      obtain ⟨w, hw, e⟩ := List.mem_map.mp hx
      rw [hmc] at e
      have k1 : w ≠ (a, b) := fun z => h1 (z ▸ hw)
      have k2 : w ≠ (b, a) := fun z => h2 (z ▸ hw)
      exact crF_ne k1 k2 e
    · intro x hx y hy
      rw [List.map_append, List.mem_append] at hx
      obtain ⟨w, hw, rfl⟩ := List.mem_map.mp hy
      obtain ⟨w1, w2⟩ := List.mem_filter.mp hw
      rcases hx with hx | hx
      · exact n3 x hx (hcF w) (List.mem_map.mpr ⟨w, w1, rfl⟩)
      · rw [List.map_cons, List.map_nil, List.mem_singleton] at hx
        rw [hx, hmc]
        intro z
        have : (w.1, w.2.1) = crF (a, b) := z.symm
        simp [this] at w2
end MM
set_option Elab.async false
set_option linter.all false
set_option maxRecDepth 100000
set_option maxHeartbeats 2000000
namespace MM
open PySem L2 MP TX
variable {Φ : Tab} {fuel : Nat}
end MM
set_option Elab.async false
set_option linter.all false
set_option maxRecDepth 100000
set_option maxHeartbeats 2000000
namespace MM
open PySem L2 MP TX
variable {Φ : Tab} {fuel : Nat}
/-! growing -/
end MM
set_option Elab.async false
set_option linter.all false
set_option maxRecDepth 100000
set_option maxHeartbeats 2000000
namespace MM
open PySem L2 MP TX
variable {Φ : Tab} {fuel : Nat}
end MM
set_option Elab.async false
set_option linter.all false
set_option maxRecDepth 100000
set_option maxHeartbeats 2000000
namespace MM
open PySem L2 MP TX
variable {Φ : Tab} {fuel : Nat}
end MM
set_option Elab.async false
set_option linter.all false
set_option maxRecDepth 100000
set_option maxHeartbeats 2000000
namespace MM
open PySem L2 MP TX
variable {Φ : Tab} {fuel : Nat}
end MM
set_option Elab.async false
set_option linter.all false
set_option maxRecDepth 100000
set_option maxHeartbeats 2000000
namespace MM
open PySem L2 MP TX
variable {Φ : Tab} {fuel : Nat}
/-! k14: late_chain -/
end MM
set_option Elab.async false
set_option linter.all false
set_option maxRecDepth 100000
set_option maxHeartbeats 2000000
namespace MM
open PySem L2 MP TX
variable {Φ : Tab} {fuel : Nat}
/-! k02 .. k05: invalid panes -/
def cch (c : Nat) : Str := ⟨#[c]⟩
def cstr (l : List Nat) : Str := ⟨l.toArray⟩
@[simp] theorem cstr_len (l : List Nat) : (cstr l).length = l.length := by simp [cstr, Str.length]
theorem dstr_c (ds : List Bool) : dstr ds = cstr (ds.map dcp) := rfl
@[simp] theorem strD_c (l : List Nat) : strD (cstr l) = l.map fun c => .str (cch c) := by simp [strD, cstr, cch]
theorem ok_cch {c : Nat} (h : c < 1114112) : PyData.strOk (cch c) = true := by
  unfold PyData.strOk cch
  simp; omega
theorem eo_cch {c : Nat} (h : c < 1114112) : (D.str (cch c)).eqOk = true := eo_str (ok_cch h)
theorem cch_inj {a b : Nat} : cch a = cch b ↔ a = b := by unfold cch; simp
theorem d_cch : ("d" : Str) = cch 100 := by decide +kernel
theorem s_cch : ("s" : Str) = cch 115 := by decide +kernel
theorem cch_d (c : Nat) : (cch c = ("d" : Str)) ↔ c = 100 := by rw [d_cch, cch_inj]
theorem cch_s (c : Nat) : (cch c = ("s" : Str)) ↔ c = 115 := by rw [s_cch, cch_inj]
@[simp] theorem NxtR_exc (J : List D → Prop) (R : SR → Prop) (x : Exn) (δ : List D) : NxtR J R (.exc x δ) = R (.exc x δ) := (rfl)
/-- the first bad place -/
def fstB (bad : Nat → Bool) (n : Nat) : Option Nat := (List.range n).find? bad
theorem fst_at {bad : Nat → Bool} {n i : Nat} (h : bad i = true) (hb : ∀ j < i, bad j = false) (hi : i < n) : fstB bad n = some i := by
  unfold fstB
  rw [List.find?_range_eq_some]
  exact ⟨h, List.mem_range.mpr hi, fun j hj => by rw [hb j hj]; rfl⟩
theorem fst_no {bad : Nat → Bool} {n : Nat} (hb : ∀ j < n, bad j = false) : fstB bad n = none := by
  unfold fstB
  rw [List.find?_eq_none]
  intro j hj
  rw [hb j (List.mem_range.mp hj)]
  simp
def badP (p : Str) (k : Nat) : Exn := ⟨6, ["index", "part"], [.int k, .str p]⟩
def BadPS (f : List D → Res D) : Prop := ∀ (p : Str) (k : Nat), p.length ≤ 100 → f [.str p, .int k] = .exc (badP p k)
theorem t_x_BadPane : BadPS (xiF Φ N_x_BadPane.length 6 xe_x_BadPane xf_x_BadPane) := fun p k hp => by
  unfold xiF
  have hd : xiD N_x_BadPane.length [.str p, .int k] = [.dead, .str p, .int k, .dead] := rfl
  have hl : ("invalid item in the pane's " : Str).length = 27 := by decide +kernel
  rw [hd]
  simp only [xe_x_BadPane, xf_x_BadPane, xgoE]
  simp (disch := omega) [EVA, IXA, -List.any_map, -List.all_map, -List.getD_eq_getElem?_getD, -List.map_map, -List.drop_one, ← List.map_take, ← List.map_drop, ← List.map_reverse, badP, hl]
/-- a check's outcome -/
def outX (part : Str) (o : Option Nat) : Res D := match o with
  | some k => .exc (badP part k)
  | none => .ok .non
def stopX (part : Str) (o : Option Nat) (J : List D → Prop) (r : SR) : Prop := match o with
  | some k => ∃ δ, r = .exc (badP part k) δ
  | none => ∃ δ, r = .nx δ ∧ J δ
def dsB (c : Nat) : Bool := decide (c = 100) || decide (c = 115)
def depBad (l : List Nat) : Option Nat := fstB (fun i => !dsB (l.getD i 0)) l.length
def CheckDepthsXS (f : List D → Res D) : Prop := ∀ l : List Nat, l.length ≤ 1000 → (∀ c ∈ l, c < 1114112) → f [.str (cstr l)] = outX "depths" (depBad l)
def cdx_I (bad : Nat → Bool) (s : D) (i : Nat) (δ : List D) : Prop := (∀ j < i, bad j = false) ∧ ∃ x y : D, δ = [s, x, y]
theorem t_check_depths_x (hx : BadPS (Φ.fn 131)) : CheckDepthsXS (runF Φ fuel N_check_depths_x.length b_check_depths_x) := fun l hl hc => by
  have L1 : stopX "depths" (depBad l) (fun δ => ∃ x y, δ = [.str (cstr l), x, y]) (forL (.p (.n 1) (.n 2)) (fun δ' => evalS Φ fuel b_check_depths_x_L1 δ') ((l.zipIdx 0).map fun q => .tup false [.int (q.2 : Nat), .str (cch q.1)]) [.str (cstr l), .dead, .dead]) := by
    refine forL_goR (cdx_I (fun i => !dsB (l.getD i 0)) (.str (cstr l))) _ _ ⟨fun j hj => absurd hj (by omega), _, _, rfl⟩ (fun i q δ hi hJ => ?_) (fun δ hJ => ?_)
    · obtain ⟨hb, x, y, rfl⟩ := hJ
      obtain ⟨hm, hq⟩ := zip_some hi
      obtain ⟨c, j⟩ := q
      simp only [] at hm hq
      subst hq
      have hlt := lt_of_some hm
      have hcc := hc c (List.mem_of_getElem? hm)
      have hgd : l.getD j 0 = c := by rw [List.getD_eq_getElem?_getD, hm]; rfl
      have eo := eo_cch hcc
      have e1 := hx "depths" j (by decide +kernel)
      refine ⟨_, rfl, ?_⟩
      simp only [b_check_depths_x_L1]
      have next : dsB c = true → ∀ k < j + 1, (fun i => !dsB (l.getD i 0)) k = false := fun hk k hkj => by
        by_cases z : k = j
        · subst z
          show (!dsB (l.getD k 0)) = false
          rw [hgd, hk]; rfl
        · exact hb k (by omega)
      by_cases h1 : c = 100
      · subst h1
        simp (disch := omega) [EVA, IXA, ITA, -List.any_map, -List.all_map, -List.getD_eq_getElem?_getD, -List.map_map, -List.drop_one, ← List.map_take, ← List.map_drop, ← List.map_reverse, m_ne, eo, cch_d, cch_s]
        exact ⟨next rfl, _, _, rfl⟩
      · by_cases h2 : c = 115
        · subst h2
          simp (disch := omega) [EVA, IXA, ITA, -List.any_map, -List.all_map, -List.getD_eq_getElem?_getD, -List.map_map, -List.drop_one, ← List.map_take, ← List.map_drop, ← List.map_reverse, m_ne, eo, cch_d, cch_s]
          exact ⟨next rfl, _, _, rfl⟩
        · have hbad : (fun i => !dsB (l.getD i 0)) j = true := by
            show (!dsB (l.getD j 0)) = true
            rw [hgd]
            simp [dsB, h1, h2]
          have hf : depBad l = some j := fst_at hbad hb hlt
          rw [hf]
          unfold badP at e1
          simp (disch := omega) [EVA, IXA, ITA, -List.any_map, -List.all_map, -List.getD_eq_getElem?_getD, -List.map_map, -List.drop_one, ← List.map_take, ← List.map_drop, ← List.map_reverse, m_ne, eo, cch_d, cch_s, h1, h2, e1]
          exact ⟨_, rfl⟩
    · obtain ⟨hb, x, y, rfl⟩ := hJ
      have hf : depBad l = none := fst_no (by simpa using hb)
      rw [hf]
      exact ⟨_, rfl, _, _, rfl⟩
  simp only [b_check_depths_x, N_check_depths_x]
  simp (disch := omega) [EVA, IXA, -List.any_map, -List.all_map, -List.getD_eq_getElem?_getD, -List.map_map, -List.drop_one, ← List.map_take, ← List.map_drop, ← List.map_reverse, enumD_map]
  cases hf : depBad l with
  | none =>
    rw [hf] at L1
    obtain ⟨δ', h1, x, y, rfl⟩ := L1
    rw [h1]
    simp (disch := omega) [EVA, IXA, -List.any_map, -List.all_map, -List.getD_eq_getElem?_getD, -List.map_map, -List.drop_one, ← List.map_take, ← List.map_drop, ← List.map_reverse, outX]
  | some k =>
    rw [hf] at L1
    obtain ⟨δ', h1⟩ := L1
    rw [h1]
    simp (disch := omega) [EVA, IXA, -List.any_map, -List.all_map, -List.getD_eq_getElem?_getD, -List.map_map, -List.drop_one, ← List.map_take, ← List.map_drop, ← List.map_reverse, outX]
end MM
set_option Elab.async false
set_option linter.all false
set_option maxRecDepth 100000
set_option maxHeartbeats 2000000
namespace MM
open PySem L2 MP TX
variable {Φ : Tab} {fuel : Nat}
def mkBad (n : Nat) (ms : List (Int × Int)) (i : Nat) : Bool := !(decide (0 ≤ (ms.getD i (0, 0)).1) && decide ((ms.getD i (0, 0)).1 < (n : Int)) && (decide (0 ≤ (ms.getD i (0, 0)).2) && decide ((ms.getD i (0, 0)).2 < (n : Int)))) || (decide ((ms.getD i (0, 0)).1 = (ms.getD i (0, 0)).2) || decide (crF (ms.getD i (0, 0)) ∈ (ms.take i).map crF))
def hdBad (n : Nat) (ms : List (Int × Int)) (hs : List (Int × Int × Int)) (i : Nat) : Bool := !(decide (0 ≤ (hs.getD i (0, 0, 0)).1) && (decide ((hs.getD i (0, 0, 0)).1 < (hs.getD i (0, 0, 0)).2.1) && decide ((hs.getD i (0, 0, 0)).2.1 < (n : Int)))) || decide (hcF (hs.getD i (0, 0, 0)) ∈ ms.map crF ++ (hs.take i).map hcF)
def ntBad (n : Nat) (ns : List (Int × Int)) (i : Nat) : Bool := !(decide (-1 ≤ (ns.getD i (0, 0)).1) && decide ((ns.getD i (0, 0)).1 < (n : Int)) && (decide (-1 ≤ (ns.getD i (0, 0)).2) && decide ((ns.getD i (0, 0)).2 < (n : Int)))) || decide ((ns.getD i (0, 0)).1 = (ns.getD i (0, 0)).2)
def crossX (n : Nat) (ms : List (Int × Int)) (hs : List (Int × Int × Int)) : Res D := match fstB (mkBad n ms) ms.length with
  | some k => .exc (badP "marks" k)
  | none => outX "hidden" (fstB (hdBad n ms hs) hs.length)
def CheckCrossXS (f : List D → Res D) : Prop := ∀ (n : Nat) (b c : Bool) (ms : List (Int × Int)) (hs : List (Int × Int × Int)), ms.length ≤ 40000 → hs.length ≤ 40000 → f [.int n, sqD b (ms.map dPair), sqD c (hs.map dTri)] = crossX n ms hs
theorem next_bad {bad : Nat → Bool} {j : Nat} (hb : ∀ k < j, bad k = false) (h : bad j = false) : ∀ k < j + 1, bad k = false := fun k hk => by
  by_cases z : k = j
  · rw [z]; exact h
  · exact hb k (by omega)
def ccx_I1 (n md hd : D) (bad : Nat → Bool) (ms : List (Int × Int)) (i : Nat) (δ : List D) : Prop := (∀ j < i, bad j = false) ∧ check_crossings_I1 n md hd ms i δ
def ccx_I2 (n md hd : D) (bad : Nat → Bool) (ms : List (Int × Int)) (hs : List (Int × Int × Int)) (i : Nat) (δ : List D) : Prop := (∀ j < i, bad j = false) ∧ check_crossings_I2 n md hd ms hs i δ
theorem ccx_L1 {n : Nat} (hof : CrOfS (Φ.fn 0)) (hx : BadPS (Φ.fn 131)) {ms : List (Int × Int)} (hl : ms.length ≤ 40000) (md hd a b c d e f g : D) :
    stopX "marks" (fstB (mkBad n ms) ms.length) (check_crossings_I1 (.int n) md hd ms ms.length) (forL (.p (.n 4) (.p (.n 6) (.n 7))) (fun δ' => evalS Φ fuel b_check_crossings_x_L1 δ') ((ms.zipIdx 0).map fun q => .tup false [.int (q.2 : Nat), dPair q.1]) [.int n, md, hd, .dct true true [] [], a, b, c, d, e, f, g]) := by
  refine forL_goR (ccx_I1 (.int n) md hd (mkBad n ms) ms) (ms.zipIdx 0) _ ⟨fun j hj => absurd hj (by omega), [], a, b, c, d, e, f, g, by simp, rfl, rfl⟩ (fun i q δ hi hJ => ?_) (fun δ hJ => ?_)
  · obtain ⟨hb, vs, a, b, c, d, e, f, g, rfl, hv, hvs⟩ := hJ
    obtain ⟨hm, hq⟩ := zip_some hi
    obtain ⟨⟨o, u⟩, j⟩ := q
    simp only [] at hm hq
    subst hq
    have hlt := lt_of_some hm
    have hgd : ms.getD j (0, 0) = (o, u) := by rw [List.getD_eq_getElem?_getD, hm]; rfl
    have hlen : ((ms.take j).map crF).length = j := by simp; omega
    have hlook := dlook_pairs (crF (o, u)) ((ms.take j).map crF) vs (by omega)
    have e1 := hx "marks" j (by decide +kernel)
    unfold badP at e1
    have hj : min j ms.length < 100000 := by omega
    have stop : mkBad n ms j = true → fstB (mkBad n ms) ms.length = some j := fun h => fst_at h hb hlt
    refine ⟨_, rfl, ?_⟩
    simp only [b_check_crossings_x_L1]
    by_cases h1 : 0 ≤ o
    rotate_left
    · rw [stop (by unfold mkBad; rw [hgd]; simp [h1])]
      simp (disch := omega) [EVA, IXA, ITA, -List.any_map, -List.all_map, -List.getD_eq_getElem?_getD, -List.map_map, -List.drop_one, ← List.map_take, ← List.map_drop, ← List.map_reverse, h1, e1]
      exact ⟨_, rfl⟩
    by_cases h2 : o < (n : Int)
    rotate_left
    · rw [stop (by unfold mkBad; rw [hgd]; simp [h1, h2])]
      simp (disch := omega) [EVA, IXA, ITA, -List.any_map, -List.all_map, -List.getD_eq_getElem?_getD, -List.map_map, -List.drop_one, ← List.map_take, ← List.map_drop, ← List.map_reverse, h1, h2, e1]
      exact ⟨_, rfl⟩
    by_cases h3 : 0 ≤ u
    rotate_left
    · rw [stop (by unfold mkBad; rw [hgd]; simp [h1, h2, h3])]
      simp (disch := omega) [EVA, IXA, ITA, -List.any_map, -List.all_map, -List.getD_eq_getElem?_getD, -List.map_map, -List.drop_one, ← List.map_take, ← List.map_drop, ← List.map_reverse, h1, h2, h3, e1]
      exact ⟨_, rfl⟩
    by_cases h4 : u < (n : Int)
    rotate_left
    · rw [stop (by unfold mkBad; rw [hgd]; simp [h1, h2, h3, h4])]
      simp (disch := omega) [EVA, IXA, ITA, -List.any_map, -List.all_map, -List.getD_eq_getElem?_getD, -List.map_map, -List.drop_one, ← List.map_take, ← List.map_drop, ← List.map_reverse, h1, h2, h3, h4, e1]
      exact ⟨_, rfl⟩
    by_cases h5 : o = u
    · rw [stop (by unfold mkBad; rw [hgd]; simp [h5])]
      subst h5
      simp (disch := omega) [EVA, IXA, ITA, -List.any_map, -List.all_map, -List.getD_eq_getElem?_getD, -List.map_map, -List.drop_one, ← List.map_take, ← List.map_drop, ← List.map_reverse, h1, h2, e1]
      exact ⟨_, rfl⟩
    by_cases h6 : crF (o, u) ∈ (ms.take j).map crF
    · rw [stop (by unfold mkBad; rw [hgd, decide_eq_true h6]; simp)]
      simp only [h6, decide_true] at hlook
      simp (disch := omega) [EVA, IXA, ITA, -List.any_map, -List.all_map, -List.getD_eq_getElem?_getD, -List.map_map, -List.drop_one, ← List.map_take, ← List.map_drop, ← List.map_reverse, h1, h2, h3, h4, h5, hof o u, hlook, e1, hvs, hj, -List.map_take]
      exact ⟨_, rfl⟩
    have hput := fun y => dput_new (y := y) (q := crF (o, u)) (ks := (ms.take j).map crF) (vs := vs) (by omega) h6
    have hgood : mkBad n ms j = false := by unfold mkBad; rw [hgd, decide_eq_false h6]; simp [h1, h2, h3, h4, h5]
    simp only [h6, decide_false] at hlook
    simp (disch := omega) [EVA, IXA, ITA, -List.any_map, -List.all_map, -List.getD_eq_getElem?_getD, -List.map_map, -List.drop_one, ← List.map_take, ← List.map_drop, ← List.map_reverse, h1, h2, h3, h4, h5, hof o u, hlook, hput, hvs, hj, -List.map_take]
    exact ⟨next_bad hb hgood, vs ++ [.bl true], .int j, .bl true, .int o, .int u, e, f, g, by simp [take_succ_some hm], by simp [hv], by simp [sh_app, hvs]⟩
  · obtain ⟨hb, hJ⟩ := hJ
    have hf : fstB (mkBad n ms) ms.length = none := fst_no (by simpa using hb)
    rw [hf]
    exact ⟨_, rfl, by simpa using hJ⟩
theorem ccx_L2 {n : Nat} (hx : BadPS (Φ.fn 131)) {ms : List (Int × Int)} {hs : List (Int × Int × Int)} (hl : ms.length ≤ 40000) (hl2 : hs.length ≤ 40000) (md hd a b c d e f g : D) (vs : List D) (hv : vs.length = ms.length) (hvs : D.isShL vs = true) :
    stopX "hidden" (fstB (hdBad n ms hs) hs.length) (check_crossings_I2 (.int n) md hd ms hs hs.length) (forL (.p (.n 4) (.t (.n 8) (.n 9) (.n 10))) (fun δ' => evalS Φ fuel b_check_crossings_x_L2 δ') ((hs.zipIdx 0).map fun q => .tup false [.int (q.2 : Nat), dTri q.1]) [.int n, md, hd, .dct true true ((ms.map crF).map dPair) vs, a, b, c, d, e, f, g]) := by
  refine forL_goR (ccx_I2 (.int n) md hd (hdBad n ms hs) ms hs) (hs.zipIdx 0) _ ⟨fun j hj => absurd hj (by omega), vs, a, b, c, d, e, f, g, by simp, hv, hvs⟩ (fun i q δ hi hJ => ?_) (fun δ hJ => ?_)
  · obtain ⟨hb, vs, a, b, c, d, e, f, g, rfl, hv, hvs⟩ := hJ
    obtain ⟨hm, hq⟩ := zip_some hi
    obtain ⟨⟨o, u, ch⟩, j⟩ := q
    simp only [] at hm hq
    subst hq
    have hlt := lt_of_some hm
    have hgd : hs.getD j (0, 0, 0) = (o, u, ch) := by rw [List.getD_eq_getElem?_getD, hm]; rfl
    have hlen : (ms.map crF ++ (hs.take j).map hcF).length = ms.length + j := by simp; omega
    have hlook := dlook_pairs (o, u) (ms.map crF ++ (hs.take j).map hcF) vs (by omega)
    have e1 := hx "hidden" j (by decide +kernel)
    unfold badP at e1
    have hj : ms.length + min j hs.length < 100000 := by omega
    have stop : hdBad n ms hs j = true → fstB (hdBad n ms hs) hs.length = some j := fun h => fst_at h hb hlt
    refine ⟨_, rfl, ?_⟩
    simp only [b_check_crossings_x_L2]
    by_cases h1 : 0 ≤ o
    rotate_left
    · rw [stop (by unfold hdBad; rw [hgd]; simp [h1])]
      simp (disch := omega) [EVA, IXA, ITA, -List.any_map, -List.all_map, -List.getD_eq_getElem?_getD, -List.map_map, -List.drop_one, ← List.map_take, ← List.map_drop, ← List.map_reverse, h1, e1]
      exact ⟨_, rfl⟩
    by_cases h2 : o < u
    rotate_left
    · rw [stop (by unfold hdBad; rw [hgd]; simp [h1, h2])]
      simp (disch := omega) [EVA, IXA, ITA, -List.any_map, -List.all_map, -List.getD_eq_getElem?_getD, -List.map_map, -List.drop_one, ← List.map_take, ← List.map_drop, ← List.map_reverse, h1, h2, e1]
      exact ⟨_, rfl⟩
    by_cases h3 : u < (n : Int)
    rotate_left
    · rw [stop (by unfold hdBad; rw [hgd]; simp [h1, h2, h3])]
      simp (disch := omega) [EVA, IXA, ITA, -List.any_map, -List.all_map, -List.getD_eq_getElem?_getD, -List.map_map, -List.drop_one, ← List.map_take, ← List.map_drop, ← List.map_reverse, h1, h2, h3, e1]
      exact ⟨_, rfl⟩
    by_cases h6 : (o, u) ∈ ms.map crF ++ (hs.take j).map hcF
    · rw [stop (by unfold hdBad; rw [hgd]; show (_ || decide ((o, u) ∈ ms.map crF ++ (hs.take j).map hcF)) = true; rw [decide_eq_true h6, Bool.or_true])]
      simp only [h6, decide_true] at hlook
      simp only [dPair] at hlook
      simp (disch := omega) [EVA, IXA, ITA, -List.any_map, -List.all_map, -List.getD_eq_getElem?_getD, -List.map_map, -List.drop_one, ← List.map_take, ← List.map_drop, ← List.map_reverse, h1, h2, h3, hlook, e1, hvs, hj, -List.map_take, -List.map_append]
      exact ⟨_, rfl⟩
    have hput := fun y => dput_new (y := y) (q := (o, u)) (ks := ms.map crF ++ (hs.take j).map hcF) (vs := vs) (by omega) h6
    have hgood : hdBad n ms hs j = false := by unfold hdBad; rw [hgd]; show (_ || decide ((o, u) ∈ ms.map crF ++ (hs.take j).map hcF)) = false; rw [decide_eq_false h6, Bool.or_false]; simp [h1, h2, h3]
    simp only [h6, decide_false] at hlook
    simp only [dPair] at hlook hput
    simp (disch := omega) [EVA, IXA, ITA, -List.any_map, -List.all_map, -List.getD_eq_getElem?_getD, -List.map_map, -List.drop_one, ← List.map_take, ← List.map_drop, ← List.map_reverse, h1, h2, h3, hlook, hput, hvs, hj, -List.map_take, -List.map_append]
    exact ⟨next_bad hb hgood, vs ++ [.int ch], .int j, b, c, d, .int o, .int u, .int ch, by simp [take_succ_some hm, hcF, dPair], by simp [hv]; omega, by simp [sh_app, hvs]⟩
  · obtain ⟨hb, hJ⟩ := hJ
    have hf : fstB (hdBad n ms hs) hs.length = none := fst_no (by simpa using hb)
    rw [hf]
    exact ⟨_, rfl, by simpa using hJ⟩
theorem t_check_crossings_x (hof : CrOfS (Φ.fn 0)) (hx : BadPS (Φ.fn 131)) : CheckCrossXS (runF Φ fuel N_check_crossings_x.length b_check_crossings_x) := fun n b c ms hs h4 h5 => by
  have L1 := ccx_L1 (Φ := Φ) (fuel := fuel) (n := n) hof hx h4 (sqD b (ms.map dPair)) (sqD c (hs.map dTri)) .dead .dead .dead .dead .dead .dead .dead
  simp only [b_check_crossings_x, N_check_crossings_x]
  simp (disch := omega) [EVA, IXA, -List.any_map, -List.all_map, -List.getD_eq_getElem?_getD, -List.map_map, -List.drop_one, ← List.map_take, ← List.map_drop, ← List.map_reverse, enumD_map]
  unfold crossX
  cases hf : fstB (mkBad n ms) ms.length with
  | some k =>
    rw [hf] at L1
    obtain ⟨δ', e1⟩ := L1
    rw [e1]
    simp (disch := omega) [EVA, IXA, -List.any_map, -List.all_map, -List.getD_eq_getElem?_getD, -List.map_map, -List.drop_one, ← List.map_take, ← List.map_drop, ← List.map_reverse]
  | none =>
    rw [hf] at L1
    obtain ⟨δ', e1, vs, x1, x2, x3, x4, x5, x6, x7, rfl, hv, hvs⟩ := L1
    rw [e1]
    simp only [List.take_length]
    simp (disch := omega) [EVA, IXA, -List.any_map, -List.all_map, -List.getD_eq_getElem?_getD, -List.map_map, -List.drop_one, ← List.map_take, ← List.map_drop, ← List.map_reverse, enumD_map]
    have L2 := ccx_L2 (Φ := Φ) (fuel := fuel) (n := n) hx h4 h5 (sqD b (ms.map dPair)) (sqD c (hs.map dTri)) x1 x2 x3 x4 x5 x6 x7 vs hv hvs
    cases hg : fstB (hdBad n ms hs) hs.length with
    | some k =>
      rw [hg] at L2
      obtain ⟨δ', e2⟩ := L2
      rw [e2]
      simp (disch := omega) [EVA, IXA, -List.any_map, -List.all_map, -List.getD_eq_getElem?_getD, -List.map_map, -List.drop_one, ← List.map_take, ← List.map_drop, ← List.map_reverse, outX]
    | none =>
      rw [hg] at L2
      obtain ⟨δ', e2, vs, x1, x2, x3, x4, x5, x6, x7, rfl, hv, hvs⟩ := L2
      rw [e2]
      simp (disch := omega) [EVA, IXA, -List.any_map, -List.all_map, -List.getD_eq_getElem?_getD, -List.map_map, -List.drop_one, ← List.map_take, ← List.map_drop, ← List.map_reverse, outX]
def CheckNotesXS (f : List D → Res D) : Prop := ∀ (n : Nat) (b : Bool) (ns : List (Int × Int)), ns.length ≤ 40000 → f [.int n, sqD b (ns.map dPair)] = outX "notes" (fstB (ntBad n ns) ns.length)
def cnx_I (bad : Nat → Bool) (n s : D) (i : Nat) (δ : List D) : Prop := (∀ j < i, bad j = false) ∧ ∃ x y z w : D, δ = [n, s, x, y, z, w]
theorem t_check_notes_x (hg : Φ.gl 0 = .int (-1)) (hx : BadPS (Φ.fn 131)) : CheckNotesXS (runF Φ fuel N_check_notes_x.length b_check_notes_x) := fun n b ns h => by
  have L1 : stopX "notes" (fstB (ntBad n ns) ns.length) (fun δ => ∃ x y z w, δ = [.int n, sqD b (ns.map dPair), x, y, z, w]) (forL (.p (.n 2) (.p (.n 4) (.n 5))) (fun δ' => evalS Φ fuel b_check_notes_x_L1 δ') ((ns.zipIdx 0).map fun q => .tup false [.int (q.2 : Nat), dPair q.1]) [.int n, sqD b (ns.map dPair), .dead, .dead, .dead, .dead]) := by
    refine forL_goR (cnx_I (ntBad n ns) (.int n) (sqD b (ns.map dPair))) _ _ ⟨fun j hj => absurd hj (by omega), _, _, _, _, rfl⟩ (fun i q δ hi hJ => ?_) (fun δ hJ => ?_)
    · obtain ⟨hb, x, y, z, w, rfl⟩ := hJ
      obtain ⟨hm, hq⟩ := zip_some hi
      obtain ⟨⟨o, u⟩, j⟩ := q
      simp only [] at hm hq
      subst hq
      have hlt := lt_of_some hm
      have hgd : ns.getD j (0, 0) = (o, u) := by rw [List.getD_eq_getElem?_getD, hm]; rfl
      have e1 := hx "notes" j (by decide +kernel)
      unfold badP at e1
      have stop : ntBad n ns j = true → fstB (ntBad n ns) ns.length = some j := fun h => fst_at h hb hlt
      refine ⟨_, rfl, ?_⟩
      simp only [b_check_notes_x_L1]
      by_cases h1 : -1 ≤ o
      rotate_left
      · rw [stop (by unfold ntBad; rw [hgd]; simp [h1])]
        simp (disch := omega) [EVA, IXA, ITA, -List.any_map, -List.all_map, -List.getD_eq_getElem?_getD, -List.map_map, -List.drop_one, ← List.map_take, ← List.map_drop, ← List.map_reverse, hg, h1, e1]
        exact ⟨_, rfl⟩
      by_cases h2 : o < (n : Int)
      rotate_left
      · rw [stop (by unfold ntBad; rw [hgd]; simp [h1, h2])]
        simp (disch := omega) [EVA, IXA, ITA, -List.any_map, -List.all_map, -List.getD_eq_getElem?_getD, -List.map_map, -List.drop_one, ← List.map_take, ← List.map_drop, ← List.map_reverse, hg, h1, h2, e1]
        exact ⟨_, rfl⟩
      by_cases h3 : -1 ≤ u
      rotate_left
      · rw [stop (by unfold ntBad; rw [hgd]; simp [h1, h2, h3])]
        simp (disch := omega) [EVA, IXA, ITA, -List.any_map, -List.all_map, -List.getD_eq_getElem?_getD, -List.map_map, -List.drop_one, ← List.map_take, ← List.map_drop, ← List.map_reverse, hg, h1, h2, h3, e1]
        exact ⟨_, rfl⟩
      by_cases h4 : u < (n : Int)
      rotate_left
      · rw [stop (by unfold ntBad; rw [hgd]; simp [h1, h2, h3, h4])]
        simp (disch := omega) [EVA, IXA, ITA, -List.any_map, -List.all_map, -List.getD_eq_getElem?_getD, -List.map_map, -List.drop_one, ← List.map_take, ← List.map_drop, ← List.map_reverse, hg, h1, h2, h3, h4, e1]
        exact ⟨_, rfl⟩
      by_cases h5 : o = u
      · rw [stop (by unfold ntBad; rw [hgd]; simp [h5])]
        subst h5
        simp (disch := omega) [EVA, IXA, ITA, -List.any_map, -List.all_map, -List.getD_eq_getElem?_getD, -List.map_map, -List.drop_one, ← List.map_take, ← List.map_drop, ← List.map_reverse, hg, h1, h2, e1]
        exact ⟨_, rfl⟩
      have hgood : ntBad n ns j = false := by unfold ntBad; rw [hgd]; simp [h1, h2, h3, h4, h5]
      simp (disch := omega) [EVA, IXA, ITA, -List.any_map, -List.all_map, -List.getD_eq_getElem?_getD, -List.map_map, -List.drop_one, ← List.map_take, ← List.map_drop, ← List.map_reverse, hg, h1, h2, h3, h4, h5]
      exact ⟨next_bad hb hgood, _, _, _, _, rfl⟩
    · obtain ⟨hb, hJ⟩ := hJ
      have hf : fstB (ntBad n ns) ns.length = none := fst_no (by simpa using hb)
      rw [hf]
      exact ⟨_, rfl, hJ⟩
  simp only [b_check_notes_x, N_check_notes_x]
  simp (disch := omega) [EVA, IXA, -List.any_map, -List.all_map, -List.getD_eq_getElem?_getD, -List.map_map, -List.drop_one, ← List.map_take, ← List.map_drop, ← List.map_reverse, enumD_map]
  cases hf : fstB (ntBad n ns) ns.length with
  | none =>
    rw [hf] at L1
    obtain ⟨δ', h1, x, y, z, w, rfl⟩ := L1
    rw [h1]
    simp (disch := omega) [EVA, IXA, -List.any_map, -List.all_map, -List.getD_eq_getElem?_getD, -List.map_map, -List.drop_one, ← List.map_take, ← List.map_drop, ← List.map_reverse, outX]
  | some k =>
    rw [hf] at L1
    obtain ⟨δ', h1⟩ := L1
    rw [h1]
    simp (disch := omega) [EVA, IXA, -List.any_map, -List.all_map, -List.getD_eq_getElem?_getD, -List.map_map, -List.drop_one, ← List.map_take, ← List.map_drop, ← List.map_reverse, outX]
end MM
set_option Elab.async false
set_option linter.all false
set_option maxRecDepth 100000
set_option maxHeartbeats 2000000
namespace MM
open PySem L2 MP TX
variable {Φ : Tab} {fuel : Nat}
@[simp] theorem fr_xfld (i : Nat) (f : Str) : (DE.xfld i f).fr = false := (rfl)
@[simp] theorem mv_xfld (i : Nat) (f : Str) : (DE.xfld i f).movs = [] := (rfl)
/-- what is invalid, first -/
def chkX (l : List Nat) (ms : List (Int × Int)) (hs : List (Int × Int × Int)) (ns : List (Int × Int)) : Option (Str × Nat) := match depBad l with
  | some k => some ("depths", k)
  | none => match fstB (mkBad l.length ms) ms.length with
    | some k => some ("marks", k)
    | none => match fstB (hdBad l.length ms hs) hs.length with
      | some k => some ("hidden", k)
      | none => match fstB (ntBad l.length ns) ns.length with
        | some k => some ("notes", k)
        | none => none
def paneC (o : Bool) (l : List Nat) (ms : List (Int × Int)) (hs : List (Int × Int × Int)) (ns : List (Int × Int)) : D :=
  .obj o 0 ["depths", "size", "marks", "hidden", "notes"] [.str (cstr l), .int l.length, .tup false (ms.map dPair), .tup false (hs.map dTri), .tup false (ns.map dPair)]
def paneR (l : List Nat) (ms : List (Int × Int)) (hs : List (Int × Int × Int)) (ns : List (Int × Int)) : Res D := match chkX l ms hs ns with
  | some q => .exc (badP q.1 q.2)
  | none => .ok (paneC true l ms hs ns)
def PaneXS (f : List D → Res D) : Prop := ∀ (l : List Nat) (ms : List (Int × Int)) (hs : List (Int × Int × Int)) (ns : List (Int × Int)) (b1 b2 b3 : Bool), l.length ≤ 1000 → (∀ c ∈ l, c < 1114112) → ms.length ≤ 40000 → hs.length ≤ 40000 → ns.length ≤ 40000 →
  f [.str (cstr l), sqD b1 (ms.map dPair), sqD b2 (hs.map dTri), sqD b3 (ns.map dPair)] = paneR l ms hs ns
theorem t_Pane_x (hcd : CheckDepthsXS (Φ.fn 26)) (hcc : CheckCrossXS (Φ.fn 27)) (hcn : CheckNotesXS (Φ.fn 28)) : PaneXS (initF Φ fuel N_Pane_x.length b_Pane_x 0) := fun l ms hs ns b1 b2 b3 hl hc h1 h2 h3 => by
  have k1 : (["depths"] : List Str).contains "size" = false := by decide +kernel
  have k2 : (["depths", "size"] : List Str).contains "marks" = false := by decide +kernel
  have k3 : (["depths", "size", "marks"] : List Str).contains "hidden" = false := by decide +kernel
  have k4 : (["depths", "size", "marks", "hidden"] : List Str).contains "notes" = false := by decide +kernel
  have e1 := hcd l hl hc
  have e2 := hcc l.length b1 b2 ms hs h1 h2
  have e3 := hcn l.length b3 ns h3
  unfold paneR chkX crossX outX at *
  unfold initF
  simp only [b_Pane_x, N_Pane_x]
  cases d1 : depBad l with
  | some k =>
    rw [d1] at e1
    simp only [] at e1
    simp (disch := omega) [EVA, IXA, -List.any_map, -List.all_map, -List.getD_eq_getElem?_getD, -List.map_map, -List.drop_one, ← List.map_take, ← List.map_drop, ← List.map_reverse, e1]
  | none =>
    rw [d1] at e1
    simp only [] at e1
    cases d2 : fstB (mkBad l.length ms) ms.length with
    | some k =>
      rw [d2] at e2
      simp only [] at e2
      simp (disch := omega) [EVA, IXA, -List.any_map, -List.all_map, -List.getD_eq_getElem?_getD, -List.map_map, -List.drop_one, ← List.map_take, ← List.map_drop, ← List.map_reverse, e1, e2]
    | none =>
      rw [d2] at e2
      simp only [] at e2
      cases d3 : fstB (hdBad l.length ms hs) hs.length with
      | some k =>
        rw [d3] at e2
        simp only [] at e2
        simp (disch := omega) [EVA, IXA, -List.any_map, -List.all_map, -List.getD_eq_getElem?_getD, -List.map_map, -List.drop_one, ← List.map_take, ← List.map_drop, ← List.map_reverse, e1, e2]
      | none =>
        rw [d3] at e2
        simp only [] at e2
        cases d4 : fstB (ntBad l.length ns) ns.length with
        | some k =>
          rw [d4] at e3
          simp only [] at e3
          simp (disch := omega) [EVA, IXA, -List.any_map, -List.all_map, -List.getD_eq_getElem?_getD, -List.map_map, -List.drop_one, ← List.map_take, ← List.map_drop, ← List.map_reverse, e1, e2, e3]
        | none =>
          rw [d4] at e3
          simp only [] at e3
          have t1 := sq_tuple b1 (shl_pairs ms) (by simp; omega)
          have t2 := sq_tuple b2 (shl_tris hs) (by simp; omega)
          have t3 := sq_tuple b3 (shl_pairs ns) (by simp; omega)
          simp (disch := omega) [EVA, IXA, -List.any_map, -List.all_map, -List.getD_eq_getElem?_getD, -List.map_map, -List.drop_one, ← List.map_take, ← List.map_drop, ← List.map_reverse, e1, e2, e3, t1, t2, t3, -List.contains_eq_mem, -List.contains_cons]
          simp (disch := omega) [EVA, IXA, -List.any_map, -List.all_map, -List.getD_eq_getElem?_getD, -List.map_map, -List.drop_one, ← List.map_take, ← List.map_drop, ← List.map_reverse, t1, t2, t3, k1, k2, k3, k4, -List.contains_eq_mem, -List.contains_cons]
          rfl
/-- what the law is told -/
def refD (o : Option (Str × Nat)) : D := match o with
  | some q => .tup false [.str q.1, .int q.2]
  | none => .tup false [.str "none", .int (-1)]
def RefusalS (f : List D → Res D) : Prop := ∀ (l : List Nat) (ms : List (Int × Int)) (hs : List (Int × Int × Int)) (ns : List (Int × Int)), l.length ≤ 1000 → (∀ c ∈ l, c < 1114112) → ms.length ≤ 40000 → hs.length ≤ 40000 → ns.length ≤ 40000 →
  f [.str (cstr l), .lst false (ms.map dPair), .lst false (hs.map dTri), .lst false (ns.map dPair)] = .ok (refD (chkX l ms hs ns))
theorem eo_three (o : Bool) (ms : List (Int × Int)) (hs : List (Int × Int × Int)) (ns : List (Int × Int)) : (D.lst o [.lst false (ms.map dPair), .lst false (hs.map dTri), .lst false (ns.map dPair)]).eqOk = true :=
  (gd_lst (n := 2) fun d hd => by
    simp only [List.mem_cons, List.not_mem_nil, or_false] at hd
    rcases hd with rfl | rfl | rfl
    · exact gd_lst (gd_map gd_pair ms)
    · exact gd_lst (gd_map gd_tri hs)
    · exact gd_lst (gd_map gd_pair ns)).ok
theorem ev_three (o p : Bool) (ms : List (Int × Int)) (hs : List (Int × Int × Int)) (ns : List (Int × Int)) : D.eqv (.lst o [.lst false (ms.map dPair), .lst false (hs.map dTri), .lst false (ns.map dPair)]) (.lst p [.lst false (ms.map dPair), .lst false (hs.map dTri), .lst false (ns.map dPair)]) = true := by
  rw [ev_lst]
  simp [eqL]
def Pane3XS (f : List D → Res D) : Prop := ∀ (l : List Nat) (ms : List (Int × Int)) (hs : List (Int × Int × Int)) (ns : List (Int × Int)), l.length ≤ 1000 → (∀ c ∈ l, c < 1114112) → ms.length ≤ 40000 → hs.length ≤ 40000 → ns.length ≤ 40000 →
  f [.str (cstr l), .lst false (ms.map dPair), .lst false (hs.map dTri), .lst false (ns.map dPair)] = paneR l ms hs ns
theorem t_law_refusal (hp : Pane3XS (Φ.fn 20)) (hi : IsIntS (Φ.fn 4)) (x1 : Φ.isx 6 6 = some true) : RefusalS (runF Φ fuel N_law_refusal.length b_law_refusal) := fun l ms hs ns hl hc h1 h2 h3 => by
  have e1 := hp l ms hs ns hl hc h1 h2 h3
  have eo := eo_three true ms hs ns
  have eo2 := eo_three false ms hs ns
  have ev := ev_three false true ms hs ns
  unfold paneR at e1
  simp only [b_law_refusal, N_law_refusal]
  cases d : chkX l ms hs ns with
  | some q =>
    rw [d] at e1
    simp only [badP] at e1
    have e2 := hi q.2
    have lk : List.lookup ("part" : Str) [("index", D.int (q.2 : Int)), ("part", D.str q.1)] = some (.str q.1) := by
      have h : (("part" : Str) == ("index" : Str)) = false := by decide +kernel
      simp [List.lookup_cons, h]
    simp (disch := omega) [EVA, IXA, -List.any_map, -List.all_map, -List.getD_eq_getElem?_getD, -List.map_map, -List.drop_one, ← List.map_take, ← List.map_drop, ← List.map_reverse, e1, e2, x1, m_ne, eo, eo2, ev, refD, lk]
  | none =>
    rw [d] at e1
    simp only [] at e1
    simp (disch := omega) [EVA, IXA, -List.any_map, -List.all_map, -List.getD_eq_getElem?_getD, -List.map_map, -List.drop_one, ← List.map_take, ← List.map_drop, ← List.map_reverse, e1, m_ne, eo, eo2, ev, refD]
end MM
set_option Elab.async false
set_option linter.all false
set_option maxRecDepth 100000
set_option maxHeartbeats 2000000
namespace MM
open PySem L2 MP TX
variable {Φ : Tab} {fuel : Nat}
/-! k02 -/
theorem join_cch (l : List Nat) : Txt.join "" (l.map cch) = cstr l := by
  show Builtin.Str.glued _ _ = _
  rw [StrLaws.glued_eq_join, e_str]
  induction l with
  | nil => rfl
  | cons a r ih =>
    cases r with
    | nil => rfl
    | cons b t =>
      have e : Str.join (dstr []) ((a :: b :: t).map cch) = cch a ++ dstr [] ++ Str.join (dstr []) ((b :: t).map cch) := rfl
      rw [e, ih]
      show (⟨((cch a).cps ++ (dstr []).cps) ++ (cstr (b :: t)).cps⟩ : Str) = cstr (a :: b :: t)
      simp [dstr, cstr, cch]
theorem sum_cch (l : List Nat) : ((l.map cch).map fun x => x.length).sum = l.length := by
  induction l with
  | nil => rfl
  | cons a r ih =>
    rw [List.map_cons, List.map_cons, List.sum_cons, ih, List.length_cons, show (cch a).length = 1 from rfl]
    omega
theorem join_c (l : List Nat) (h : l.length ≤ 1000) (o : Bool) : sem2 .join (.str "") (.lst o (l.map fun c => D.str (cch c))) = .ok (.str (cstr l)) := by
  have e : (l.map fun c => D.str (cch c)) = (l.map cch).map D.str := by rw [List.map_map]; rfl
  rw [e, m_join, sum_cch, len_e, List.length_map, guardR_dec (by omega), join_cch]
theorem ix_c {l : List Nat} {i : Int} (h : 0 ≤ i) (k : i < l.length) (hl : l.length ≤ 100000) : sem2 .ix (.str (cstr l)) (.int i) = .ok (.str (cch (l.getD i.toNat 0))) := by
  rw [m_ix_s]
  have : atI (cstr l).cps.toList i = some (l.getD i.toNat 0) := by
    simp only [cstr]
    exact atI_some 0 l h k
  rw [this, ixC_s, guardR_dec (by simpa using hl)]; rfl
theorem ix_any {x : Str} (hx : PyData.strOk x = true) {i : Int} (h : 0 ≤ i) (k : i < (x.length : Int)) (hl : x.length ≤ 100000) : ∃ c : Nat, c < 1114112 ∧ sem2 .ix (.str x) (.int i) = .ok (.str (cch c)) := by
  have hlen : x.length = x.cps.toList.length := by simp [Str.length]
  refine ⟨x.cps.toList.getD i.toNat 0, ?_, ?_⟩
  · have hm : x.cps.toList.getD i.toNat 0 ∈ x.cps.toList := getD_mem (by omega)
    unfold PyData.strOk at hx
    rw [Array.all_eq_true_iff_forall_mem] at hx
    simpa using hx _ (Array.mem_toList_iff.mp hm)
  · rw [m_ix_s, atI_some 0 _ h (by omega), ixC_s, guardR_dec hl]; rfl
def SignS (f : List D → Res D) : Prop := ∀ a b : Int, ∃ c : Nat, c < 1114112 ∧ f [.int a, .int b] = .ok (.str (cch c))
theorem t_law_sign : SignS (runF Φ fuel N_law_sign.length b_law_sign) := fun a b => by
  have l1 : (" !\"#$&'()*+,-./0123456789:;<=>?@ABCDEFGHIJKLMNOPQRSTUVWXYZ[\\]^_`" : Str).length = 64 := by decide +kernel
  have l2 : ("abcefghijklmnopqrtuvwxyz{|}~\n" : Str).length = 29 := by decide +kernel
  have o1 : PyData.strOk (" !\"#$&'()*+,-./0123456789:;<=>?@ABCDEFGHIJKLMNOPQRSTUVWXYZ[\\]^_`" ++ "abcefghijklmnopqrtuvwxyz{|}~\n" : Str) = true := by decide +kernel
  have l3 : (" !\"#$&'()*+,-./0123456789:;<=>?@ABCDEFGHIJKLMNOPQRSTUVWXYZ[\\]^_`" ++ "abcefghijklmnopqrtuvwxyz{|}~\n" : Str).length = 93 := by decide +kernel
  have o2 : PyData.strOk ("DS" : Str) = true := by decide +kernel
  have l4 : ("DS" : Str).length = 2 := by decide +kernel
  simp only [b_law_sign, N_law_sign]
  by_cases h : a = 1
  · obtain ⟨c, c1, c2⟩ := ix_any o2 (i := b % 2) (by omega) (by omega) (by omega)
    refine ⟨c, c1, ?_⟩
    simp (disch := omega) [EVA, IXA, -List.any_map, -List.all_map, -List.getD_eq_getElem?_getD, -List.map_map, -List.drop_one, ← List.map_take, ← List.map_drop, ← List.map_reverse, h, l1, l2, c2]
  · obtain ⟨c, c1, c2⟩ := ix_any o1 (i := b % 93) (by omega) (by omega) (by omega)
    refine ⟨c, c1, ?_⟩
    generalize (" !\"#$&'()*+,-./0123456789:;<=>?@ABCDEFGHIJKLMNOPQRSTUVWXYZ[\\]^_`" : Str) = x at *
    generalize ("abcefghijklmnopqrtuvwxyz{|}~\n" : Str) = y at *
    simp (disch := omega) [EVA, IXA, -List.any_map, -List.all_map, -List.getD_eq_getElem?_getD, -List.map_map, -List.drop_one, ← List.map_take, ← List.map_drop, ← List.map_reverse, h, l1, l2, l3, c2]
/-- what is due -/
def dueX (l : List Nat) (ms : List (Int × Int)) (hs : List (Int × Int × Int)) (ns : List (Int × Int)) : Option (Str × Nat) := match depBad l with
  | some k => some ("depths", k)
  | none => if ms ≠ [] then some ("marks", 0) else if hs ≠ [] then some ("hidden", 0) else if ns ≠ [] then some ("notes", 0) else none
def DueXS (f : List D → Res D) : Prop := ∀ (l : List Nat) (ms : List (Int × Int)) (hs : List (Int × Int × Int)) (ns : List (Int × Int)), l.length ≤ 1000 → (∀ c ∈ l, c < 1114112) →
  f [.str (cstr l), .lst false (ms.map dPair), .lst false (hs.map dTri), .lst false (ns.map dPair)] = .ok (refD (dueX l ms hs ns))
def dux_I (bad : Nat → Bool) (a b c d : D) (i : Nat) (δ : List D) : Prop := (∀ j < i, bad j = false) ∧ ∃ x : D, δ = [a, b, c, d, x]
def dux_R (o : Option Nat) (a b c d : D) (r : SR) : Prop := match o with
  | some k => r = .rt (.tup false [.str "depths", .int k])
  | none => ∃ x, r = .nx [a, b, c, d, x]
theorem t_law_due_v1 : DueXS (runF Φ fuel N_law_due_v1.length b_law_due_v1) := fun l ms hs ns hl hc => by
  have L1 : dux_R (depBad l) (.str (cstr l)) (.lst false (ms.map dPair)) (.lst false (hs.map dTri)) (.lst false (ns.map dPair)) (forL (.n 4) (fun δ' => evalS Φ fuel b_law_due_v1_L1 δ') ((rng 0 l.length).map D.int) [.str (cstr l), .lst false (ms.map dPair), .lst false (hs.map dTri), .lst false (ns.map dPair), .dead]) := by
    refine forL_goR (dux_I (fun i => !dsB (l.getD i 0)) _ _ _ _) _ _ ⟨fun j hj => absurd hj (by omega), _, rfl⟩ (fun i k δ hi hJ => ?_) (fun δ hJ => ?_)
    · obtain ⟨hb, x, rfl⟩ := hJ
      obtain ⟨rfl, hlt⟩ := rng_some hi
      have e0 := ix_c (l := l) (i := (i : Int)) (by omega) (by omega) (by omega)
      rw [Int.toNat_natCast] at e0
      have hcc := hc (l.getD i 0) (getD_mem hlt)
      have next : dsB (l.getD i 0) = true → ∀ k < i + 1, (fun i => !dsB (l.getD i 0)) k = false := fun hk => next_bad hb (by show (!dsB (l.getD i 0)) = false; rw [hk]; rfl)
      have stop : dsB (l.getD i 0) = false → depBad l = some i := fun hk => fst_at (bad := fun i => !dsB (l.getD i 0)) (by show (!dsB (l.getD i 0)) = true; rw [hk]; rfl) hb hlt
      generalize l.getD i 0 = c at *
      have eo := eo_cch hcc
      refine ⟨_, rfl, ?_⟩
      simp only [b_law_due_v1_L1]
      by_cases h1 : c = 100
      · subst h1
        simp (disch := omega) [EVA, IXA, ITA, -List.any_map, -List.all_map, -List.getD_eq_getElem?_getD, -List.map_map, -List.drop_one, ← List.map_take, ← List.map_drop, ← List.map_reverse, e0, m_ne, eo, cch_d, cch_s]
        exact ⟨next rfl, _, rfl⟩
      · by_cases h2 : c = 115
        · subst h2
          simp (disch := omega) [EVA, IXA, ITA, -List.any_map, -List.all_map, -List.getD_eq_getElem?_getD, -List.map_map, -List.drop_one, ← List.map_take, ← List.map_drop, ← List.map_reverse, e0, m_ne, eo, cch_d, cch_s]
          exact ⟨next rfl, _, rfl⟩
        · rw [stop (by simp [dsB, h1, h2])]
          simp (disch := omega) [EVA, IXA, ITA, -List.any_map, -List.all_map, -List.getD_eq_getElem?_getD, -List.map_map, -List.drop_one, ← List.map_take, ← List.map_drop, ← List.map_reverse, e0, m_ne, eo, cch_d, cch_s, h1, h2, dux_R]
    · obtain ⟨hb, x, rfl⟩ := hJ
      have hf : depBad l = none := fst_no (by simpa using hb)
      rw [hf]
      exact ⟨_, rfl⟩
  simp only [b_law_due_v1, N_law_due_v1]
  simp (disch := omega) [EVA, IXA, -List.any_map, -List.all_map, -List.getD_eq_getElem?_getD, -List.map_map, -List.drop_one, ← List.map_take, ← List.map_drop, ← List.map_reverse]
  unfold dueX
  cases hf : depBad l with
  | some k =>
    rw [hf] at L1
    replace L1 : _ = SR.rt _ := L1
    rw [L1]
    simp (disch := omega) [EVA, IXA, -List.any_map, -List.all_map, -List.getD_eq_getElem?_getD, -List.map_map, -List.drop_one, ← List.map_take, ← List.map_drop, ← List.map_reverse, refD]
  | none =>
    rw [hf] at L1
    obtain ⟨x, h1⟩ := L1
    rw [h1]
    by_cases h2 : ms = []
    · by_cases h3 : hs = []
      · by_cases h4 : ns = []
        · subst h2 h3 h4
          simp (disch := omega) [EVA, IXA, -List.any_map, -List.all_map, -List.getD_eq_getElem?_getD, -List.map_map, -List.drop_one, ← List.map_take, ← List.map_drop, ← List.map_reverse, refD]
        · subst h2 h3
          have h5 : ns.isEmpty = false := by cases ns <;> first | rfl | exact absurd rfl h4
          simp (disch := omega) [EVA, IXA, -List.any_map, -List.all_map, -List.getD_eq_getElem?_getD, -List.map_map, -List.drop_one, ← List.map_take, ← List.map_drop, ← List.map_reverse, refD, h4, h5]
      · subst h2
        have h5 : hs.isEmpty = false := by cases hs <;> first | rfl | exact absurd rfl h3
        simp (disch := omega) [EVA, IXA, -List.any_map, -List.all_map, -List.getD_eq_getElem?_getD, -List.map_map, -List.drop_one, ← List.map_take, ← List.map_drop, ← List.map_reverse, refD, h3, h5]
    · have h5 : ms.isEmpty = false := by cases ms <;> first | rfl | exact absurd rfl h2
      simp (disch := omega) [EVA, IXA, -List.any_map, -List.all_map, -List.getD_eq_getElem?_getD, -List.map_map, -List.drop_one, ← List.map_take, ← List.map_drop, ← List.map_reverse, refD, h2, h5]
end MM
set_option Elab.async false
set_option linter.all false
set_option maxRecDepth 100000
set_option maxHeartbeats 4000000
namespace MM
open PySem L2 MP TX
variable {Φ : Tab} {fuel : Nat}
theorem t_law_is_pane_v3 (hi : IsIntS (Φ.fn 4)) (hs : SameTupS (Φ.fn 6)) : IsPaneS (runF Φ fuel N_law_is_pane_v3.length b_law_is_pane_v3) := t_is_pane hi hs
/-- a valid pane, from the raising __init__ -/
theorem fst_z {bad : Nat → Bool} {n : Nat} (h : 0 < n) (hb : bad 0 = true) : fstB bad n = some 0 := fst_at hb (fun j hj => absurd hj (by omega)) h
theorem dep_ds (ds : List Bool) : depBad (ds.map dcp) = none := fst_no fun j hj => by
  show (!dsB ((ds.map dcp).getD j 0)) = false
  rw [List.length_map] at hj
  rw [List.getD_eq_getElem?_getD, List.getElem?_map, List.getElem?_eq_getElem hj]
  show (!dsB (dcp ds[j])) = false
  cases ds[j] <;> rfl
theorem mk_no {n : Nat} {ms : List (Int × Int)} (h : ∀ m ∈ ms, 0 ≤ m.1 ∧ m.1 < n ∧ 0 ≤ m.2 ∧ m.2 < n ∧ m.1 ≠ m.2) (hn : (ms.map crF).Nodup) : fstB (mkBad n ms) ms.length = none := fst_no fun j hj => by
  have e : ms[j]? = some (ms.getD j (0, 0)) := by rw [List.getD_eq_getElem?_getD, List.getElem?_eq_getElem hj]; rfl
  have hm := h _ (List.mem_of_getElem? e)
  have hnew : crF (ms.getD j (0, 0)) ∉ (ms.take j).map crF := by
    have := nodup_take_new (i := j) hn (a := crF (ms.getD j (0, 0))) (by rw [List.getElem?_map, e]; rfl)
    rwa [← List.map_take] at this
  unfold mkBad
  rw [decide_eq_false hnew, decide_eq_false hm.2.2.2.2, decide_eq_true hm.1, decide_eq_true hm.2.1, decide_eq_true hm.2.2.1, decide_eq_true hm.2.2.2.1]
  rfl
theorem hd_no {n : Nat} {ms : List (Int × Int)} {hs : List (Int × Int × Int)} (h : ∀ h ∈ hs, 0 ≤ h.1 ∧ h.1 < h.2.1 ∧ h.2.1 < n) (hn : (ms.map crF ++ hs.map hcF).Nodup) : fstB (hdBad n ms hs) hs.length = none := fst_no fun j hj => by
  have e : hs[j]? = some (hs.getD j (0, 0, 0)) := by rw [List.getD_eq_getElem?_getD, List.getElem?_eq_getElem hj]; rfl
  have hm := h _ (List.mem_of_getElem? e)
  have hnew : hcF (hs.getD j (0, 0, 0)) ∉ ms.map crF ++ (hs.take j).map hcF := by
    have := nodup_take_new (i := ms.length + j) hn (a := hcF (hs.getD j (0, 0, 0))) (by rw [List.getElem?_append_right (by simp), List.length_map, Nat.add_sub_cancel_left, List.getElem?_map, e]; rfl)
    rw [List.take_append, List.take_of_length_le (by simp)] at this
    simpa using this
  unfold hdBad
  rw [decide_eq_false hnew, decide_eq_true hm.1, decide_eq_true hm.2.1, decide_eq_true hm.2.2]
  rfl
theorem nt_no {n : Nat} {ns : List (Int × Int)} (h : ∀ m ∈ ns, -1 ≤ m.1 ∧ m.1 < n ∧ -1 ≤ m.2 ∧ m.2 < n ∧ m.1 ≠ m.2) : fstB (ntBad n ns) ns.length = none := fst_no fun j hj => by
  have e : ns[j]? = some (ns.getD j (0, 0)) := by rw [List.getD_eq_getElem?_getD, List.getElem?_eq_getElem hj]; rfl
  have hm := h _ (List.mem_of_getElem? e)
  unfold ntBad
  rw [decide_eq_false hm.2.2.2.2, decide_eq_true hm.1, decide_eq_true hm.2.1, decide_eq_true hm.2.2.1, decide_eq_true hm.2.2.2.1]
  rfl
theorem chk_ok {ds : List Bool} {ms : List (Int × Int)} {hs : List (Int × Int × Int)} {ns : List (Int × Int)} (h : PaneOk ds ms hs ns) : chkX (ds.map dcp) ms hs ns = none := by
  obtain ⟨⟨h1, h2, h3, h4, h5⟩, ⟨h6, h7⟩, h8⟩ := h
  unfold chkX
  rw [dep_ds]
  simp only [List.length_map]
  rw [mk_no h1 (List.nodup_append.mp h3).1]
  simp only []
  rw [hd_no h2 h3]
  simp only []
  rw [nt_no h6]
theorem dcp_lt (ds : List Bool) : ∀ c ∈ ds.map dcp, c < 1114112 := fun c hc => by
  obtain ⟨b, _, rfl⟩ := List.mem_map.mp hc
  cases b <;> decide
theorem paneS_of {f : List D → Res D} (h : PaneXS f) : PaneS f := fun ds ms hs ns b1 b2 b3 hp => by
  have e := h (ds.map dcp) ms hs ns b1 b2 b3 (by simpa using hp.2.2) (dcp_lt ds) hp.1.2.2.2.1 hp.1.2.2.2.2 hp.2.1.2
  unfold paneR at e
  rw [chk_ok hp, ← dstr_c] at e
  rw [e]
  unfold paneC paneD
  rw [← dstr_c, List.length_map]
@[simp] theorem shl_cch (l : List Nat) : D.isShL (l.map fun c => D.str (cch c)) = true := sh_map (fun _ => rfl) l
@[simp] theorem fll_cch (l : List Nat) : D.flatL (l.map fun c => D.str (cch c)) = l.map fun c => D.str (cch c) := flatL_sh _ (shl_cch l)
theorem set_cch (l : List Nat) (j c : Nat) : (l.map fun c => D.str (cch c)).set j (.str (cch c)) = (l.set j c).map fun c => D.str (cch c) := by
  rw [List.map_set]
theorem refD_eo (o : Option (Str × Nat)) (h : ∀ q, o = some q → PyData.strOk q.1 = true) : (refD o).eqOk = true := by
  cases o with
  | none => exact (gd_tup (n := 0) fun d hd => by
      simp only [List.mem_cons, List.not_mem_nil, or_false] at hd
      rcases hd with rfl | rfl
      · exact gd_str (by decide +kernel)
      · exact gd_int _).ok
  | some q => exact (gd_tup (n := 0) fun d hd => by
      simp only [List.mem_cons, List.not_mem_nil, or_false] at hd
      rcases hd with rfl | rfl
      · exact gd_str (h q rfl)
      · exact gd_int _).ok
theorem refD_ev (o : Option (Str × Nat)) : D.eqv (refD o) (refD o) = true := by
  cases o <;> (unfold refD; simp only []; rw [ev_tup]; simp [eqL])
theorem due_eo (l : List Nat) (ms : List (Int × Int)) (hs : List (Int × Int × Int)) (ns : List (Int × Int)) : (refD (dueX l ms hs ns)).eqOk = true := refD_eo _ fun q h => by
  unfold dueX at h
  cases e : depBad l with
  | some k => rw [e] at h; cases h; exact (by decide +kernel : PyData.strOk "depths" = true)
  | none =>
    rw [e] at h
    simp only [] at h
    split at h
    · cases h; decide +kernel
    · split at h
      · cases h; decide +kernel
      · split at h
        · cases h; decide +kernel
        · cases h
theorem due_eq {l : List Nat} {ms : List (Int × Int)} {hs : List (Int × Int × Int)} {ns : List (Int × Int)} (hl : l.length ≤ 14) (h1 : ms = [] ∨ ms = [(0, 0)] ∨ ms = [(50, 51)]) (h2 : hs = [] ∨ hs = [(1, 0, 7)]) (h3 : ns = [] ∨ ns = [(0, 0)]) : chkX l ms hs ns = dueX l ms hs ns := by
  unfold chkX dueX
  cases e : depBad l with
  | some k => rfl
  | none =>
    simp only []
    rcases h1 with rfl | rfl | rfl
    · rw [fst_no (n := ([] : List (Int × Int)).length) (fun j hj => absurd hj (by simp))]
      rcases h2 with rfl | rfl
      · rw [fst_no (n := ([] : List (Int × Int × Int)).length) (fun j hj => absurd hj (by simp))]
        rcases h3 with rfl | rfl
        · rw [fst_no (n := ([] : List (Int × Int)).length) (fun j hj => absurd hj (by simp))]
          rfl
        · rw [fst_z (n := [((0 : Int), (0 : Int))].length) (by simp) (by simp [ntBad])]
          simp
      · rw [fst_z (n := [((1 : Int), (0 : Int), (7 : Int))].length) (by simp) (by simp [hdBad])]
        simp
    · rw [fst_z (n := [((0 : Int), (0 : Int))].length) (by simp) (by simp [mkBad])]
      simp
    · rw [fst_z (n := [((50 : Int), (51 : Int))].length) (by simp) (by unfold mkBad; simp; omega)]
      simp
end MM
set_option Elab.async false
set_option linter.all false
set_option maxRecDepth 100000
set_option maxHeartbeats 4000000
namespace MM
open PySem L2 MP TX
variable {Φ : Tab} {fuel : Nat}
theorem ds_lit : ("ds" : Str) = cstr [100, 115] := by decide +kernel
def k02_I (a0 a1 a3 : D) (m : Nat) (i : Nat) (δ : List D) : Prop := ∃ (L : List Nat) (w : D), δ = [a0, a1, .lst true (L.map fun c => .str (cch c)), a3, w, .dead, .dead, .dead, .dead, .dead, .dead, .dead] ∧ L.length = m ∧ ∀ c ∈ L, c < 1114112
theorem k02_L1 (hsg : SignS (Φ.fn 132)) {m t : Nat} (ht : t ≤ m) (ht3 : t ≤ 3) (hm : m ≤ 14) {L0 : List Nat} (h0 : L0.length = m) (h0c : ∀ c ∈ L0, c < 1114112) {r : List Int} (hr : r.length = 9) (a0 : D) (x p q s : Int) :
    ∃ δ', forL (.n 4) (fun δ' => evalS Φ fuel b_law_v17_L1 δ') ((rng 0 t).map D.int) [a0, .lst false [.int x, .int m, .int p, .int q, .int s], .lst true (L0.map fun c => .str (cch c)), .lst false (r.map D.int), .dead, .dead, .dead, .dead, .dead, .dead, .dead, .dead] = .nx δ' ∧ k02_I a0 (.lst false [.int x, .int m, .int p, .int q, .int s]) (.lst false (r.map D.int)) m (rng 0 t).length δ' := by
  refine forL_go (k02_I a0 _ _ m) _ _ ⟨L0, .dead, rfl, h0, h0c⟩ (fun i k δ hi hJ => ?_)
  obtain ⟨L, w, rfl, hL, hc⟩ := hJ
  obtain ⟨rfl, hlt⟩ := rng_some hi
  have e1 := ix_int (o := false) (l := r) (i := 3 * (i : Int)) (by omega) (by omega)
  have e2 := ix_int (o := false) (l := r) (i := 3 * (i : Int) + 1) (by omega) (by omega)
  have e3 := ix_int (o := false) (l := r) (i := 3 * (i : Int) + 2) (by omega) (by omega)
  obtain ⟨c, c1, c2⟩ := hsg (r.getD (3 * (i : Int) + 1).toNat 0) (r.getD (3 * (i : Int) + 2).toNat 0)
  obtain ⟨j, j0, j1, hmod⟩ : ∃ j : Nat, j < m ∧ (0 ≤ (j : Int)) ∧ sem2 .mod (.int (r.getD (3 * (i : Int)).toNat 0)) (.int (m : Int)) = .ok (.int (j : Int)) := by
    have hp : (0 : Int) < m := by omega
    refine ⟨((r.getD (3 * (i : Int)).toNat 0) % (m : Int)).toNat, ?_, by omega, ?_⟩
    · have := Int.emod_nonneg (r.getD (3 * (i : Int)).toNat 0) (b := (m : Int)) (by omega)
      have := Int.emod_lt_of_pos (r.getD (3 * (i : Int)).toNat 0) hp
      omega
    · have := Int.emod_nonneg (r.getD (3 * (i : Int)).toNat 0) (b := (m : Int)) (by omega)
      rw [Int.toNat_of_nonneg this]
      have hp0 : 0 < m := by omega
      simp (disch := omega) [hp0]
  generalize r.getD (3 * (i : Int)).toNat 0 = v1 at *
  generalize r.getD (3 * (i : Int) + 1).toNat 0 = v2 at *
  generalize r.getD (3 * (i : Int) + 2).toNat 0 = v3 at *
  have hx := ixN_some (n := L.length) (i := (j : Int)) j1 (by omega)
  rw [Int.toNat_natCast] at hx
  refine ⟨_, rfl, ?_⟩
  simp only [b_law_v17_L1]
  simp (disch := omega) [EVA, IXA, ITA, -List.any_map, -List.all_map, -List.getD_eq_getElem?_getD, -List.map_map, -List.drop_one, ← List.map_take, ← List.map_drop, ← List.map_reverse, e1, e2, e3, c2, hmod, hx, -m_mod, -List.map_set]
  refine ⟨L.set j c, _, by rw [← set_cch], by simpa using hL, fun d hd => ?_⟩
  rcases List.mem_or_eq_of_mem_set hd with h | h
  · exact hc d h
  · rw [h]; exact c1
theorem t_law_v17 (hrow : RowS (Φ.fn 2)) (hcell : CellS (Φ.fn 7)) (hsg : SignS (Φ.fn 132)) (hp0 : Pane0S (Φ.fn 21)) (hr : RefusalS (Φ.fn 133)) (hd : DueXS (Φ.fn 134)) (hip : IsPaneS (Φ.fn 25)) : LawS (runF Φ fuel N_law_v17.length b_law_v17) := fun ns hns => by
  obtain ⟨c0, hc0⟩ := hcell.ex ns (k := 0)
  obtain ⟨c1, hc1⟩ := hcell.ex ns (k := 1)
  obtain ⟨c2, hc2⟩ := hcell.ex ns (k := 2)
  obtain ⟨x, m, p, q, s, g0, X, M, P, Q, S⟩ := row5 hrow c0 (a := 4) (b := 15) (c := 3) (d := 2) (e := 2) (by omega) (by omega) (by omega) (by omega) (by omega)
  obtain ⟨m, rfl⟩ := Int.eq_ofNat_of_zero_le M.1
  obtain ⟨rb, g1, rb1, rb2⟩ := row_rep hrow c1 m 2 (by omega) (by omega)
  obtain ⟨r9, g2, h9⟩ := hrow c2 [15, 3, 93, 15, 3, 93, 15, 3, 93] ⟨fun s hs => by simp at hs; omega, by simp⟩
  have hr9 : r9.length = 9 := h9.1
  simp only [List.map_cons, List.map_nil] at g2
  obtain ⟨v, v0, v1, ev⟩ : ∃ v : Int, 0 ≤ v ∧ v ≤ 3 ∧ sem2 .ix (.lst true [.int 1, .int 2, .int 3, .int 0]) (.int x) = .ok (.int v) := by
    rcases (by omega : x = 0 ∨ x = 1 ∨ x = 2 ∨ x = 3) with rfl | rfl | rfl | rfl
    · exact ⟨1, by omega, by omega, rfl⟩
    · exact ⟨2, by omega, by omega, rfl⟩
    · exact ⟨3, by omega, by omega, rfl⟩
    · exact ⟨0, by omega, by omega, rfl⟩
  obtain ⟨t, t0, t1, et⟩ : ∃ t : Nat, t ≤ m ∧ t ≤ 3 ∧ sem2 .min (.int v) (.int (m : Int)) = .ok (.int (t : Int)) := by
    by_cases h : (m : Int) < v
    · exact ⟨m, by omega, by omega, by simp [h]⟩
    · exact ⟨v.toNat, by omega, by omega, by simp [h]; omega⟩
  obtain ⟨ms, hms, ems⟩ : ∃ ms : List (Int × Int), (ms = [] ∨ ms = [(0, 0)] ∨ ms = [(50, 51)]) ∧ sem2 .ix (.lst true [.lst false [], .lst false [.tup false [.int 0, .int 0]], .lst false [.tup false [.int 50, .int 51]]]) (.int p) = .ok (.lst false (ms.map dPair)) := by
    rcases (by omega : p = 0 ∨ p = 1 ∨ p = 2) with rfl | rfl | rfl
    · exact ⟨[], by simp, rfl⟩
    · exact ⟨[(0, 0)], by simp, rfl⟩
    · exact ⟨[(50, 51)], by simp, rfl⟩
  obtain ⟨hs, hhs, ehs⟩ : ∃ hs : List (Int × Int × Int), (hs = [] ∨ hs = [(1, 0, 7)]) ∧ sem2 .ix (.lst true [.lst false [], .lst false [.tup false [.int 1, .int 0, .int 7]]]) (.int q) = .ok (.lst false (hs.map dTri)) := by
    rcases (by omega : q = 0 ∨ q = 1) with rfl | rfl
    · exact ⟨[], by simp, rfl⟩
    · exact ⟨[(1, 0, 7)], by simp, rfl⟩
  obtain ⟨nt, hnt, ent⟩ : ∃ nt : List (Int × Int), (nt = [] ∨ nt = [(0, 0)]) ∧ sem2 .ix (.lst true [.lst false [], .lst false [.tup false [.int 0, .int 0]]]) (.int s) = .ok (.lst false (nt.map dPair)) := by
    rcases (by omega : s = 0 ∨ s = 1) with rfl | rfl
    · exact ⟨[], by simp, rfl⟩
    · exact ⟨[(0, 0)], by simp, rfl⟩
  have lms : ms.length ≤ 1 := by rcases hms with rfl | rfl | rfl <;> simp
  have lhs : hs.length ≤ 1 := by rcases hhs with rfl | rfl <;> simp
  have lnt : nt.length ≤ 1 := by rcases hnt with rfl | rfl <;> simp
  obtain ⟨L0, hL0⟩ : ∃ L0 : List Nat, L0 = rb.map fun b => if b = 0 then 100 else 115 := ⟨_, rfl⟩
  have l0 : L0.length = m := by rw [hL0]; simpa using rb1
  have l0c : ∀ c ∈ L0, c < 1114112 := fun c hc => by
    rw [hL0] at hc
    obtain ⟨b, _, rfl⟩ := List.mem_map.mp hc
    split <;> omega
  obtain ⟨δ', f1, L, w, rfl, hL, hLc⟩ := k02_L1 (Φ := Φ) (fuel := fuel) hsg t0 t1 (by omega) l0 l0c hr9 (.scr ns) x p q s
  obtain ⟨ds, hds⟩ : ∃ ds : List Bool, ds = L.map fun c => !decide (c = 115) := ⟨_, rfl⟩
  have ld : ds.length = m := by rw [hds]; simpa using hL
  have x0 : sem2 .ix (.str (cstr [100, 115])) (.int 0) = .ok (.str (cch 100)) := ix_c (by omega) (by simp) (by simp)
  have x1 : sem2 .ix (.str (cstr [100, 115])) (.int 1) = .ok (.str (cch 115)) := ix_c (by omega) (by simp) (by simp)
  -- what is told
  have r1 := hr L ms hs nt (by omega) hLc (by omega) (by omega) (by omega)
  have d1 := hd L ms hs nt (by omega) hLc
  rw [due_eq (by omega) hms hhs hnt] at r1
  have r2 := hr L [] [] [] (by omega) hLc (by simp) (by simp) (by simp)
  have d2 := hd L [] [] [] (by omega) hLc
  rw [due_eq (by omega) (.inl rfl) (.inl rfl) (.inl rfl)] at r2
  have r3 := hr (ds.map dcp) ms hs nt (by simp; omega) (dcp_lt ds) (by omega) (by omega) (by omega)
  have d3 := hd (ds.map dcp) ms hs nt (by simp; omega) (dcp_lt ds)
  rw [due_eq (by simp; omega) hms hhs hnt, ← dstr_c] at r3
  rw [← dstr_c] at d3
  have o1 := due_eo L ms hs nt
  have o2 := due_eo L [] [] []
  have o3 := due_eo (ds.map dcp) ms hs nt
  have v1 := refD_ev (dueX L ms hs nt)
  have v2 := refD_ev (dueX L [] [] [])
  have v3 := refD_ev (dueX (ds.map dcp) ms hs nt)
  have i0 := hp0 ds (by omega)
  have i1 := hip ds [] [] [] (pane0 (by omega))
  simp only [List.map_nil] at r2 d2 i1
  generalize refD (dueX L ms hs nt) = R1 at *
  generalize refD (dueX L [] [] []) = R2 at *
  generalize refD (dueX (ds.map dcp) ms hs nt) = R3 at *
  simp only [b_law_v17, N_law_v17]
  simp (disch := omega) [EVA, IXA, -List.any_map, -List.all_map, -List.getD_eq_getElem?_getD, -List.map_map, -List.drop_one, ← List.map_take, ← List.map_drop, ← List.map_reverse, hc0, hc1, hc2, g0, g1, g2]
  rw [comp1a (g := fun b => D.str (cch (if b = 0 then 100 else 115))) (by omega) (by simp) (fun b hb => by
    have := rb2 b hb
    rcases (by omega : b = 0 ∨ b = 1) with rfl | rfl
    · simp (disch := omega) [EVA, IXA, -List.any_map, -List.all_map, -List.getD_eq_getElem?_getD, -List.map_map, -List.drop_one, ← List.map_take, ← List.map_drop, ← List.map_reverse, ds_lit, x0]
    · simp (disch := omega) [EVA, IXA, -List.any_map, -List.all_map, -List.getD_eq_getElem?_getD, -List.map_map, -List.drop_one, ← List.map_take, ← List.map_drop, ← List.map_reverse, ds_lit, x1])]
  rw [show (rb.map fun b => D.str (cch (if b = 0 then 100 else 115))) = L0.map fun c => D.str (cch c) by rw [hL0, List.map_map]; rfl, fll_cch]
  simp (disch := omega) [EVA, IXA, -List.any_map, -List.all_map, -List.getD_eq_getElem?_getD, -List.map_map, -List.drop_one, ← List.map_take, ← List.map_drop, ← List.map_reverse, hc2, g2, ev, et]
  rw [f1]
  simp (disch := omega) [EVA, IXA, -List.any_map, -List.all_map, -List.getD_eq_getElem?_getD, -List.map_map, -List.drop_one, ← List.map_take, ← List.map_drop, ← List.map_reverse, join_c, ems, ehs, ent, r1, d1, r2, d2, m_ne, m_eq, o1, o2, v1, v2]
  rw [comp1a (g := fun c => D.str (dch (!decide (c = 115)))) (by omega) (by simp) (fun c hc => by
    have eo := eo_cch (hLc c hc)
    by_cases h : c = 115
    · subst h
      simp (disch := omega) [EVA, IXA, -List.any_map, -List.all_map, -List.getD_eq_getElem?_getD, -List.map_map, -List.drop_one, ← List.map_take, ← List.map_drop, ← List.map_reverse, m_eq, eo, cch_s]
      exact s_lit
    · simp (disch := omega) [EVA, IXA, -List.any_map, -List.all_map, -List.getD_eq_getElem?_getD, -List.map_map, -List.drop_one, ← List.map_take, ← List.map_drop, ← List.map_reverse, m_eq, eo, cch_s, h]
      exact d_lit)]
  rw [show (L.map fun c => D.str (dch (!decide (c = 115)))) = ds.map fun b => D.str (dch b) by rw [hds, List.map_map]; rfl, fll_dch]
  simp (disch := omega) [EVA, IXA, -List.any_map, -List.all_map, -List.getD_eq_getElem?_getD, -List.map_map, -List.drop_one, ← List.map_take, ← List.map_drop, ← List.map_reverse, join_dstr, r3, d3, m_ne, m_eq, o1, o3, v1, v3, i0, i1, r1, d1]
end MM
set_option Elab.async false
set_option linter.all false
set_option maxRecDepth 100000
set_option maxHeartbeats 4000000
set_option maxHeartbeats 0
namespace KX
open PySem PyProof.Rows
open MP MM TX
open L2 hiding St
def nm : Nm := [(0, "Pane"), (6, "BadPane"), (5, "PaneError")]
def exmL : List (Nat × Nat) := [(6, 5)]
def xfsL : List (Nat × Str) := [(6, "index"), (6, "part")]
def flds : List Str := ["depths", "size", "marks", "hidden", "notes"]
def xcsL : List Nat := [6]
abbrev GA (K : PySem.W.Frag) : GE := { G := gxOf K nm [0], Φ := PhD, gv := glV, flds := flds, exm := exmL, xfs := xfsL, xcs := xcsL }
def fnL : List He.DefD := [⟨("crossing_of", none), "crossing_of", "crossing_of", defArgs (topS 5), defBody (topS 5), defScope (topS 5), [], []⟩,
  ⟨("check_depths", none), "check_depths", "check_depths", defArgs (topS 6), defBody (topS 6), defScope (topS 6), [], []⟩,
  ⟨("check_crossings", none), "check_crossings", "check_crossings", defArgs (topS 7), defBody (topS 7), defScope (topS 7), [], []⟩,
  ⟨("check_notes", none), "check_notes", "check_notes", defArgs (topS 8), defBody (topS 8), defScope (topS 8), [], []⟩,
  ⟨("_law_cell", none), "_law_cell", "_law_cell", defArgs (topS 11), defBody (topS 11), defScope (topS 11), [], []⟩,
  ⟨("_law_row", none), "_law_row", "_law_row", defArgs (topS 12), defBody (topS 12), defScope (topS 12), [], []⟩,
  ⟨("_law_is_integer", none), "_law_is_integer", "_law_is_integer", defArgs (topS 13), defBody (topS 13), defScope (topS 13), [], []⟩,
  ⟨("_law_same_tuples", none), "_law_same_tuples", "_law_same_tuples", defArgs (topS 14), defBody (topS 14), defScope (topS 14), [], []⟩,
  ⟨("_law_is_pane", none), "_law_is_pane", "_law_is_pane", defArgs (topS 15), defBody (topS 15), defScope (topS 15), [], []⟩,
  ⟨("_law_refusal", none), "_law_refusal", "_law_refusal", defArgs (topS 16), defBody (topS 16), defScope (topS 16), [], []⟩,
  ⟨("_law_sign", none), "_law_sign", "_law_sign", defArgs (topS 17), defBody (topS 17), defScope (topS 17), [], []⟩,
  ⟨("_law_due", none), "_law_due", "_law_due", defArgs (topS 18), defBody (topS 18), defScope (topS 18), [], []⟩,
  ⟨("law", none), "law", "law", defArgs (topS 19), defBody (topS 19), defScope (topS 19), [], []⟩,
  ⟨("Pane", some "__init__"), "__init__", "Pane.__init__", defArgs m_Pane_x, defBody m_Pane_x, defScope m_Pane_x, [], [("marks", .adr (kwAt ("Pane", some "__init__") "marks")), ("hidden", .adr (kwAt ("Pane", some "__init__") "hidden")), ("notes", .adr (kwAt ("Pane", some "__init__") "notes"))]⟩]
def faB : List He.Fa := bltNames.map .free
def faN : List He.Fa := flds.flatMap fun f => ([0] : List Nat).map fun c => .noat (nmOf nm c) f
def faL : List He.Fa := [.glo "crossing_of", .glo "check_depths", .glo "check_crossings", .glo "check_notes", .glo "_law_cell", .glo "_law_row", .glo "_law_is_integer", .glo "_law_same_tuples", .glo "_law_is_pane", .glo "_law_refusal", .glo "_law_sign", .glo "_law_due", .glo "law", .int "POLISH" (-1), .glo "BadPane", .glo "PaneError", .exm "BadPane" "PaneError" true, .noat "BadPane" "part", .noat "BadPane" "index", .free "super", .glo "Pane", .cls "Pane", .mkr "Pane", .free "len"]
def faA : List He.Fa := faL ++ (faB ++ faN)
abbrev PR : Program := (PySem.Challenge.rw_panescratches_k02_bad_depths).prog
def fileR : Str := PR.main.file
def xd_x_BadPane : XDef := ⟨"BadPane", "BadPane.__init__", defArgs m_x_BadPane, defBody m_x_BadPane, defScope m_x_BadPane⟩
def xdL : List XDef := [xd_x_BadPane]
def exB (K : PySem.W.Frag) : Bool := kindsB nm [0] K && (emptyB (kwAt ("Pane", some "__init__") "marks" K) K && emptyB (kwAt ("Pane", some "__init__") "hidden" K) K && emptyB (kwAt ("Pane", some "__init__") "notes" K) K && xfB K (He.ga K "BadPane") && supB fileR K "BadPane" && isxB nm isxL K && xcsB nm xcsL K)
def Says (w : World) (h : Heap) (K : PySem.W.Frag) : Prop := SaysZ faA fnL exB xdL w h K
section
variable {w : World} {h : Heap} {K : PySem.W.Frag} {mg : Str → Option Value}
theorem fc (c : Says w h K) (i : Nat) {f : He.Fa} (e : faL[i]? = some f := by rfl) : f.ok K = true := c.t.d.facts (List.mem_append_left _ (List.mem_of_getElem? e))
theorem wf_crossing_of (K : PySem.W.Frag) : wfS (GA K) b_crossing_of = true := by kernel_rfl
theorem ent_0 (X : K.In h) (G : h.Ns mainGlobals mg) (c : Says w h K) : EntOk (GA K) sg gl cl xg hs K mg "crossing_of" ⟨2, [], 0⟩ (.fn N_crossing_of.length b_crossing_of) := by
  obtain ⟨fd, F⟩ := c.t.d.def_ 0 rfl
  exact .fn (ps := ["first", "second"]) (fun_of (st := topS 5) F) (He.glo_ok X G (fc c 0)) (FunD.bindsN F fun _ _ _ _ _ _ us hl => match us, hl with | [_, _], _ => rfl) ⟨rfl, rfl, rfl, by decide +kernel, rfl, by decide +kernel, by decide +kernel⟩ (wf_crossing_of K) c_crossing_of
theorem wf_law_is_integer (K : PySem.W.Frag) : wfS (GA K) b_law_is_integer = true := by kernel_rfl
theorem ent_4 (X : K.In h) (G : h.Ns mainGlobals mg) (c : Says w h K) : EntOk (GA K) sg gl cl xg hs K mg "_law_is_integer" ⟨1, [], 4⟩ (.fn N_law_is_integer.length b_law_is_integer) := by
  obtain ⟨fd, F⟩ := c.t.d.def_ 6 rfl
  exact .fn (ps := ["_law_value"]) (fun_of (st := topS 13) F) (He.glo_ok X G (fc c 6)) (FunD.bindsN F fun _ _ _ _ _ _ us hl => match us, hl with | [_], _ => rfl) ⟨rfl, rfl, rfl, by decide +kernel, rfl, by decide +kernel, by decide +kernel⟩ (wf_law_is_integer K) c_law_is_integer
theorem wf_law_same_tuples_v1 (K : PySem.W.Frag) : wfS (GA K) b_law_same_tuples_v1 = true := by kernel_rfl
theorem ent_6 (X : K.In h) (G : h.Ns mainGlobals mg) (c : Says w h K) : EntOk (GA K) sg gl cl xg hs K mg "_law_same_tuples" ⟨2, [], 6⟩ (.fn N_law_same_tuples_v1.length b_law_same_tuples_v1) := by
  obtain ⟨fd, F⟩ := c.t.d.def_ 7 rfl
  exact .fn (ps := ["_law_told", "_law_due_here"]) (fun_of (st := topS 14) F) (He.glo_ok X G (fc c 7)) (FunD.bindsN F fun _ _ _ _ _ _ us hl => match us, hl with | [_, _], _ => rfl) ⟨rfl, rfl, rfl, by decide +kernel, rfl, by decide +kernel, by decide +kernel⟩ (wf_law_same_tuples_v1 K) c_law_same_tuples_v1
theorem wf_Pane_x (K : PySem.W.Frag) : wfS (GA K) b_Pane_x = true := by kernel_rfl
def g_20 {α : Type} : List α → List α → List α → List α := fun vs mz zs => match mz, zs with | [], [z0, z1, z2] => vs ++ [z0, z1, z2] | _, _ => vs
theorem rel_20 {vs mz zs : List V} {us mv ws : List Value} (a : Vals vs us) (b : Vals mz mv) (c : Vals zs ws) : Vals (g_20 vs mz zs) (g_20 us mv ws) := by
  rcases b with _ | ⟨b0, b⟩ <;> rcases c with _ | ⟨c0, _ | ⟨c1, _ | ⟨c2, _ | ⟨c3, c⟩⟩⟩⟩ <;> first | exact a | exact a.append (.cons c0 (.cons c1 (.cons c2 (.nil))))
theorem ent_20 (X : K.In h) (G : h.Ns mainGlobals mg) (c : Says w h K) : EntOk (GA K) sg gl cl xg hs K mg "Pane" ⟨1, ["marks", "hidden", "notes"], 20⟩ (.cls 0 N_Pane_x.length b_Pane_x (fun as => match as with | [p0, k_marks, k_hidden, k_notes] => [p0, k_marks, k_hidden, k_notes] | _ => [])) := by
  obtain ⟨fd, F⟩ := c.t.d.def_ 13 rfl
  obtain ⟨mv, kb⟩ := F.kbinds0 (ps := ["self", "depths", "marks", "hidden", "notes"]) 2 ["marks", "hidden", "notes"] [] g_20 (fun h => by cases h) (fun q hq => nomatch hq) rel_20 (fun _ _ _ _ _ _ us mv ws l1 l2 l3 => match us, mv, ws, l1, l2, l3 with | [_, _], [], [_, _, _], _, _, _ => (by show _ = pure _; kernel_rfl))
  refine .cls (ps := ["self", "depths", "marks", "hidden", "notes"]) F ⟨rfl, rfl, rfl, by decide +kernel, rfl, by decide +kernel, by decide +kernel⟩ (wf_Pane_x K) (by decide +kernel) c_Pane_x (show 0 ∈ ([0] : List Nat) by decide) (He.mkr_ok (fc c 22)) (He.glo_ok X G (fc c 20)) kb ⟨fun F H x vs zs ds rs l1 l2 => ?_, fun ds hd => ?_⟩ (fun a vs zs l1 l2 => ?_)
  · have l3 := rs.len
    have l1 : vs.length = 1 := l1
    have l2 : zs.length = 3 := l2
    rw [List.length_append, l1, l2] at l3
    obtain ⟨v0, rfl⟩ := len_1 l1
    obtain ⟨z0, z1, z2, rfl⟩ := len_3 l2
    obtain ⟨d0, d1, d2, d3, rfl⟩ := len_4 l3.symm
    have r : Reps (gxOf K nm [0]) F H [d0, d1, d2, d3] [v0, z0, z1, z2] [] := rs
    obtain ⟨r0, r⟩ := r.uncons
    obtain ⟨r1, r⟩ := r.uncons
    obtain ⟨r2, r⟩ := r.uncons
    obtain ⟨r3, r⟩ := r.uncons
    exact ⟨[v0, z0, z1, z2], rfl, Reps.cons (S := []) (T := []) (r0) (Reps.cons (S := []) (T := []) (r1) (Reps.cons (S := []) (T := []) (r2) (Reps.cons (S := []) (T := []) (r3) (Reps.nil))))⟩
  · rcases ds with _ | ⟨y0, _ | ⟨y1, _ | ⟨y2, _ | ⟨y3, _ | ⟨y4, y⟩⟩⟩⟩⟩ <;> first | rfl | simpa [D.isShL, D.isSh] using hd
  · match vs, zs, l1, l2 with
    | [v0], [z0, z1, z2], _, _ => rfl
theorem wf_law_row (K : PySem.W.Frag) : wfS (GA K) b_law_row = true := by kernel_rfl
theorem ent_2 (X : K.In h) (G : h.Ns mainGlobals mg) (c : Says w h K) : EntOk (GA K) sg gl cl xg hs K mg "_law_row" ⟨2, [], 2⟩ (.fn N_law_row.length b_law_row) := by
  obtain ⟨fd, F⟩ := c.t.d.def_ 5 rfl
  exact .fn (ps := ["_law_cell_here", "_law_sizes"]) (fun_of (st := topS 12) F) (He.glo_ok X G (fc c 5)) (FunD.bindsN F fun _ _ _ _ _ _ us hl => match us, hl with | [_, _], _ => rfl) ⟨rfl, rfl, rfl, by decide +kernel, rfl, by decide +kernel, by decide +kernel⟩ (wf_law_row K) c_law_row
theorem wf_law_cell (K : PySem.W.Frag) : wfS (GA K) b_law_cell = true := by kernel_rfl
theorem ent_7 (X : K.In h) (G : h.Ns mainGlobals mg) (c : Says w h K) : EntOk (GA K) sg gl cl xg hs K mg "_law_cell" ⟨2, [], 7⟩ (.fn N_law_cell.length b_law_cell) := by
  obtain ⟨fd, F⟩ := c.t.d.def_ 4 rfl
  exact .fn (ps := ["_law_script", "_law_k"]) (fun_of (st := topS 11) F) (He.glo_ok X G (fc c 4)) (FunD.bindsN F fun _ _ _ _ _ _ us hl => match us, hl with | [_, _], _ => rfl) ⟨rfl, rfl, rfl, by decide +kernel, rfl, by decide +kernel, by decide +kernel⟩ (wf_law_cell K) c_law_cell
theorem wf_law_sign (K : PySem.W.Frag) : wfS (GA K) b_law_sign = true := by kernel_rfl
theorem ent_132 (X : K.In h) (G : h.Ns mainGlobals mg) (c : Says w h K) : EntOk (GA K) sg gl cl xg hs K mg "_law_sign" ⟨2, [], 132⟩ (.fn N_law_sign.length b_law_sign) := by
  obtain ⟨fd, F⟩ := c.t.d.def_ 10 rfl
  exact .fn (ps := ["_law_kind", "_law_number"]) (fun_of (st := topS 17) F) (He.glo_ok X G (fc c 10)) (FunD.bindsN F fun _ _ _ _ _ _ us hl => match us, hl with | [_, _], _ => rfl) ⟨rfl, rfl, rfl, by decide +kernel, rfl, by decide +kernel, by decide +kernel⟩ (wf_law_sign K) c_law_sign
theorem wf_law_refusal (K : PySem.W.Frag) : wfS (GA K) b_law_refusal = true := by kernel_rfl
theorem ent_133 (X : K.In h) (G : h.Ns mainGlobals mg) (c : Says w h K) : EntOk (GA K) sg gl cl xg hs K mg "_law_refusal" ⟨4, [], 133⟩ (.fn N_law_refusal.length b_law_refusal) := by
  obtain ⟨fd, F⟩ := c.t.d.def_ 9 rfl
  exact .fn (ps := ["_law_depths", "_law_seen", "_law_unseen", "_law_known"]) (fun_of (st := topS 16) F) (He.glo_ok X G (fc c 9)) (FunD.bindsN F fun _ _ _ _ _ _ us hl => match us, hl with | [_, _, _, _], _ => rfl) ⟨rfl, rfl, rfl, by decide +kernel, rfl, by decide +kernel, by decide +kernel⟩ (wf_law_refusal K) c_law_refusal
theorem wf_law_due_v1 (K : PySem.W.Frag) : wfS (GA K) b_law_due_v1 = true := by kernel_rfl
theorem ent_134 (X : K.In h) (G : h.Ns mainGlobals mg) (c : Says w h K) : EntOk (GA K) sg gl cl xg hs K mg "_law_due" ⟨4, [], 134⟩ (.fn N_law_due_v1.length b_law_due_v1) := by
  obtain ⟨fd, F⟩ := c.t.d.def_ 11 rfl
  exact .fn (ps := ["_law_depths", "_law_seen", "_law_unseen", "_law_known"]) (fun_of (st := topS 18) F) (He.glo_ok X G (fc c 11)) (FunD.bindsN F fun _ _ _ _ _ _ us hl => match us, hl with | [_, _, _, _], _ => rfl) ⟨rfl, rfl, rfl, by decide +kernel, rfl, by decide +kernel, by decide +kernel⟩ (wf_law_due_v1 K) c_law_due_v1
theorem wf_law_is_pane_v3 (K : PySem.W.Frag) : wfS (GA K) b_law_is_pane_v3 = true := by kernel_rfl
theorem ent_25 (X : K.In h) (G : h.Ns mainGlobals mg) (c : Says w h K) : EntOk (GA K) sg gl cl xg hs K mg "_law_is_pane" ⟨5, [], 25⟩ (.fn N_law_is_pane_v3.length b_law_is_pane_v3) := by
  obtain ⟨fd, F⟩ := c.t.d.def_ 8 rfl
  exact .fn (ps := ["_law_told", "_law_depths", "_law_seen", "_law_unseen", "_law_known"]) (fun_of (st := topS 15) F) (He.glo_ok X G (fc c 8)) (FunD.bindsN F fun _ _ _ _ _ _ us hl => match us, hl with | [_, _, _, _, _], _ => rfl) ⟨rfl, rfl, rfl, by decide +kernel, rfl, by decide +kernel, by decide +kernel⟩ (wf_law_is_pane_v3 K) c_law_is_pane_v3
def g_21 {α : Type} : List α → List α → List α → List α := fun vs mz zs => match mz, zs with | [m0, m1, m2], [] => vs ++ [m0, m1, m2] | _, _ => vs
theorem rel_21 {vs mz zs : List V} {us mv ws : List Value} (a : Vals vs us) (b : Vals mz mv) (c : Vals zs ws) : Vals (g_21 vs mz zs) (g_21 us mv ws) := by
  rcases b with _ | ⟨b0, _ | ⟨b1, _ | ⟨b2, _ | ⟨b3, b⟩⟩⟩⟩ <;> rcases c with _ | ⟨c0, c⟩ <;> first | exact a | exact a.append (.cons b0 (.cons b1 (.cons b2 (.nil))))
theorem ent_21 (X : K.In h) (G : h.Ns mainGlobals mg) (c : Says w h K) : EntOk (GA K) sg gl cl xg hs K mg "Pane" ⟨1, [], 21⟩ (.cls 0 N_Pane_x.length b_Pane_x (fun as => match as with | [p0] => [p0, .tup false [], .tup false [], .tup false []] | _ => [])) := by
  obtain ⟨fd, F⟩ := c.t.d.def_ 13 rfl
  obtain ⟨mv, kb⟩ := F.kbinds0 (ps := ["self", "depths", "marks", "hidden", "notes"]) 2 [] [(("marks" : Str), (V.ref (kwAt ("Pane", some "__init__") "marks" K))), (("hidden" : Str), (V.ref (kwAt ("Pane", some "__init__") "hidden" K))), (("notes" : Str), (V.ref (kwAt ("Pane", some "__init__") "notes" K)))] g_21 (fun h => by cases h) (by intro q hq; simp only [List.mem_cons, List.not_mem_nil, or_false] at hq; rcases hq with rfl | rfl | rfl <;> simp [He.DefD.kws, He.Dv.v]) rel_21 (fun _ _ _ _ _ _ us mv ws l1 l2 l3 => match us, mv, ws, l1, l2, l3 with | [_, _], [_, _, _], [], _, _, _ => ⟨_, _, _, _, _, _, rfl, rfl, ⟨_, _, _, _, _, _, rfl, rfl, ⟨_, _, _, _, _, _, rfl, rfl, rfl⟩⟩⟩)
  refine .cls (ps := ["self", "depths", "marks", "hidden", "notes"]) F ⟨rfl, rfl, rfl, by decide +kernel, rfl, by decide +kernel, by decide +kernel⟩ (wf_Pane_x K) (by decide +kernel) c_Pane_x (show 0 ∈ ([0] : List Nat) by decide) (He.mkr_ok (fc c 22)) (He.glo_ok X G (fc c 20)) kb ⟨fun F H x vs zs ds rs l1 l2 => ?_, fun ds hd => ?_⟩ (fun a vs zs l1 l2 => ?_)
  · have l3 := rs.len
    have l1 : vs.length = 1 := l1
    have l2 : zs.length = 0 := l2
    rw [List.length_append, l1, l2] at l3
    obtain ⟨v0, rfl⟩ := len_1 l1
    have e_z := len_0 l2
    subst e_z
    obtain ⟨d0, rfl⟩ := len_1 l3.symm
    have r : Reps (gxOf K nm [0]) F H [d0] [v0] [] := rs
    obtain ⟨r0, r⟩ := r.uncons
    exact ⟨[v0, (V.ref (kwAt ("Pane", some "__init__") "marks" K)), (V.ref (kwAt ("Pane", some "__init__") "hidden" K)), (V.ref (kwAt ("Pane", some "__init__") "notes" K))], rfl, Reps.cons (S := []) (T := []) (r0) (Reps.cons (S := []) (T := []) (rep_empty (G := gxOf K nm [0]) ((He.ba (He.ba (He.ba (He.ba (He.ba (He.ba (He.ba c.more).2).1).1).1).1).1).1)) (Reps.cons (S := []) (T := []) (rep_empty (G := gxOf K nm [0]) ((He.ba (He.ba (He.ba (He.ba (He.ba (He.ba (He.ba c.more).2).1).1).1).1).1).2)) (Reps.cons (S := []) (T := []) (rep_empty (G := gxOf K nm [0]) ((He.ba (He.ba (He.ba (He.ba (He.ba (He.ba c.more).2).1).1).1).1).2)) (Reps.nil))))⟩
  · rcases ds with _ | ⟨y0, _ | ⟨y1, y⟩⟩ <;> first | rfl | simpa [D.isShL, D.isSh] using hd
  · match vs, zs, l1, l2 with
    | [v0], [], _, _ => rfl
theorem wf_check_depths_x (K : PySem.W.Frag) : wfS (GA K) b_check_depths_x = true := by kernel_rfl
theorem ent_26 (X : K.In h) (G : h.Ns mainGlobals mg) (c : Says w h K) : EntOk (GA K) sg gl cl xg hs K mg "check_depths" ⟨1, [], 26⟩ (.fn N_check_depths_x.length b_check_depths_x) := by
  obtain ⟨fd, F⟩ := c.t.d.def_ 1 rfl
  exact .fn (ps := ["depths"]) (fun_of (st := topS 6) F) (He.glo_ok X G (fc c 1)) (FunD.bindsN F fun _ _ _ _ _ _ us hl => match us, hl with | [_], _ => rfl) ⟨rfl, rfl, rfl, by decide +kernel, rfl, by decide +kernel, by decide +kernel⟩ (wf_check_depths_x K) c_check_depths_x
theorem wf_check_crossings_x (K : PySem.W.Frag) : wfS (GA K) b_check_crossings_x = true := by kernel_rfl
theorem ent_27 (X : K.In h) (G : h.Ns mainGlobals mg) (c : Says w h K) : EntOk (GA K) sg gl cl xg hs K mg "check_crossings" ⟨3, [], 27⟩ (.fn N_check_crossings_x.length b_check_crossings_x) := by
  obtain ⟨fd, F⟩ := c.t.d.def_ 2 rfl
  exact .fn (ps := ["size", "marks", "hidden"]) (fun_of (st := topS 7) F) (He.glo_ok X G (fc c 2)) (FunD.bindsN F fun _ _ _ _ _ _ us hl => match us, hl with | [_, _, _], _ => rfl) ⟨rfl, rfl, rfl, by decide +kernel, rfl, by decide +kernel, by decide +kernel⟩ (wf_check_crossings_x K) c_check_crossings_x
theorem wf_check_notes_x (K : PySem.W.Frag) : wfS (GA K) b_check_notes_x = true := by kernel_rfl
theorem ent_28 (X : K.In h) (G : h.Ns mainGlobals mg) (c : Says w h K) : EntOk (GA K) sg gl cl xg hs K mg "check_notes" ⟨2, [], 28⟩ (.fn N_check_notes_x.length b_check_notes_x) := by
  obtain ⟨fd, F⟩ := c.t.d.def_ 3 rfl
  exact .fn (ps := ["size", "notes"]) (fun_of (st := topS 8) F) (He.glo_ok X G (fc c 3)) (FunD.bindsN F fun _ _ _ _ _ _ us hl => match us, hl with | [_, _], _ => rfl) ⟨rfl, rfl, rfl, by decide +kernel, rfl, by decide +kernel, by decide +kernel⟩ (wf_check_notes_x K) c_check_notes_x
theorem ent_all (X : K.In h) (G : h.Ns mainGlobals mg) (c : Says w h K) : ∀ p ∈ sg, ∃ e, es.lookup p.2.f = some e ∧ EntOk (GA K) sg gl cl xg hs K mg p.1 p.2 e := by
  intro p hp
  rcases List.mem_cons.mp hp with rfl | hp
  · exact ⟨_, rfl, ent_0 X G c⟩
  rcases List.mem_cons.mp hp with rfl | hp
  · exact ⟨_, rfl, ent_4 X G c⟩
  rcases List.mem_cons.mp hp with rfl | hp
  · exact ⟨_, rfl, ent_6 X G c⟩
  rcases List.mem_cons.mp hp with rfl | hp
  · exact ⟨_, rfl, ent_20 X G c⟩
  rcases List.mem_cons.mp hp with rfl | hp
  · exact ⟨_, rfl, ent_2 X G c⟩
  rcases List.mem_cons.mp hp with rfl | hp
  · exact ⟨_, rfl, ent_7 X G c⟩
  rcases List.mem_cons.mp hp with rfl | hp
  · exact ⟨_, rfl, ent_132 X G c⟩
  rcases List.mem_cons.mp hp with rfl | hp
  · exact ⟨_, rfl, ent_133 X G c⟩
  rcases List.mem_cons.mp hp with rfl | hp
  · exact ⟨_, rfl, ent_134 X G c⟩
  rcases List.mem_cons.mp hp with rfl | hp
  · exact ⟨_, rfl, ent_25 X G c⟩
  rcases List.mem_cons.mp hp with rfl | hp
  · exact ⟨_, rfl, ent_21 X G c⟩
  rcases List.mem_cons.mp hp with rfl | hp
  · exact ⟨_, rfl, ent_26 X G c⟩
  rcases List.mem_cons.mp hp with rfl | hp
  · exact ⟨_, rfl, ent_27 X G c⟩
  rcases List.mem_cons.mp hp with rfl | hp
  · exact ⟨_, rfl, ent_28 X G c⟩
  exact nomatch hp
theorem cls_all (c : Says w h K) : ∀ z ∈ ([0] : List Nat), Cls K (He.ga K (nmOf nm z)) := by
  intro z hz
  rcases List.mem_cons.mp hz with rfl | hz
  · exact He.cls_ok (x := "Pane") (fc c 21)
  exact nomatch hz
theorem exm_all (c : Says w h K) : ∀ p ∈ exmL, PySem.W.exmOne K (.ref (He.ga K (nmOf nm p.1))) (.ref (He.ga K (nmOf nm p.2))) = some true := by
  intro p hp
  rcases List.mem_cons.mp hp with rfl | hp
  · have z : (He.Fa.exm "BadPane" "PaneError" true).ok K = true := fc c 16
    exact of_decide_eq_true (p := PySem.W.exmOne K (.ref (He.ga K "BadPane")) (.ref (He.ga K "PaneError")) = some true) z
  exact nomatch hp
theorem xfs_all (c : Says w h K) : ∀ p ∈ xfsL, L2.XfC K (He.ga K (nmOf nm p.1)) ∧ PySem.W.findIn K (.ref (He.ga K (nmOf nm p.1))) p.2 = some none := by
  intro p hp
  rcases List.mem_cons.mp hp with rfl | hp
  · exact ⟨L2.xfB_ok ((He.ba (He.ba (He.ba (He.ba (He.ba c.more).2).1).1).1).2), He.noat_ok (fc c 18)⟩
  rcases List.mem_cons.mp hp with rfl | hp
  · exact ⟨L2.xfB_ok ((He.ba (He.ba (He.ba (He.ba (He.ba c.more).2).1).1).1).2), He.noat_ok (fc c 17)⟩
  exact nomatch hp
theorem xok_131 (X : K.In h) (G : h.Ns mainGlobals mg) (c : Says w h K) : XOk (GA K) sg gl cl PR K mg "BadPane" ⟨2, 6, 131⟩ (.xi N_x_BadPane.length 6 xe_x_BadPane xf_x_BadPane) := by
  obtain ⟨cc, F, fd, SK, e1, e2, e3, e4, e5, e6, e7⟩ := sup_ok (P := PR) (mg := mg) (d := xd_x_BadPane) (N := N_x_BadPane) (ps := ["self", "part", "index"]) ((He.ba (He.ba (He.ba (He.ba c.more).2).1).1).2) (SaysZ.x c 0) (NdefX.nscope_by (by decide +kernel)) ⟨_, rfl, rfl, by decide +kernel⟩ (by decide +kernel) (by kernel_rfl) (He.free_ok X G (fc c 19))
  refine ⟨⟨xAd K "BadPane", cc, F, fd, N_x_BadPane, ["self", "part", "index"], xe_x_BadPane, xf_x_BadPane, s0_x_BadPane, sr_x_BadPane, ex_x_BadPane, rfl, SK, e2.trans cb_x_BadPane, cd_x_BadPane, (He.ba c0_x_BadPane).1, by kernel_rfl, by simp [xf_x_BadPane], by simp [xf_x_BadPane], ?_, ?_, ?_, e6, e7, ?_, He.glo_ok X G (fc c 14), rfl⟩⟩
  · intro p hp
    rcases List.mem_cons.mp hp with rfl | hp
    · exact He.noat_ok (fc c 17)
    rcases List.mem_cons.mp hp with rfl | hp
    · exact He.noat_ok (fc c 18)
    exact nomatch hp
  · rw [e3]; exact (He.ba c0_x_BadPane).2
  · rw [e3]; exact c1_x_BadPane
  · obtain ⟨dV, kV, doc, pm, ct, an, rfl⟩ := SK.hfd
    replace e5 : dV = .none := e5
    subst e5
    refine .all fun us hl => ?_
    rw [e1]
    exact match us, hl with | [_, _, _], _ => rfl
theorem ex_all (X : K.In h) (G : h.Ns mainGlobals mg) (c : Says w h K) : ∀ p ∈ xg, ∃ e, es.lookup p.2.n = some e ∧ XOk (GA K) sg gl cl PR K mg p.1 p.2 e := by
  intro p hp
  rcases List.mem_cons.mp hp with rfl | hp
  · exact ⟨_, rfl, xok_131 X G c⟩
  exact nomatch hp
theorem hent_all (X : K.In h) (G : h.Ns mainGlobals mg) (c : Says w h K) : ∀ p ∈ hs, ∃ e, es.lookup p.2.f = some e ∧ HOk' (GA K) gl cl hs K mg p.1 p.2 e := by
  intro p hp
  rcases List.mem_cons.mp hp with rfl | hp
  · obtain ⟨fd, F⟩ := c.t.d.def_ 6 rfl
    exact ⟨_, rfl, ⟨⟨_, topS 13, _, fd, N_law_is_integer, ["_law_value"], b_law_is_integer, rfl, rfl, rfl, fun_of (st := topS 13) F, He.glo_ok X G (fc c 6), FunD.bindsN F fun _ _ _ _ _ _ us hl => match us, hl with | [_], _ => rfl, ⟨rfl, rfl, rfl, by decide +kernel, rfl, by decide +kernel, by decide +kernel⟩, wf_law_is_integer K, ch_law_is_integer⟩⟩⟩
  exact nomatch hp
theorem top_ok (X : K.In h) (G : h.Ns mainGlobals mg) (c : Says w h K) : TopOk (GA K) gl cl K mg := by
  refine ⟨rfl, ⟨kinds_ok (He.ba c.more).1 (cls_all c), cls_all c, fun f hf z hz => He.noat_ok (c.t.d.facts (f := .noat (nmOf nm z) f) (List.mem_append_right _ (List.mem_append_right _ (List.mem_flatMap.mpr ⟨f, hf, List.mem_map.mpr ⟨z, hz, rfl⟩⟩)))), fun n F H => ?_, exm_all c, xfs_all c, isxB_ok ((He.ba (He.ba (He.ba c.more).2).1).2), xcsB_ok ((He.ba (He.ba c.more).2).2), fun _ _ _ h => nomatch h⟩, ?_, ?_, fun x hx => He.free_ok X G (c.t.d.facts (List.mem_append_right _ (List.mem_append_left _ (List.mem_map.mpr ⟨x, hx, rfl⟩)))), rfl⟩
  · show Rep _ F H (glD n) (glV n) []
    unfold glD glV
    repeat' split
    all_goals exact ⟨rfl, rfl⟩
  · intro p hp
    rcases List.mem_cons.mp hp with rfl | hp
    · obtain ⟨t, ht⟩ := He.int_ok X G (fc c 13)
      exact ⟨_, ht, ⟨t, rfl⟩⟩
    exact nomatch hp
  · intro p hp
    rcases List.mem_cons.mp hp with rfl | hp
    · exact He.glo_ok X G (fc c 20)
    rcases List.mem_cons.mp hp with rfl | hp
    · exact He.glo_ok X G (fc c 14)
    rcases List.mem_cons.mp hp with rfl | hp
    · exact He.glo_ok X G (fc c 15)
    exact nomatch hp
theorem h_0 : ∀ k, 1 ≤ k → CrOfS ((tab PhD 100000 es k).fn 0)
  | 0, q => absurd q (by decide)
  | k + 1, q => by
    rw [tab_fn (n := N_crossing_of.length) (b := b_crossing_of) rfl]
    exact t_crossing_of 
theorem h_4 : ∀ k, 1 ≤ k → IsIntS ((tab PhD 100000 es k).fn 4)
  | 0, q => absurd q (by decide)
  | k + 1, q => by
    rw [tab_fn (n := N_law_is_integer.length) (b := b_law_is_integer) rfl]
    exact t_is_integer 
theorem h_2 : ∀ k, 1 ≤ k → RowS ((tab PhD 100000 es k).fn 2)
  | 0, q => absurd q (by decide)
  | k + 1, q => by
    rw [tab_fn (n := N_law_row.length) (b := b_law_row) rfl]
    exact t_row 
theorem h_7 : ∀ k, 1 ≤ k → CellS ((tab PhD 100000 es k).fn 7)
  | 0, q => absurd q (by decide)
  | k + 1, q => by
    rw [tab_fn (n := N_law_cell.length) (b := b_law_cell) rfl]
    exact t_cell 
theorem h_132 : ∀ k, 1 ≤ k → SignS ((tab PhD 100000 es k).fn 132)
  | 0, q => absurd q (by decide)
  | k + 1, q => by
    rw [tab_fn (n := N_law_sign.length) (b := b_law_sign) rfl]
    exact t_law_sign 
theorem h_134 : ∀ k, 1 ≤ k → DueXS ((tab PhD 100000 es k).fn 134)
  | 0, q => absurd q (by decide)
  | k + 1, q => by
    rw [tab_fn (n := N_law_due_v1.length) (b := b_law_due_v1) rfl]
    exact t_law_due_v1 
theorem h_131 : ∀ k, 1 ≤ k → BadPS ((tab PhD 100000 es k).fn 131)
  | 0, q => absurd q (by decide)
  | k + 1, q => by
    rw [tab_xi (n := N_x_BadPane.length) (c := 6) (e0 := xe_x_BadPane) (fs := xf_x_BadPane) rfl]
    exact t_x_BadPane 
theorem h_6 : ∀ k, 2 ≤ k → SameTupS ((tab PhD 100000 es k).fn 6)
  | 0, q => absurd q (by decide)
  | k + 1, q => by
    rw [tab_fn (n := N_law_same_tuples_v1.length) (b := b_law_same_tuples_v1) rfl]
    exact t_law_same_tuples_v1 (h_4 k (by omega))
theorem h_26 : ∀ k, 2 ≤ k → CheckDepthsXS ((tab PhD 100000 es k).fn 26)
  | 0, q => absurd q (by decide)
  | k + 1, q => by
    rw [tab_fn (n := N_check_depths_x.length) (b := b_check_depths_x) rfl]
    exact t_check_depths_x (h_131 k (by omega))
theorem h_27 : ∀ k, 2 ≤ k → CheckCrossXS ((tab PhD 100000 es k).fn 27)
  | 0, q => absurd q (by decide)
  | k + 1, q => by
    rw [tab_fn (n := N_check_crossings_x.length) (b := b_check_crossings_x) rfl]
    exact t_check_crossings_x (h_0 k (by omega)) (h_131 k (by omega))
theorem h_28 : ∀ k, 2 ≤ k → CheckNotesXS ((tab PhD 100000 es k).fn 28)
  | 0, q => absurd q (by decide)
  | k + 1, q => by
    rw [tab_fn (n := N_check_notes_x.length) (b := b_check_notes_x) rfl]
    exact t_check_notes_x (by rw [tab_gl]; rfl) (h_131 k (by omega))
theorem h_20 : ∀ k, 3 ≤ k → Pane3XS ((tab PhD 100000 es k).fn 20)
  | 0, q => absurd q (by decide)
  | k + 1, q => by
    rw [tab_cls (n := N_Pane_x.length) (b := b_Pane_x) rfl]
    exact fun l ms hs ns h1 h2 h3 h4 h5 => (t_Pane_x (h_26 k (by omega)) (h_27 k (by omega)) (h_28 k (by omega))) l ms hs ns true true true h1 h2 h3 h4 h5
theorem h_25 : ∀ k, 3 ≤ k → IsPaneS ((tab PhD 100000 es k).fn 25)
  | 0, q => absurd q (by decide)
  | k + 1, q => by
    rw [tab_fn (n := N_law_is_pane_v3.length) (b := b_law_is_pane_v3) rfl]
    exact t_law_is_pane_v3 (h_4 k (by omega)) (h_6 k (by omega))
theorem h_21 : ∀ k, 3 ≤ k → Pane0S ((tab PhD 100000 es k).fn 21)
  | 0, q => absurd q (by decide)
  | k + 1, q => by
    rw [tab_cls (n := N_Pane_x.length) (b := b_Pane_x) rfl]
    exact fun ds h => paneS_of (t_Pane_x (h_26 k (by omega)) (h_27 k (by omega)) (h_28 k (by omega))) ds [] [] [] false false false (pane0 h)
theorem h_133 : ∀ k, 4 ≤ k → RefusalS ((tab PhD 100000 es k).fn 133)
  | 0, q => absurd q (by decide)
  | k + 1, q => by
    rw [tab_fn (n := N_law_refusal.length) (b := b_law_refusal) rfl]
    exact t_law_refusal (h_20 k (by omega)) (h_4 k (by omega)) (by rw [tab_isx]; rfl)
theorem law_val : LawS (runF (tab PhD 100000 es 7) 100000 N_law_v17.length b_law_v17) := t_law_v17 (h_2 7 (by decide)) (h_7 7 (by decide)) (h_132 7 (by decide)) (h_21 7 (by decide)) (h_133 7 (by decide)) (h_134 7 (by decide)) (h_25 7 (by decide))
theorem wf_law0 (K : PySem.W.Frag) : wfS (GA K) b_law_v17 = true := by kernel_rfl
theorem law_ok (X : K.In h) (G : h.Ns mainGlobals mg) (c : Says w h K) : ∃ fd : FuncData, (∀ (s : Shared) (u : Value), BindsTo s fd ⟨[u], []⟩ [("_law_script", u)]) ∧ ∀ base : Heap, K.In base → base.Ns mainGlobals mg → FnOk PR w K mg base (L2N.CX PR w) 15 (He.ga K "law") fd ["_law_script"] (spD (gxOf K nm [0]) 1 (runF (tab PhD 100000 es 7) 100000 N_law_v17.length b_law_v17)) := by
  obtain ⟨fd, F⟩ := c.t.d.def_ 12 rfl
  have b := FunD.bindsA (ps := ["_law_script"]) F fun _ _ _ _ _ _ us hl => match us, hl with | [_], _ => rfl
  refine ⟨fd, fun s v => b s [v] rfl, fun base hb hn => ?_⟩
  have B := tab_ok (Γ := GA K) (P := PR) (w := w) (base := base) (fuel := 100000) (es := es) (top_ok X G c) (fun _ => rfl) (ent_all X G c) (ex_all X G c) (hent_all X G c) 7
  exact fn_den 100000 B (fun_of (st := topS 19) F) ⟨rfl, rfl, rfl, by decide +kernel, rfl, by decide +kernel, by decide +kernel⟩ (by rw [wfS_at]; exact wf_law0 K) c_law_v17
end
abbrev RO : PySem.W.OpenRow := PySem.W.OpenLaw.row PySem.Challenge.rw_panescratches_k02_bad_depths
abbrev hkX : PySem.W.Hook := hookZ 6 faA fnL exB xdL
def obR (s : PySem.W.SharedT) : (He.AlT × Bool) × List FnWX := obsZ 6 faA fnL exB xdL (HandSHeadRun.getT s)
theorem obR_eq (s : PySem.W.SharedT) : obR s = hkX.obs s.abs := obsZ_eq (HandSHeadRun.getT_eq s)
def loose : List PySem.Str := (["PaneError", "BadPane", "POLISH", "crossing_of", "check_depths", "check_crossings", "check_notes", "Pane", "_law_cell", "_law_row", "_law_is_integer", "_law_same_tuples", "_law_is_pane", "_law_refusal", "_law_sign", "_law_due"] : List PySem.Str)
theorem runR (w : World) : HandSHeadRun.RunEq RO (PySem.W.view RO.prog [19]) hkX obR 9000 loose w := by
  intro os
  kernel_rfl
end KX
open PySem PySem.W PySem.Calls PyProof.Rows
set_option maxRecDepth 100000 in
set_option maxHeartbeats 0 in
theorem PySem.Challenge.cw_panescratches_k02_bad_depths_holds : PySem.Challenge.rw_panescratches_k02_bad_depths.Holds := by
  w_on; o_law
  refine HandSHeadRun.head_any (r := KX.RO) (q := view KX.RO.prog [19]) (H := KX.hkX) (ob := KX.obR) (M := 9000) (loose := KX.loose) (d := HandSHeadRun.topDef KX.RO.prog 19) (kwd := []) KX.obR_eq
    (by kernel_rfl) (fun s => by kernel_rfl) KX.runR (by kernel_rfl) (by kernel_rfl) (by kernel_rfl) (by rfl) (by first | assumption | decide +kernel) (by decide +kernel) ⟨rfl, rfl, rfl, rfl, rfl, by decide +kernel⟩ ?hw ?hc
  case hw => w_witness2
  case hc =>
    refine MP.end_of (l := PySem.Challenge.rw_panescratches_k02_bad_depths) (n := 63) (k := 15) (x := "_law_script") rfl (by decide) (by kernel_rfl) ⟨rfl, by decide, by decide⟩ ?_
    intro w mg fa h Y G hmg0
    obtain ⟨K, KX0, c⟩ := Y
    have hmg : mg ("law" : PySem.Str) = some (.ref fa) := by
      have e : (HandSHeadRun.topDef KX.RO.prog 19).name = ("law" : PySem.Str) := by kernel_rfl
      rw [← e]
      exact hmg0
    have e := hmg.symm.trans (He.glo_ok KX0 G (KX.fc c 12))
    cases e
    obtain ⟨fd, hb, hF⟩ := KX.law_ok KX0 G c
    exact ⟨K, fd, _, _, rfl, KX0, hb, fun ns hl => KX.law_val ns hl, hF⟩
