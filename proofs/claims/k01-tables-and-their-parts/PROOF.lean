import PyProof.Rows.All
import Wide.All
import OpenK.AllK
import Wide.FinOn
import HandS.ForMost
import HandS.ForExc
import HandS.Defaults
import HandS.HeadHook1
import HandS.HeadHook2
import HandS.Wide
import HandS.Style
import HandS.TupMul
import HandS.TupAny
import HandS.Deep
import HandS.IsInst
import HandS.Zip
import HandS.TupLe
import HandS.StrMore
import PyProof.P3In
import HandS.Walk
import HandS.CallSlots
import HandS.Comp
import HandS.Iter
import HandS.Small
import KE.KRevSl
import PyProof.SliceStr2
import HandS.SortInts
import HandS.SortRule
import HandS.Text
import KE.DataMinMax
import KE.DatumOrd
import HandS.FStr
import PyProof.Rows.FStr
import KE.GoesEnum
import KE.GoesZip
import KE.GoesMore
import HandS.RaiseMore
import HandS.Conv
import HandS.MakeKw
import HandS.MakeKwOnly
import HandS.Property
import HandS.WordsExc
import HandS.DictComp
import HandS.SlotsOwn
import HandS.ClsMeth
import HandS.Star
import KE.KStateDown
import HandS.Head0
import HandS.Head1
import HandS.Head2
import HandS.HeadEnd
import HandS.HeadNt
import PySem.Challenge.RW_sameways_k01_tables_and_their_parts
set_option Elab.async false
set_option linter.all false
set_option maxRecDepth 100000
/-! DI: deep values, frames with shared and owned slots, a small heap of boxed objects; evaluators over them; soundness over the hand layer's judgements. -/
namespace DI
open PySem PySem.Spec PyProof.Rows L2

abbrev St := L2.St
/-- deep values; box: a mutable object by its number; loc: the object that the frame's slot owns (never within another value); rf: a static object -/
inductive D where
  | non | bl (b : Bool) | int (i : Int) | str (x : List Char)
  | tup (xs : List D) | lst (xs : List D) | dct (ks vs : List D) | ins (c : String) (fs : List String) (vs : List D)
  | box (n : Nat) | loc (i : Nat) | rf (c : String) | ty (n : String) | fz (xs : List D)
  deriving Inhabited
/-- what an owned or boxed object holds -/
inductive O where
  | lst (xs : List D) | dct (ks vs : List D) | ins (c : String) (fs : List String) (vs : List D)
  deriving Inhabited
/-- a slot -/
inductive SV where
  | un | sh (d : D) | ow (o : O)
  deriving Inhabited
abbrev Fr := List SV
abbrev HB := List O
/-- an exception: its class's name, its fields -/
structure Xn where
  c : String
  fs : List String
  vs : List D
inductive R where
  | ok (d : D) | exn (x : Xn)
abbrev Ev := Fr → HB → Option (R × HB)
inductive SR where
  | nx (fr : Fr) | rt (d : D) | bk (fr : Fr) | ct (fr : Fr) | ex (x : Xn)
abbrev Sv := Fr → HB → Option (SR × HB)
abbrev FSem := List D → HB → Option (R × HB)

/-! ### relations -/
/-- a text by its signs -/
def strC (l : List Char) : Str := ⟨(l.map Char.toNat).toArray⟩
def keyD : D → Option Key
  | .int i => some (.inl i)
  | .str x => some (.inr (strC x))
  | _ => none
def keysD : List D → Option (List Key)
  | [] => some []
  | d :: r => match keyD d, keysD r with
    | some k, some ks => some (k :: ks)
    | _, _ => none
/-- a list that nobody changes: tracked and not in B -/
def FzL (B : Addr → Prop) (H : Hp) (a : Addr) (vs : List V) : Prop := H a = some (.lst vs) ∧ ¬ B a
/-- a list that is locked, tracked or written -/
def FzS (K : PySem.W.Frag) (B : Addr → Prop) (H : Hp) (a : Addr) (vs : List V) : Prop :=
  (Rd H a (.lst vs) ∧ ¬ B a) ∨ ∃ (o : Obj) (its : Array Value) (n : Nat), K.lookup a = some o ∧ o.cls = .type "list" ∧ o.dict = none ∧ o.data = .seq its n ∧ its.size ≤ sizeLine ∧ Vals vs its.toList
/-- a tuple -/
def FzT (K : PySem.W.Frag) (B : Addr → Prop) (H : Hp) (a : Addr) (vs : List V) : Prop :=
  H a = some (.tup vs) ∧ ¬ B a
/-- the keys and values of a dict -/
inductive KeysK : List D → List (Key × V) → Prop
  | nil : KeysK [] []
  | cons {d k v ds kvs} : keyD d = some k → KeysK ds kvs → KeysK (d :: ds) ((k, v) :: kvs)
inductive KeysT : List D → List (List Key × V) → Prop
  | one {ds' k v} : keysD ds' = some k → KeysT [.tup ds'] [(k, v)]
  | cons {ds' k v ds kvs} : keysD ds' = some k → KeysT ds kvs → KeysT (.tup ds' :: ds) ((k, v) :: kvs)
mutual
def RelD (K : PySem.W.Frag) (B : Addr → Prop) (m : List Addr) (H : Hp) : D → V → Prop
  | .non, v => v = .non
  | .bl b, v => v = .bl b
  | .int i, v => v = .int i
  | .str x, v => v = .str (strC x)
  | .tup xs, v => ∃ a vs, v = .ref a ∧ FzT K B H a vs ∧ RelDs K B m H xs vs
  | .lst xs, v => ∃ a vs, v = .ref a ∧ FzL B H a vs ∧ RelDs K B m H xs vs
  | .fz xs, v => ∃ a vs, v = .ref a ∧ FzS K B H a vs ∧ RelDs K B m H xs vs
  | .dct ks ds, v => ∃ a vs, v = .ref a ∧ ¬ B a ∧ ((∃ kvs, H a = some (.dK kvs) ∧ KeysK ks kvs ∧ vs = kvs.map (·.2)) ∨ (∃ kvs, H a = some (.dT kvs) ∧ KeysT ks kvs ∧ vs = kvs.map (·.2))) ∧ RelDs K B m H ds vs
  | .ins c fs ds, v => ∃ a dx vs, v = .ref a ∧ ¬ B a ∧ H a = some (.ins (He.ga K c) dx ((fs.map Str.ofString).zip vs)) ∧ fs.length = vs.length ∧ RelDs K B m H ds vs
  | .box n, v => ∃ a, v = .ref a ∧ m[n]? = some a
  | .loc _, _ => False
  | .rf c, v => v = .ref (He.ga K c)
  | .ty n, v => v = .ty n
def RelDs (K : PySem.W.Frag) (B : Addr → Prop) (m : List Addr) (H : Hp) : List D → List V → Prop
  | [], vs => vs = []
  | d :: ds, vs => ∃ v r, vs = v :: r ∧ RelD K B m H d v ∧ RelDs K B m H ds r
end
/-- an owned or boxed object at a -/
def RelO (K : PySem.W.Frag) (B : Addr → Prop) (m : List Addr) (H : Hp) : O → Addr → Prop
  | .lst xs, a => ∃ vs, H a = some (.lst vs) ∧ RelDs K B m H xs vs
  | .dct ks ds, a => ∃ vs, ((∃ kvs, H a = some (.dK kvs) ∧ KeysK ks kvs ∧ vs = kvs.map (·.2)) ∨ (∃ kvs, H a = some (.dT kvs) ∧ KeysT ks kvs ∧ vs = kvs.map (·.2))) ∧ RelDs K B m H ds vs
  | .ins c fs ds, a => ∃ dx vs, H a = some (.ins (He.ga K c) dx ((fs.map Str.ofString).zip vs)) ∧ fs.length = vs.length ∧ RelDs K B m H ds vs
/-- what is not to be looked at as frozen: others' owned objects, the boxed ones -/
def Bd (M : Addr → Prop) (m : List Addr) : Addr → Prop := fun a => M a ∨ a ∈ m
/-- the boxed objects stand -/
structure Wd (K : PySem.W.Frag) (M : Addr → Prop) (m : List Addr) (H : Hp) (hb : HB) : Prop where
  nd : m.Nodup
  no : ∀ a ∈ m, ¬ M a
  mt : ∀ a, M a → ∃ u, H a = some u
  len : hb.length = m.length
  ob : ∀ (n : Nat) a o, m[n]? = some a → hb[n]? = some o → RelO K (Bd M m) m H o a
/-- one slot -/
def RelS (K : PySem.W.Frag) (M : Addr → Prop) (m : List Addr) (H : Hp) : SV → Option V → Prop
  | .un, _ => True
  | .sh d, x => ∃ v, x = some v ∧ RelD K (Bd M m) m H d v
  | .ow o, x => ∃ a, x = some (.ref a) ∧ M a ∧ a ∉ m ∧ RelO K (Bd M m) m H o a
def FrR (K : PySem.W.Frag) (M : Addr → Prop) (m : List Addr) (H : Hp) (fr : Fr) (σ : St) : Prop :=
  fr.length = σ.length ∧ ∀ (i : Nat) s, fr[i]? = some s → ∃ x, σ[i]? = some x ∧ RelS K M m H s x
/-- a value or the object that a slot owns -/
def RelT (K : PySem.W.Frag) (M : Addr → Prop) (m : List Addr) (H : Hp) (fr : Fr) (σ : St) : D → V → Prop
  | .loc i, v => (∃ o, fr[i]? = some (.ow o)) ∧ σ[i]? = some (some v)
  | d, v => RelD K (Bd M m) m H d v
/-- what an expression may do -/
structure Stp (K : PySem.W.Frag) (M : Addr → Prop) (m : List Addr) (H : Hp) (m' : List Addr) (H' : Hp) (hb' : HB) : Prop where
  pre : ∃ l, m' = m ++ l
  new : ∀ a ∈ m', a ∉ m → H a = none
  fr : ∀ a o, H a = some o → a ∉ m → H' a = some o
  wd : Wd K M m' H' hb'

/-! ### stability -/
section
variable {K : PySem.W.Frag} {M : Addr → Prop} {m m' : List Addr} {H H' : Hp} {hb hb' : HB}
theorem Rd.keep {a : Addr} {u : HO} (r : Rd H a u) (h : ∀ o, H a = some o → H' a = some o) : Rd H' a u := by
  rcases r with r | ⟨o, r⟩
  · exact .inl (h _ r)
  · exact .inr ⟨o, h _ r⟩
theorem Rd.some_ {a : Addr} {u : HO} (r : Rd H a u) : ∃ o, H a = some o := by
  rcases r with r | ⟨o, r⟩
  · exact ⟨_, r⟩
  · exact ⟨_, r⟩
/-- from B, m, H to B', m', H': frozen tracked things stay -/
structure Keeps (B B' : Addr → Prop) (m m' : List Addr) (H H' : Hp) : Prop where
  pre : ∃ l, m' = m ++ l
  fr : ∀ a o, H a = some o → ¬ B a → H' a = some o ∧ ¬ B' a
theorem Keeps.box {B B' : Addr → Prop} (k : Keeps B B' m m' H H') {n : Nat} {a : Addr} (h : m[n]? = some a) : m'[n]? = some a := by
  obtain ⟨l, rfl⟩ := k.pre
  rw [List.getElem?_append_left (List.getElem?_eq_some_iff.mp h).1]
  exact h
mutual
theorem RelD.keep {B B' : Addr → Prop} (k : Keeps B B' m m' H H') : ∀ {d : D} {v : V}, RelD K B m H d v → RelD K B' m' H' d v
  | .non, v, h => by unfold RelD at h ⊢; exact h
  | .bl b, v, h => by unfold RelD at h ⊢; exact h
  | .int i, v, h => by unfold RelD at h ⊢; exact h
  | .str x, v, h => by unfold RelD at h ⊢; exact h
  | .tup xs, v, h => by
    unfold RelD at h ⊢
    obtain ⟨a, vs, e, f, r⟩ := h
    exact ⟨a, vs, e, k.fr a _ f.1 f.2, RelDs.keep k r⟩
  | .lst xs, v, h => by
    unfold RelD at h ⊢
    obtain ⟨a, vs, e, ⟨f, n⟩, r⟩ := h
    exact ⟨a, vs, e, k.fr a _ f n, RelDs.keep k r⟩
  | .fz xs, v, h => by
    unfold RelD at h ⊢
    obtain ⟨a, vs, e, f, r⟩ := h
    refine ⟨a, vs, e, ?_, RelDs.keep k r⟩
    rcases f with ⟨f, n⟩ | f
    · obtain ⟨o, ho⟩ := Rd.some_ f
      exact .inl ⟨Rd.keep f fun o q => (k.fr a o q n).1, (k.fr a o ho n).2⟩
    · exact .inr f
  | .dct ks ds, v, h => by
    unfold RelD at h ⊢
    obtain ⟨a, vs, e, n, f, r⟩ := h
    rcases f with ⟨kvs, f, h1, h2⟩ | ⟨kvs, f, h1, h2⟩
    · exact ⟨a, vs, e, (k.fr a _ f n).2, .inl ⟨kvs, (k.fr a _ f n).1, h1, h2⟩, RelDs.keep k r⟩
    · exact ⟨a, vs, e, (k.fr a _ f n).2, .inr ⟨kvs, (k.fr a _ f n).1, h1, h2⟩, RelDs.keep k r⟩
  | .ins c fs ds, v, h => by
    unfold RelD at h ⊢
    obtain ⟨a, dx, vs, e, n, f, l, r⟩ := h
    exact ⟨a, dx, vs, e, (k.fr a _ f n).2, (k.fr a _ f n).1, l, RelDs.keep k r⟩
  | .box n, v, h => by
    unfold RelD at h ⊢
    obtain ⟨a, e, q⟩ := h
    exact ⟨a, e, k.box q⟩
  | .loc i, v, h => by unfold RelD at h; exact h.elim
  | .rf a, v, h => by unfold RelD at h ⊢; exact h
  | .ty n, v, h => by unfold RelD at h ⊢; exact h
theorem RelDs.keep {B B' : Addr → Prop} (k : Keeps B B' m m' H H') : ∀ {ds : List D} {vs : List V}, RelDs K B m H ds vs → RelDs K B' m' H' ds vs
  | [], vs, h => by unfold RelDs at h ⊢; exact h
  | d :: ds, vs, h => by
    unfold RelDs at h ⊢
    obtain ⟨v, r, e, h1, h2⟩ := h
    exact ⟨v, r, e, RelD.keep k h1, RelDs.keep k h2⟩
end
theorem RelDs.nil_iff {B : Addr → Prop} {vs : List V} : RelDs K B m H [] vs ↔ vs = [] := by unfold RelDs; rfl
theorem RelDs.length {B : Addr → Prop} : ∀ {ds : List D} {vs : List V}, RelDs K B m H ds vs → ds.length = vs.length
  | [], vs, h => by unfold RelDs at h; subst h; rfl
  | d :: ds, vs, h => by
    unfold RelDs at h
    obtain ⟨v, r, rfl, _, h2⟩ := h
    simp [RelDs.length h2]
theorem RelDs.nil' {B : Addr → Prop} : RelDs K B m H [] [] := by unfold RelDs; rfl
theorem RelDs.cons {B : Addr → Prop} {d : D} {v : V} {ds : List D} {vs : List V} (h1 : RelD K B m H d v) (h2 : RelDs K B m H ds vs) : RelDs K B m H (d :: ds) (v :: vs) := by
  unfold RelDs
  exact ⟨v, vs, rfl, h1, h2⟩
theorem RelDs.cons_inv {B : Addr → Prop} {d : D} {ds : List D} {vs : List V} (h : RelDs K B m H (d :: ds) vs) : ∃ v r, vs = v :: r ∧ RelD K B m H d v ∧ RelDs K B m H ds r := by
  unfold RelDs at h
  exact h
theorem RelDs.append {B : Addr → Prop} : ∀ {ds es : List D} {vs ws : List V}, RelDs K B m H ds vs → RelDs K B m H es ws → RelDs K B m H (ds ++ es) (vs ++ ws)
  | [], es, vs, ws, h, h' => by unfold RelDs at h; subst h; exact h'
  | d :: ds, es, vs, ws, h, h' => by
    obtain ⟨v, r, rfl, h1, h2⟩ := RelDs.cons_inv h
    exact RelDs.cons h1 (RelDs.append h2 h')
theorem RelDs.get {B : Addr → Prop} : ∀ {ds : List D} {vs : List V} {i : Nat} {d : D}, RelDs K B m H ds vs → ds[i]? = some d → ∃ v, vs[i]? = some v ∧ RelD K B m H d v
  | [], _, _, _, _, e => by simp at e
  | d :: ds, vs, 0, d', h, e => by
    obtain ⟨v, r, rfl, h1, h2⟩ := RelDs.cons_inv h
    simp at e
    subst e
    exact ⟨v, rfl, h1⟩
  | d :: ds, vs, i + 1, d', h, e => by
    obtain ⟨v, r, rfl, h1, h2⟩ := RelDs.cons_inv h
    obtain ⟨w, e1, e2⟩ := RelDs.get (i := i) h2 (by simpa using e)
    exact ⟨w, by simpa using e1, e2⟩
theorem RelDs.take {B : Addr → Prop} : ∀ {ds : List D} {vs : List V} (n : Nat), RelDs K B m H ds vs → RelDs K B m H (ds.take n) (vs.take n)
  | ds, vs, 0, _ => by simp; exact RelDs.nil'
  | [], vs, n + 1, h => by unfold RelDs at h; subst h; simp; exact RelDs.nil'
  | d :: ds, vs, n + 1, h => by
    obtain ⟨v, r, rfl, h1, h2⟩ := RelDs.cons_inv h
    exact RelDs.cons h1 (RelDs.take n h2)
theorem RelDs.drop {B : Addr → Prop} : ∀ {ds : List D} {vs : List V} (n : Nat), RelDs K B m H ds vs → RelDs K B m H (ds.drop n) (vs.drop n)
  | ds, vs, 0, h => h
  | [], vs, n + 1, h => by unfold RelDs at h; subst h; simp; exact RelDs.nil'
  | d :: ds, vs, n + 1, h => by
    obtain ⟨v, r, rfl, h1, h2⟩ := RelDs.cons_inv h
    exact RelDs.drop n h2
theorem RelDs.reverse {B : Addr → Prop} : ∀ {ds : List D} {vs : List V}, RelDs K B m H ds vs → RelDs K B m H ds.reverse vs.reverse
  | [], vs, h => by unfold RelDs at h; subst h; exact RelDs.nil'
  | d :: ds, vs, h => by
    obtain ⟨v, r, rfl, h1, h2⟩ := RelDs.cons_inv h
    rw [List.reverse_cons, List.reverse_cons]
    exact RelDs.append (RelDs.reverse h2) (RelDs.cons h1 RelDs.nil')
theorem RelDs.set {B : Addr → Prop} {d : D} {v : V} (h' : RelD K B m H d v) : ∀ {ds : List D} {vs : List V} (i : Nat), RelDs K B m H ds vs → RelDs K B m H (ds.set i d) (vs.set i v)
  | [], vs, _, h => by unfold RelDs at h; subst h; exact RelDs.nil'
  | e :: ds, vs, 0, h => by
    obtain ⟨v, r, rfl, h1, h2⟩ := RelDs.cons_inv h
    exact RelDs.cons h' h2
  | e :: ds, vs, i + 1, h => by
    obtain ⟨v, r, rfl, h1, h2⟩ := RelDs.cons_inv h
    exact RelDs.cons h1 (RelDs.set h' i h2)
theorem RelDs.replicate {B : Addr → Prop} {d : D} {v : V} (h' : RelD K B m H d v) : ∀ (n : Nat), RelDs K B m H (List.replicate n d) (List.replicate n v)
  | 0 => RelDs.nil'
  | n + 1 => RelDs.cons h' (RelDs.replicate h' n)
theorem Stp.keeps (s : Stp K M m H m' H' hb') : Keeps (Bd M m) (Bd M m') m m' H H' := by
  refine ⟨s.pre, fun a o h n => ?_⟩
  have n1 : a ∉ m := fun z => n (.inr z)
  refine ⟨s.fr a o h n1, fun z => ?_⟩
  rcases z with z | z
  · exact n (.inl z)
  · have := s.new a z n1
    rw [h] at this; cases this
theorem RelO.keep_own {B B' : Addr → Prop} (k : Keeps B B' m m' H H') {o : O} {a : Addr} (h : RelO K B m H o a) (he : ∀ o, H a = some o → H' a = some o) : RelO K B' m' H' o a := by
  cases o with
  | lst xs => obtain ⟨vs, h1, h2⟩ := h; exact ⟨vs, he _ h1, h2.keep k⟩
  | dct ks ds =>
    obtain ⟨vs, h1, h2⟩ := h
    rcases h1 with ⟨kvs, e1, e2, e3⟩ | ⟨kvs, e1, e2, e3⟩
    · exact ⟨vs, .inl ⟨kvs, he _ e1, e2, e3⟩, h2.keep k⟩
    · exact ⟨vs, .inr ⟨kvs, he _ e1, e2, e3⟩, h2.keep k⟩
  | ins c fs ds => obtain ⟨dx, vs, h1, l, h2⟩ := h; exact ⟨dx, vs, he _ h1, l, h2.keep k⟩
theorem RelO.there {B : Addr → Prop} {o : O} {a : Addr} (h : RelO K B m H o a) : ∃ u, H a = some u := by
  cases o with
  | lst xs => obtain ⟨vs, h1, h2⟩ := h; exact ⟨_, h1⟩
  | dct ks ds =>
    obtain ⟨vs, h1, h2⟩ := h
    rcases h1 with ⟨kvs, e1, e2, e3⟩ | ⟨kvs, e1, e2, e3⟩
    · exact ⟨_, e1⟩
    · exact ⟨_, e1⟩
  | ins c fs ds => obtain ⟨dx, vs, h1, h2⟩ := h; exact ⟨_, h1⟩
theorem Wd.there (w : Wd K M m H hb) {a : Addr} (h : a ∈ m) : ∃ u, H a = some u := by
  obtain ⟨n, hn⟩ := List.getElem?_of_mem h
  have hl := (List.getElem?_eq_some_iff.mp hn).1
  obtain ⟨o, ho⟩ : ∃ o, hb[n]? = some o := ⟨hb[n]'(by rw [w.len]; exact hl), by simp⟩
  exact (w.ob n a o hn ho).there
theorem Stp.refl (w : Wd K M m H hb) : Stp K M m H m H hb := ⟨⟨[], by simp⟩, fun a h n => absurd h n, fun _ _ h _ => h, w⟩
theorem Stp.trans {m1 : List Addr} {H1 : Hp} {hb1 : HB} (a : Stp K M m H m1 H1 hb1) (b : Stp K M m1 H1 m' H' hb') : Stp K M m H m' H' hb' := by
  obtain ⟨l1, e1⟩ := a.pre
  obtain ⟨l2, e2⟩ := b.pre
  refine ⟨⟨l1 ++ l2, by rw [e2, e1, List.append_assoc]⟩, fun x hx hn => ?_, fun x o h hn => ?_, b.wd⟩
  · by_cases h1 : x ∈ m1
    · exact a.new x h1 hn
    · have := b.new x hx h1
      cases q : H x with
      | none => rfl
      | some o => have z := a.fr x o q hn; rw [this] at z; cases z
  · refine b.fr x o (a.fr x o h hn) fun z => ?_
    have := a.new x z hn
    rw [h] at this; cases this
/-- a new object laid -/
theorem Wd.laid (w : Wd K M m H hb) {p : Addr} {o : HO} (hp : H p = none) : Stp K M m H m (upd H p o) hb := by
  have nep : ∀ a u, H a = some u → a ≠ p := fun a u h => ne_of_none h hp
  have fr : ∀ a u, H a = some u → a ∉ m → upd H p o a = some u := fun a u h _ => by rw [upd_ne (nep a u h)]; exact h
  have k : Keeps (Bd M m) (Bd M m) m m H (upd H p o) := ⟨⟨[], by simp⟩, fun a u h n => ⟨by rw [upd_ne (nep a u h)]; exact h, n⟩⟩
  exact ⟨⟨[], by simp⟩, fun a h n => absurd h n, fr, ⟨w.nd, w.no, fun a h => let ⟨u, hu⟩ := w.mt a h; ⟨u, by rw [upd_ne (nep a u hu)]; exact hu⟩, w.len, fun n a ob h1 h2 => (w.ob n a ob h1 h2).keep_own k fun u h => by rw [upd_ne (nep a u h)]; exact h⟩⟩
theorem RelS.keep (s : Stp K M m H m' H' hb') (w : Wd K M m H hb) {sv : SV} {x : Option V} (h : RelS K M m H sv x) : RelS K M m' H' sv x := by
  cases sv with
  | un => trivial
  | sh d =>
    obtain ⟨v, e, r⟩ := h
    exact ⟨v, e, r.keep s.keeps⟩
  | ow o =>
    obtain ⟨a, e, hM, nm, r⟩ := h
    obtain ⟨u, hu⟩ := r.there
    refine ⟨a, e, hM, fun z => ?_, r.keep_own s.keeps fun u h => s.fr a u h nm⟩
    exact s.wd.no a z hM
theorem FrR.keep (s : Stp K M m H m' H' hb') (w : Wd K M m H hb) {fr : Fr} {σ : St} (h : FrR K M m H fr σ) : FrR K M m' H' fr σ :=
  ⟨h.1, fun i sv e => let ⟨x, e1, r⟩ := h.2 i sv e; ⟨x, e1, r.keep s w⟩⟩
theorem RelT.keep (s : Stp K M m H m' H' hb') {fr : Fr} {σ : St} {d : D} {v : V} (h : RelT K M m H fr σ d v) : RelT K M m' H' fr σ d v := by
  cases d with
  | loc i => exact h
  | _ => exact RelD.keep s.keeps h
end
end DI
set_option Elab.async false
set_option linter.all false
set_option maxRecDepth 100000
namespace DI
open PySem PySem.Spec PyProof.Rows L2

/-- an exception as it lies: its class, its dict -/
def RelX (K : PySem.W.Frag) (B : Addr → Prop) (m : List Addr) (H : Hp) (x : Xn) (C : Value) (d : Option Addr) : Prop :=
  C = .ref (He.ga K x.c) ∧ ∃ dd vs, d = some dd ∧ H dd = some (.xd ((x.fs.map Str.ofString).zip vs)) ∧ x.fs.length = vs.length ∧ RelDs K B m H x.vs vs
abbrev WX := Value → Option Addr → St → Hp → Prop
/-- an evaluator's reading -/
def tE (K : PySem.W.Frag) (W : WX) (ev : Ev) : TE := fun σ H Q => ∃ (M : Addr → Prop) (m : List Addr) (hb : HB) (fr : Fr) (r : R) (hb' : HB), Wd K M m H hb ∧ FrR K M m H fr σ ∧ ev fr hb = some (r, hb') ∧
  ∀ m' H', Stp K M m H m' H' hb' → match r with
    | .ok d => ∀ v, RelT K M m' H' fr σ d v → Q v H'
    | .exn x => ∀ C dd, RelX K (Bd M m') m' H' x C dd → W C dd σ H'
/-- the judgement of an expression -/
abbrev SE (X : Cx) (W : WX) (e : Expr) (ev : Ev) : Prop := PE X e (tE X.K W ev)
theorem PE.mono {X : Cx} {e : Expr} {t t' : TE} (h : PE X e t) (i : ∀ σ H Q, t' σ H Q → t σ H Q) : PE X e t' := ⟨fun pins s σ H Q I hq => h.run pins s σ H Q I (i σ H Q hq)⟩
theorem PT.mono {X : Cx} {e : Expr} {t t' : TT} (h : PT X e t) (i : ∀ σ H Q, t' σ H Q → t σ H Q) : PT X e t' := ⟨fun pins s σ H Q I hq => h.run pins s σ H Q I (i σ H Q hq)⟩
theorem PA.mono {X : Cx} {e : List Expr} {t t' : TA} (h : PA X e t) (i : ∀ σ H Q, t' σ H Q → t σ H Q) : PA X e t' := ⟨fun pos pins s σ H Q I hq => h.run pos pins s σ H Q I (i σ H Q hq)⟩
theorem PS.mono {X : Cx} {e : Stmt} {t t' : TS} (h : PS X e t) (i : ∀ D σ H, t' D σ H → t D σ H) : PS X e t' := ⟨fun pins s σ H D I hq => h.run pins s σ H D I (i D σ H hq)⟩
theorem PSs.mono {X : Cx} {e : List Stmt} {t t' : TS} (h : PSs X e t) (i : ∀ D σ H, t' D σ H → t D σ H) : PSs X e t' := ⟨fun pins s σ H D I hq => h.run pins s σ H D I (i D σ H hq)⟩

/-- an evaluator's test: its value must be a bool -/
def tT (K : PySem.W.Frag) (W : WX) (ev : Ev) : TT := fun σ H Q => ∃ (M : Addr → Prop) (m : List Addr) (hb : HB) (fr : Fr) (r : R) (hb' : HB), Wd K M m H hb ∧ FrR K M m H fr σ ∧ ev fr hb = some (r, hb') ∧
  ∀ m' H', Stp K M m H m' H' hb' → match r with
    | .ok d => ∃ b, d = .bl b ∧ Q b H'
    | .exn x => ∀ C dd, RelX K (Bd M m') m' H' x C dd → W C dd σ H'
abbrev ST (X : Cx) (W : WX) (e : Expr) (ev : Ev) : Prop := PT X e (tT X.K W ev)

/-! ### evaluators -/
def eBind (ev : Ev) (k : D → Ev) : Ev := fun fr hb => match ev fr hb with
  | some (.ok d, hb1) => k d fr hb1
  | some (.exn x, hb1) => some (.exn x, hb1)
  | none => none
abbrev Evs := Fr → HB → Option ((List D ⊕ Xn) × HB)
def eNil : Evs := fun _ hb => some (.inl [], hb)
def eCons (ev : Ev) (r : Evs) : Evs := fun fr hb => match ev fr hb with
  | some (.ok d, hb1) => match r fr hb1 with
    | some (.inl ds, hb2) => some (.inl (d :: ds), hb2)
    | some (.inr x, hb2) => some (.inr x, hb2)
    | none => none
  | some (.exn x, hb1) => some (.inr x, hb1)
  | none => none
/-- several values -/
def RelTs (K : PySem.W.Frag) (M : Addr → Prop) (m : List Addr) (H : Hp) (fr : Fr) (σ : St) : List D → List V → Prop
  | [], vs => vs = []
  | d :: ds, vs => ∃ v r, vs = v :: r ∧ RelT K M m H fr σ d v ∧ RelTs K M m H fr σ ds r
def tEs (K : PySem.W.Frag) (W : WX) (ev : Evs) : TA := fun σ H Q => ∃ (M : Addr → Prop) (m : List Addr) (hb : HB) (fr : Fr) (r : List D ⊕ Xn) (hb' : HB), Wd K M m H hb ∧ FrR K M m H fr σ ∧ ev fr hb = some (r, hb') ∧
  ∀ m' H', Stp K M m H m' H' hb' → match r with
    | .inl ds => ∀ vs, RelTs K M m' H' fr σ ds vs → Q vs H'
    | .inr x => ∀ C dd, RelX K (Bd M m') m' H' x C dd → W C dd σ H'
abbrev SEs (X : Cx) (W : WX) (es : List Expr) (ev : Evs) : Prop := PA X es (tEs X.K W ev)
section
variable {K : PySem.W.Frag} {W : WX} {M : Addr → Prop} {m m' : List Addr} {H H' : Hp} {hb hb' : HB} {fr : Fr} {σ : St}
theorem RelTs.keep (s : Stp K M m H m' H' hb') : ∀ {ds : List D} {vs : List V}, RelTs K M m H fr σ ds vs → RelTs K M m' H' fr σ ds vs
  | [], vs, h => h
  | d :: ds, vs, h => by
    obtain ⟨v, r, e, h1, h2⟩ := h
    exact ⟨v, r, e, h1.keep s, RelTs.keep s h2⟩
/-- behind an evaluator: the chain to the next -/
theorem tE_bind {ev : Ev} {k : D → Ev} {Q : VK} (h : tE K W (eBind ev k) σ H Q) {R : V → Hp → Prop}
    (hR : ∀ (M : Addr → Prop) m hb fr d v H1 r hb', Wd K M m H1 hb → FrR K M m H1 fr σ → RelT K M m H1 fr σ d v → k d fr hb = some (r, hb') →
      (∀ m' H', Stp K M m H1 m' H' hb' → match r with
        | .ok d => ∀ v, RelT K M m' H' fr σ d v → Q v H'
        | .exn x => ∀ C dd, RelX K (Bd M m') m' H' x C dd → W C dd σ H') → R v H1) : tE K W ev σ H R := by
  obtain ⟨M, m, hb, fr, r, hb', w, f, e, c⟩ := h
  unfold eBind at e
  split at e
  · rename_i d hb1 e1
    refine ⟨M, m, hb, fr, .ok d, hb1, w, f, e1, fun m1 H1 s1 v rv => ?_⟩
    exact hR M m1 hb1 fr d v H1 r hb' s1.wd (f.keep s1 w) rv e fun m' H' s' => c m' H' (s1.trans s')
  · rename_i x hb1 e1
    cases e
    exact ⟨M, m, hb, fr, .exn _, _, w, f, e1, fun m1 H1 s1 => c m1 H1 s1⟩
  · cases e
theorem tE_binds {ev : Evs} {Q : VK} {k : List D → Ev} (h : tE K W (fun fr hb => match ev fr hb with
    | some (.inl ds, hb1) => k ds fr hb1
    | some (.inr x, hb1) => some (.exn x, hb1)
    | none => none) σ H Q) {R : List V → Hp → Prop}
    (hR : ∀ (M : Addr → Prop) m hb fr ds vs H1 r hb', Wd K M m H1 hb → FrR K M m H1 fr σ → RelTs K M m H1 fr σ ds vs → k ds fr hb = some (r, hb') →
      (∀ m' H', Stp K M m H1 m' H' hb' → match r with
        | .ok d => ∀ v, RelT K M m' H' fr σ d v → Q v H'
        | .exn x => ∀ C dd, RelX K (Bd M m') m' H' x C dd → W C dd σ H') → R vs H1) : tEs K W ev σ H R := by
  obtain ⟨M, m, hb, fr, r, hb', w, f, e, c⟩ := h
  dsimp only at e
  split at e
  · rename_i d hb1 e1
    refine ⟨M, m, hb, fr, .inl d, hb1, w, f, e1, fun m1 H1 s1 v rv => ?_⟩
    exact hR M m1 hb1 fr d v H1 r hb' s1.wd (f.keep s1 w) rv e fun m' H' s' => c m' H' (s1.trans s')
  · rename_i x hb1 e1
    cases e
    exact ⟨M, m, hb, fr, .inr _, _, w, f, e1, fun m1 H1 s1 => c m1 H1 s1⟩
  · cases e
/-- the end: a value without a heap's change -/
theorem tE_done {d : D} {v : V} {Q : VK} (w : Wd K M m H hb) (c : ∀ m' H', Stp K M m H m' H' hb → ∀ v, RelT K M m' H' fr σ d v → Q v H') (r : RelT K M m H fr σ d v) : Q v H := c m H (Stp.refl w) v r
end
section
variable {X : Cx} {W : WX}
/-- the exceptions' wish is the context's -/
theorem ses_nil : SEs X W [] eNil := by
  refine PA.mono pa_nil fun σ H Q h => ?_
  obtain ⟨M, m, hb, fr, r, hb', w, f, e, c⟩ := h
  cases e
  exact c m H (Stp.refl w) [] rfl
theorem ses_cons {e : Expr} {es : List Expr} {ev : Ev} {evs : Evs} (h : SE X W e ev) (hs : SEs X W es evs) (hst : starEach (e :: es) X.env = (false, eval e X.env) :: starEach es X.env := by rfl) : SEs X W (e :: es) (eCons ev evs) := by
  refine PA.mono (pa_cons h hs hst) fun σ H Q hq => ?_
  obtain ⟨M, m, hb, fr, r, hb', w, f, e, c⟩ := hq
  unfold eCons at e
  show tE X.K W ev σ H fun x H1 => tEs X.K W evs σ H1 fun xs H2 => Q (x :: xs) H2
  split at e
  · rename_i d hb1 e1
    refine ⟨M, m, hb, fr, .ok d, hb1, w, f, e1, fun m1 H1 s1 v rv => ?_⟩
    split at e
    · rename_i ds hb2 e2
      cases e
      refine ⟨M, m1, hb1, fr, .inl ds, _, s1.wd, f.keep s1 w, e2, fun m2 H2 s2 vs rvs => ?_⟩
      exact c m2 H2 (s1.trans s2) (v :: vs) ⟨v, vs, rfl, rv.keep s2, rvs⟩
    · rename_i x hb2 e2
      cases e
      exact ⟨M, m1, hb1, fr, .inr _, _, s1.wd, f.keep s1 w, e2, fun m2 H2 s2 => c m2 H2 (s1.trans s2)⟩
    · cases e
  · rename_i x hb1 e1
    cases e
    exact ⟨M, m, hb, fr, .exn _, _, w, f, e1, fun m1 H1 s1 => c m1 H1 s1⟩
  · cases e

/-! ### names, constants -/
def eC (d : D) : Ev := fun _ hb => some (.ok d, hb)
def eV (i : Nat) : Ev := fun fr hb => match fr[i]? with
  | some (.sh d) => some (.ok d, hb)
  | some (.ow _) => some (.ok (.loc i), hb)
  | _ => none
theorem se_var {i : Nat} {x : Str} {pos : Pos} (hN : X.N[i]? = some x) (hv : Vis X.env.scope x) (hd : (x == ("__debug__" : Str)) = false := by decide) (hcd : (x == ("__classdict__" : Str)) = false := by decide) : SE X W (.Name x pos) (eV i) := by
  refine PE.mono (pe_var hN hv hd hcd) fun σ H Q h => ?_
  obtain ⟨M, m, hb, fr, r, hb', w, f, e, c⟩ := h
  unfold eV at e
  split at e
  · rename_i d e1
    cases e
    obtain ⟨y, e2, v, e3, rv⟩ := f.2 i _ e1
    subst e3
    refine ⟨v, e2, c m H (Stp.refl w) v ?_⟩
    cases d with
    | loc j => unfold RelD at rv; exact rv.elim
    | _ => exact rv
  · rename_i o e1
    cases e
    obtain ⟨y, e2, a, e3, hM, nm, ro⟩ := f.2 i _ e1
    subst e3
    exact ⟨_, e2, c m H (Stp.refl w) _ ⟨⟨o, e1⟩, e2⟩⟩
  · cases e
theorem se_c {e : Expr} {v : V} {d : D} (h : PE X e (tC v)) (hd : ∀ B m H, RelD X.K B m H d v) (hl : ∀ i, d ≠ .loc i) : SE X W e (eC d) := by
  refine PE.mono h fun σ H Q h => ?_
  obtain ⟨M, m, hb, fr, r, hb', w, f, e, c⟩ := h
  cases e
  refine c m H (Stp.refl w) v ?_
  have z := hd (Bd M m) m H
  cases d with
  | loc i => exact absurd rfl (hl i)
  | _ => exact z
theorem se_int {i j pos} : SE X W (.Constant (.int i) j pos) (eC (.int i)) := se_c pe_int (fun _ _ _ => by unfold RelD; rfl) fun _ q => by cases q
theorem se_bl {i j pos} : SE X W (.Constant (.bool i) j pos) (eC (.bl i)) := se_c pe_bl (fun _ _ _ => by unfold RelD; rfl) fun _ q => by cases q
theorem se_non {j pos} : SE X W (.Constant .none j pos) (eC .non) := se_c pe_non (fun _ _ _ => by unfold RelD; rfl) fun _ q => by cases q
theorem se_str {x : Str} {l : List Char} {j pos} (h : x = strC l := by rfl) : SE X W (.Constant (.str x) j pos) (eC (.str l)) := se_c pe_str (fun _ _ _ => by unfold RelD; rw [h]) fun _ q => by cases q

/-! ### tests -/
def eB (ev : Ev) : Ev := eBind ev fun d fr hb => match d with
  | .bl b => some (.ok (.bl b), hb)
  | _ => none
theorem st_val {e : Expr} {ev : Ev} (h : SE X W e ev) (he : ∀ whole, isTrue e X.env whole = (do let v ← whole; standAt e.pos; holding [v] (truthy v)) := by intro _; rfl) : ST X W e (eB ev) := by
  refine PT.mono (pt_val h he) fun σ H Q hq => ?_
  obtain ⟨M, m, hb, fr, r, hb', w, f, e, c⟩ := hq
  unfold eB eBind at e
  show tE X.K W ev σ H fun x H1 => ∃ c, x = .bl c ∧ Q c H1
  split at e
  · rename_i d hb1 e1
    refine ⟨M, m, hb, fr, .ok d, hb1, w, f, e1, fun m1 H1 s1 v rv => ?_⟩
    dsimp only at e
    split at e
    · rename_i b
      cases e
      obtain ⟨b', eb, q⟩ := c m1 H1 s1
      cases eb
      have rv' : RelD X.K (Bd M m1) m1 H1 (.bl b) v := rv
      unfold RelD at rv'
      exact ⟨b, rv', q⟩
    · cases e
  · rename_i x hb1 e1
    cases e
    exact ⟨M, m, hb, fr, .exn _, _, w, f, e1, fun m1 H1 s1 => c m1 H1 s1⟩
  · cases e
end
end DI
set_option Elab.async false
set_option linter.all false
set_option maxRecDepth 100000
namespace DI
open PySem PySem.Spec PyProof.Rows L2

/-- what is wanted behind -/
def Pst (K : PySem.W.Frag) (W : WX) (M : Addr → Prop) (m : List Addr) (H : Hp) (fr : Fr) (σ : St) (r : R) (hb' : HB) (Q : VK) : Prop := ∀ m' H', Stp K M m H m' H' hb' → match r with
  | .ok d => ∀ v, RelT K M m' H' fr σ d v → Q v H'
  | .exn x => ∀ C dd, RelX K (Bd M m') m' H' x C dd → W C dd σ H'
/-- a state -/
structure At (K : PySem.W.Frag) (M : Addr → Prop) (m : List Addr) (H : Hp) (hb : HB) (fr : Fr) (σ : St) : Prop where
  wd : Wd K M m H hb
  fr : FrR K M m H fr σ
section
variable {K : PySem.W.Frag} {W : WX} {M : Addr → Prop} {m m' : List Addr} {H H' : Hp} {hb hb' : HB} {fr : Fr} {σ : St} {Q : VK}
theorem Pst.done {d : D} {v : V} (c : Pst K W M m H fr σ (.ok d) hb Q) (a : At K M m H hb fr σ) (r : RelT K M m H fr σ d v) : Q v H := c m H (Stp.refl a.wd) v r
theorem Pst.step {r : R} (c : Pst K W M m H fr σ r hb' Q) {m1 : List Addr} {H1 : Hp} {hb1 : HB} (s : Stp K M m H m1 H1 hb1) : Pst K W M m1 H1 fr σ r hb' Q := fun m' H' s' => c m' H' (s.trans s')
theorem At.step (a : At K M m H hb fr σ) {m1 : List Addr} {H1 : Hp} {hb1 : HB} (s : Stp K M m H m1 H1 hb1) : At K M m1 H1 hb1 fr σ := ⟨s.wd, a.fr.keep s a.wd⟩
theorem tE_mk {ev : Ev} {r : R} (a : At K M m H hb fr σ) (e : ev fr hb = some (r, hb')) (c : Pst K W M m H fr σ r hb' Q) : tE K W ev σ H Q := ⟨M, m, hb, fr, r, hb', a.wd, a.fr, e, c⟩
theorem tE_un {ev : Ev} (h : tE K W ev σ H Q) : ∃ M m hb fr r hb', At K M m H hb fr σ ∧ ev fr hb = some (r, hb') ∧ Pst K W M m H fr σ r hb' Q := by
  obtain ⟨M, m, hb, fr, r, hb', w, f, e, c⟩ := h
  exact ⟨M, m, hb, fr, r, hb', ⟨w, f⟩, e, c⟩
/-- one step, in a known state -/
theorem tE_then {ev : Ev} {k : D → Ev} {r : R} {R : V → Hp → Prop} (a : At K M m H hb fr σ) (e : eBind ev k fr hb = some (r, hb')) (c : Pst K W M m H fr σ r hb' Q)
    (hR : ∀ m1 H1 hb1 d v, Stp K M m H m1 H1 hb1 → At K M m1 H1 hb1 fr σ → RelT K M m1 H1 fr σ d v → k d fr hb1 = some (r, hb') → Pst K W M m1 H1 fr σ r hb' Q → R v H1) : tE K W ev σ H R := by
  unfold eBind at e
  split at e
  · rename_i d hb1 e1
    exact tE_mk a e1 fun m1 H1 s1 v rv => hR m1 H1 hb1 d v s1 (a.step s1) rv e (c.step s1)
  · rename_i x hb1 e1
    cases e
    exact tE_mk a e1 fun m1 H1 s1 => c m1 H1 s1
  · cases e
theorem tE_bind1 {ev1 : Ev} {k : D → Ev} (h : tE K W (eBind ev1 k) σ H Q) {R : V → Hp → Prop}
    (hR : ∀ {M m hb fr x vx H2 r hb'}, At K M m H2 hb fr σ → RelT K M m H2 fr σ x vx → k x fr hb = some (r, hb') → Pst K W M m H2 fr σ r hb' Q → R vx H2) : tE K W ev1 σ H R := by
  obtain ⟨M, m, hb, fr, r, hb', a, e, c⟩ := tE_un h
  exact tE_then a e c fun m1 H1 hb1 d v s1 a1 rv e1 c1 => hR a1 rv e1 c1
theorem tE_bind2 {ev1 ev2 : Ev} {k : D → D → Ev} (h : tE K W (eBind ev1 fun x => eBind ev2 fun y => k x y) σ H Q) {R : V → V → Hp → Prop}
    (hR : ∀ {M m hb fr x y vx vy H2 r hb'}, At K M m H2 hb fr σ → RelT K M m H2 fr σ x vx → RelT K M m H2 fr σ y vy → k x y fr hb = some (r, hb') → Pst K W M m H2 fr σ r hb' Q → R vx vy H2) :
    tE K W ev1 σ H fun v H1 => tE K W ev2 σ H1 fun w H2 => R v w H2 := by
  obtain ⟨M, m, hb, fr, r, hb', a, e, c⟩ := tE_un h
  exact tE_then a e c fun m1 H1 hb1 d v s1 a1 rv e1 c1 => tE_then a1 e1 c1 fun m2 H2 hb2 d2 v2 s2 a2 rv2 e2 c2 => hR a2 (rv.keep s2) rv2 e2 c2
/-! ### looking at values -/
def vLst (fr : Fr) (hb : HB) : D → Option (List D)
  | .lst xs => some xs
  | .loc i => match fr[i]? with
    | some (.ow (.lst xs)) => some xs
    | _ => none
  | .box n => match hb[n]? with
    | some (.lst xs) => some xs
    | _ => none
  | _ => none
theorem vLst_ok {d : D} {v : V} {xs : List D} (a : At K M m H hb fr σ) (r : RelT K M m H fr σ d v) (e : vLst fr hb d = some xs) : ∃ p vs, v = .ref p ∧ H p = some (.lst vs) ∧ RelDs K (Bd M m) m H xs vs := by
  unfold vLst at e
  split at e
  · cases e
    have r' : RelD K (Bd M m) m H (.lst xs) v := r
    unfold RelD at r'
    obtain ⟨p, vs, e, ⟨f, _⟩, r⟩ := r'
    exact ⟨p, vs, e, f, r⟩
  · rename_i i
    split at e
    · rename_i ys e1
      cases e
      obtain ⟨_, e2⟩ := r
      obtain ⟨x, e3, p, e4, _, _, vs, e5, e6⟩ := a.fr.2 i _ e1
      rw [e3] at e2
      cases e2
      cases e4
      exact ⟨p, vs, rfl, e5, e6⟩
    · cases e
  · rename_i n
    split at e
    · rename_i ys e1
      cases e
      have r' : RelD K (Bd M m) m H (.box n) v := r
      unfold RelD at r'
      obtain ⟨p, e2, e3⟩ := r'
      obtain ⟨vs, e5, e6⟩ := a.wd.ob n p _ e3 e1
      exact ⟨p, vs, e2, e5, e6⟩
    · cases e
  · cases e
theorem vTup_ok {v : V} {xs : List D} (r : RelT K M m H fr σ (.tup xs) v) : ∃ p vs, v = .ref p ∧ SqT K H p vs ∧ RelDs K (Bd M m) m H xs vs := by
  have r' : RelD K (Bd M m) m H (.tup xs) v := r
  unfold RelD at r'
  obtain ⟨p, vs, e, f, r⟩ := r'
  exact ⟨p, vs, e, .of f.1, r⟩
theorem vTup_ok' {v : V} {xs : List D} (r : RelT K M m H fr σ (.tup xs) v) : ∃ p vs, v = .ref p ∧ H p = some (.tup vs) ∧ ¬ Bd M m p ∧ RelDs K (Bd M m) m H xs vs := by
  have r' : RelD K (Bd M m) m H (.tup xs) v := r
  unfold RelD at r'
  obtain ⟨p, vs, e, f, r⟩ := r'
  exact ⟨p, vs, e, f.1, f.2, r⟩
theorem vFz_ok {v : V} {xs : List D} (r : RelT K M m H fr σ (.fz xs) v) : ∃ p vs, v = .ref p ∧ SqL K H p vs ∧ RelDs K (Bd M m) m H xs vs := by
  have r' : RelD K (Bd M m) m H (.fz xs) v := r
  unfold RelD at r'
  obtain ⟨p, vs, e, f, r⟩ := r'
  refine ⟨p, vs, e, ?_, r⟩
  rcases f with ⟨f, _⟩ | f
  · exact .inl f
  · exact .inr f
theorem vInt_ok {v : V} {i : Int} (r : RelT K M m H fr σ (.int i) v) : v = .int i := by
  have r' : RelD K (Bd M m) m H (.int i) v := r
  unfold RelD at r'; exact r'
theorem vStr_ok {v : V} {x : List Char} (r : RelT K M m H fr σ (.str x) v) : v = .str (strC x) := by
  have r' : RelD K (Bd M m) m H (.str x) v := r
  unfold RelD at r'; exact r'
theorem vBl_ok {v : V} {b : Bool} (r : RelT K M m H fr σ (.bl b) v) : v = .bl b := by
  have r' : RelD K (Bd M m) m H (.bl b) v := r
  unfold RelD at r'; exact r'
theorem vNon_ok {v : V} (r : RelT K M m H fr σ .non v) : v = .non := by
  have r' : RelD K (Bd M m) m H .non v := r
  unfold RelD at r'; exact r'
theorem rInt {i : Int} : RelT K M m H fr σ (.int i) (.int i) := by show RelD _ _ _ _ _ _; unfold RelD; rfl
theorem rStr {x : List Char} : RelT K M m H fr σ (.str x) (.str (strC x)) := by show RelD _ _ _ _ _ _; unfold RelD; rfl
theorem rBl {b : Bool} : RelT K M m H fr σ (.bl b) (.bl b) := by show RelD _ _ _ _ _ _; unfold RelD; rfl
theorem rNon : RelT K M m H fr σ .non .non := by show RelD _ _ _ _ _ _; unfold RelD; rfl
/-- not a loc -/
def D.isVal : D → Bool
  | .loc _ => false
  | _ => true
theorem RelT.val {d : D} {v : V} (r : RelT K M m H fr σ d v) (h : d.isVal = true) : RelD K (Bd M m) m H d v := by
  cases d with
  | loc i => cases h
  | _ => exact r
theorem RelD.isVal {B : Addr → Prop} {d : D} {v : V} (r : RelD K B m H d v) : d.isVal = true := by
  cases d with
  | loc i => unfold RelD at r; exact r.elim
  | _ => rfl
theorem RelD.t {d : D} {v : V} (r : RelD K (Bd M m) m H d v) : RelT K M m H fr σ d v := by
  cases d with
  | loc i => unfold RelD at r; exact r.elim
  | _ => exact r
def allVal (ds : List D) : Bool := ds.all D.isVal
theorem RelTs.val : ∀ {ds : List D} {vs : List V}, RelTs K M m H fr σ ds vs → allVal ds = true → RelDs K (Bd M m) m H ds vs
  | [], vs, r, _ => by
    have r' : vs = [] := r
    subst r'
    exact RelDs.nil'
  | d :: ds, vs, r, h => by
    obtain ⟨v, w, e, h1, h2⟩ := r
    have h' := (Bool.and_eq_true_iff.mp (show (d.isVal && allVal ds) = true from h))
    subst e
    exact RelDs.cons (h1.val h'.1) (RelTs.val h2 h'.2)
theorem fresh_no (a : Wd K M m H hb) {p : Addr} (hp : H p = none) : ¬ Bd M m p := fun z => by
  rcases z with z | z
  · obtain ⟨u, hu⟩ := a.mt p z
    rw [hp] at hu; cases hu
  · obtain ⟨u, hu⟩ := a.there z
    rw [hp] at hu; cases hu
/-- a new list, a new tuple -/
theorem new_lst {xs : List D} {vs : List V} {p : Addr} (a : Wd K M m H hb) (hp : H p = none) (r : RelDs K (Bd M m) m H xs vs) : RelT K M m (upd H p (.lst vs)) fr σ (.lst xs) (.ref p) := by
  have s := a.laid (o := .lst vs) hp
  show RelD _ _ _ _ _ _
  unfold RelD
  exact ⟨p, vs, rfl, ⟨upd_same, fresh_no a hp⟩, r.keep s.keeps⟩
theorem new_tup {xs : List D} {vs : List V} {p : Addr} (a : Wd K M m H hb) (hp : H p = none) (r : RelDs K (Bd M m) m H xs vs) : RelT K M m (upd H p (.tup vs)) fr σ (.tup xs) (.ref p) := by
  have s := a.laid (o := .tup vs) hp
  show RelD _ _ _ _ _ _
  unfold RelD
  exact ⟨p, vs, rfl, ⟨upd_same, fresh_no a hp⟩, r.keep s.keeps⟩
theorem Pst.lst {xs : List D} {vs : List V} {p : Addr} (c : Pst K W M m H fr σ (.ok (.lst xs)) hb Q) (a : At K M m H hb fr σ) (hp : H p = none) (r : RelDs K (Bd M m) m H xs vs) : Q (.ref p) (upd H p (.lst vs)) :=
  c m _ (a.wd.laid hp) _ (new_lst a.wd hp r)
theorem Pst.tup {xs : List D} {vs : List V} {p : Addr} (c : Pst K W M m H fr σ (.ok (.tup xs)) hb Q) (a : At K M m H hb fr σ) (hp : H p = none) (r : RelDs K (Bd M m) m H xs vs) : Q (.ref p) (upd H p (.tup vs)) :=
  c m _ (a.wd.laid hp) _ (new_tup a.wd hp r)
end

/-! ### operators of two values -/
def eOp2 (g : D → D → Ev) (a b : Ev) : Ev := eBind a fun x => eBind b fun y => g x y
def Snd2 (X : Cx) (W : WX) (r : R2) (g : D → D → Ev) : Prop := ∀ {M : Addr → Prop} {m : List Addr} {hb : HB} {fr : Fr} {σ : St} {H : Hp} {x y : D} {vx vy : V} {res : R} {hb' : HB} {Q : VK},
  At X.K M m H hb fr σ → RelT X.K M m H fr σ x vx → RelT X.K M m H fr σ y vy → g x y fr hb = some (res, hb') → Pst X.K W M m H fr σ res hb' Q → r vx vy H Q
section
variable {X : Cx} {W : WX} {a b : Expr} {eva evb : Ev} {pos : Pos}
theorem se_op {op : Operator} {r : R2} {g : D → D → Ev} (ho : OpR X (binaryOp op) r) (hs : Snd2 X W r g) (ha : SE X W a eva) (hb : SE X W b evb) : SE X W (.BinOp a op b pos) (eOp2 g eva evb) :=
  PE.mono (pe_op ho ha hb) fun _ _ _ h => tE_bind2 h fun at_ rx ry e c => hs at_ rx ry e c
theorem se_cmp {op : CmpOp} {r : R2} {g : D → D → Ev} (ho : OpR X (compareOp op) r) (hs : Snd2 X W r g) (ha : SE X W a eva) (hb : SE X W b evb) (hm : behindInMarks op b = false) : SE X W (.Compare a [op] [b] pos) (eOp2 g eva evb) :=
  PE.mono (pe_cmpR ho ha hb hm) fun _ _ _ h => tE_bind2 h fun at_ rx ry e c => hs at_ rx ry e c
theorem se_ix {r : R2} {g : D → D → Ev} (ho : IxR X r) (hs : Snd2 X W r g) (ha : SE X W a eva) (hb : SE X W b evb) (hp : PlainIx b := by first | exact fun _ _ => rfl | intro _ _; rfl) : SE X W (.Subscript a b pos) (eOp2 g eva evb) :=
  PE.mono (pe_ix ho ha hb hp) fun _ _ _ h => tE_bind2 h fun at_ rx ry e c => hs at_ rx ry e c
theorem OpR.or {f : Value → Value → Sem Value} {r r' : R2} (h : OpR X f r) (h' : OpR X f r') : OpR X f (fun x y H Q => r x y H Q ∨ r' x y H Q) := by
  intro pins s σ H x y v u Q I rx ry q
  rcases q with q | q
  · exact h pins s σ H x y v u Q I rx ry q
  · exact h' pins s σ H x y v u Q I rx ry q
theorem IxR.or {r r' : R2} (h : IxR X r) (h' : IxR X r') : IxR X (fun x y H Q => r x y H Q ∨ r' x y H Q) := by
  intro value slice pins s σ H x y v u Q I rx ry q hs
  rcases q with q | q
  · exact h value slice pins s σ H x y v u Q I rx ry q hs
  · exact h' value slice pins s σ H x y v u Q I rx ry q hs

def szL : Nat := 16777216
/-- x + y -/
def gAdd : D → D → Ev := fun x y fr hb => match x, y with
  | .int i, .int j => some (.ok (.int (i + j)), hb)
  | .str s, .str t => if s.length + t.length ≤ szL then some (.ok (.str (s ++ t)), hb) else none
  | .tup xs, .tup ys => if xs.length + ys.length ≤ szL then some (.ok (.tup (xs ++ ys)), hb) else none
  | x, y => match vLst fr hb x, vLst fr hb y with
    | some xs, some ys => if xs.length + ys.length ≤ szL then some (.ok (.lst (xs ++ ys)), hb) else none
    | _, _ => none
theorem szL_eq : szL = sizeLine := by rw [sizeLine_eq]; rfl
end
end DI
set_option Elab.async false
set_option linter.all false
set_option maxRecDepth 100000
namespace DI
open PySem PySem.Spec PyProof.Rows L2

theorem strC_app (a b : List Char) : strC a ++ strC b = strC (a ++ b) := by
  show (⟨_ ++ _⟩ : Str) = _
  unfold strC
  rw [List.map_append]
  simp
theorem strC_len (a : List Char) : (strC a).length = a.length := by
  show ((a.map Char.toNat).toArray).size = _
  simp
theorem Char.toNat_inj {a b : Char} (h : a.toNat = b.toNat) : a = b := by
  apply Char.ext
  apply UInt32.toNat_inj.mp
  exact h
theorem map_toNat_inj : ∀ {a b : List Char}, a.map Char.toNat = b.map Char.toNat → a = b
  | [], [], _ => rfl
  | [], _ :: _, h => by simp at h
  | _ :: _, [], h => by simp at h
  | x :: a, y :: b, h => by
    rw [List.map_cons, List.map_cons] at h
    injection h with h1 h2
    rw [Char.toNat_inj h1, map_toNat_inj h2]
theorem strC_inj {a b : List Char} (h : strC a = strC b) : a = b := by
  unfold strC at h
  injection h with h
  exact map_toNat_inj (by simpa using congrArg Array.toList h)
theorem strC_of (s : String) : Str.ofString s = strC s.toList := Str.ofString_eq_toList s
theorem char_lt (c : Char) : c.toNat < 0x110000 := by
  have h := c.valid
  simp only [UInt32.isValidChar, Nat.isValidChar] at h
  have : c.toNat = c.val.toNat := rfl
  omega

section
variable {X : Cx} {W : WX}
/-! ### + -/
theorem snd_add : Snd2 X W (fun x y H Q => rI0 (fun i j => V.int (i + j)) x y H Q ∨ (∃ i j, x = V.str i ∧ y = V.str j ∧ i.length + j.length ≤ sizeLine ∧ Q (V.str (i ++ j)) H) ∨ rCatA X.K x y H Q ∨ rCat x y H Q) gAdd := by
  intro M m hb fr σ H x y vx vy res hb' Q a rx ry e c
  unfold gAdd at e
  split at e
  · cases e
    rw [vInt_ok rx, vInt_ok ry]
    exact .inl ⟨_, _, rfl, rfl, c.done a rInt⟩
  · split at e
    · rename_i hz
      cases e
      rw [vStr_ok rx, vStr_ok ry]
      refine .inr (.inl ⟨_, _, rfl, rfl, ?_, ?_⟩)
      · rw [strC_len, strC_len, ← szL_eq]; exact hz
      · rw [strC_app]
        exact c.done a rStr
    · cases e
  · split at e
    · rename_i xs ys hz
      cases e
      obtain ⟨p, vs, rfl, f1, r1⟩ := vTup_ok rx
      obtain ⟨q, ws, rfl, f2, r2⟩ := vTup_ok ry
      refine .inr (.inr (.inl ⟨p, q, vs, ws, rfl, rfl, f1, f2, ?_, fun h => ?_, fun h1 h2 => ?_, fun h1 h2 pp hp => ?_⟩))
      · rw [← r1.length, ← r2.length, ← szL_eq]; exact hz
      · subst h
        have : xs = [] := List.eq_nil_of_length_eq_zero (by rw [r1.length]; rfl)
        subst this
        exact c.done a ry
      · subst h2
        have : ys = [] := List.eq_nil_of_length_eq_zero (by rw [r2.length]; rfl)
        subst this
        rw [List.append_nil] at c
        exact c.done a rx
      · exact c.tup a hp (r1.append r2)
    · cases e
  · split at e
    · rename_i xs ys e1 e2
      split at e
      · rename_i hz
        cases e
        obtain ⟨p, vs, rfl, f1, r1⟩ := vLst_ok a rx e1
        obtain ⟨q, ws, rfl, f2, r2⟩ := vLst_ok a ry e2
        exact .inr (.inr (.inr ⟨p, q, vs, ws, rfl, rfl, f1, f2, by rw [← r1.length, ← r2.length, ← szL_eq]; exact hz, fun pp hp => c.lst a hp (r1.append r2)⟩))
      · cases e
    · cases e
theorem se_add {a b : Expr} {eva evb : Ev} {pos : Pos} (ha : SE X W a eva) (hb : SE X W b evb) : SE X W (.BinOp a .Add b pos) (eOp2 gAdd eva evb) :=
  se_op (OpR.or op_add (OpR.or op_add_str (OpR.or op_catA op_cat))) snd_add ha hb
/-! ### ints -/
def gSub : D → D → Ev := fun x y fr hb => match x, y with
  | .int i, .int j => some (.ok (.int (i - j)), hb)
  | _, _ => none
theorem snd_sub : Snd2 X W (rI0 fun i j => V.int (i - j)) gSub := by
  intro M m hb fr σ H x y vx vy res hb' Q a rx ry e c
  unfold gSub at e
  split at e
  · cases e
    rw [vInt_ok rx, vInt_ok ry]
    exact ⟨_, _, rfl, rfl, c.done a rInt⟩
  · cases e
theorem se_sub {a b : Expr} {eva evb : Ev} {pos : Pos} (ha : SE X W a eva) (hb : SE X W b evb) : SE X W (.BinOp a .Sub b pos) (eOp2 gSub eva evb) := se_op op_sub snd_sub ha hb
def gMod : D → D → Ev := fun x y fr hb => match x, y with
  | .int i, .int j => if 0 < j then some (.ok (.int (i % j)), hb) else none
  | _, _ => none
theorem snd_mod : Snd2 X W (rI (fun x j => 0 < j) fun i j => V.int (i % j)) gMod := by
  intro M m hb fr σ H x y vx vy res hb' Q a rx ry e c
  unfold gMod at e
  split at e
  · split at e
    · rename_i h
      cases e
      rw [vInt_ok rx, vInt_ok ry]
      exact ⟨_, _, rfl, rfl, h, c.done a rInt⟩
    · cases e
  · cases e
theorem se_mod {a b : Expr} {eva evb : Ev} {pos : Pos} (ha : SE X W a eva) (hb : SE X W b evb) : SE X W (.BinOp a .Mod b pos) (eOp2 gMod eva evb) := se_op op_mod snd_mod ha hb
def gFdiv : D → D → Ev := fun x y fr hb => match x, y with
  | .int i, .int j => if 0 < j ∧ j < 1073741824 then some (.ok (.int (i / j)), hb) else none
  | _, _ => none
theorem se_fdiv {a b : Expr} {eva evb : Ev} {pos : Pos} (ha : SE X W a eva) (hb : SE X W b evb) : SE X W (.BinOp a .FloorDiv b pos) (eOp2 gFdiv eva evb) := by
  refine se_op op_fdiv ?_ ha hb
  intro M m hb fr σ H x y vx vy res hb' Q a rx ry e c
  unfold gFdiv at e
  split at e
  · split at e
    · rename_i h
      cases e
      rw [vInt_ok rx, vInt_ok ry]
      exact ⟨_, _, rfl, rfl, h, c.done a rInt⟩
    · cases e
  · cases e
def gPow : D → D → Ev := fun x y fr hb => match x, y with
  | .int i, .int j => if 0 ≤ j ∧ j ≤ 1000000 ∧ i.natAbs < 2 ^ 64 then some (.ok (.int (i ^ j.toNat)), hb) else none
  | _, _ => none
theorem se_pow {a b : Expr} {eva evb : Ev} {pos : Pos} (ha : SE X W a eva) (hb : SE X W b evb) : SE X W (.BinOp a .Pow b pos) (eOp2 gPow eva evb) := by
  refine se_op op_pow ?_ ha hb
  intro M m hb fr σ H x y vx vy res hb' Q a rx ry e c
  unfold gPow at e
  split at e
  · split at e
    · rename_i h
      cases e
      rw [vInt_ok rx, vInt_ok ry]
      exact ⟨_, _, rfl, rfl, h, c.done a rInt⟩
    · cases e
  · cases e
/-! ### * : ints (one of them small, or both below a million bits together), lists, texts -/
def gMul : D → D → Ev := fun x y fr hb => match x, y with
  | .int i, .int j => if (-(2 ^ 64) < i ∧ i < 2 ^ 64) ∨ (-(2 ^ 64) < j ∧ j < 2 ^ 64) then some (.ok (.int (i * j)), hb) else none
  | .str s, .int n => if 0 ≤ n ∧ n ≤ szL ∧ s.length * n.toNat ≤ szL then some (.ok (.str (List.replicate n.toNat s).flatten), hb) else none
  | x, .int n => match vLst fr hb x with
    | some xs => if 0 ≤ n ∧ n ≤ szL ∧ xs.length * n.toNat ≤ szL then some (.ok (.lst (List.replicate n.toNat xs).flatten), hb) else none
    | none => none
  | _, _ => none
theorem toArr_rep (l : List Nat) : ∀ (k : Nat) (acc : Array Nat), (List.replicate k l.toArray).foldl (· ++ ·) acc = acc ++ ((List.replicate k l).flatten).toArray
  | 0, acc => by simp
  | k + 1, acc => by
    rw [List.replicate_succ, List.foldl_cons, toArr_rep l k, List.replicate_succ, List.flatten_cons]
    simp
theorem rep_map (s : List Char) : ∀ k : Nat, (List.replicate k (s.map Char.toNat)).flatten = ((List.replicate k s).flatten).map Char.toNat
  | 0 => rfl
  | k + 1 => by rw [List.replicate_succ, List.flatten_cons, rep_map s k, List.replicate_succ, List.flatten_cons, List.map_append]
theorem flat_len {α : Type} (l : List α) : ∀ k : Nat, (List.replicate k l).flatten.length = l.length * k
  | 0 => rfl
  | k + 1 => by rw [List.replicate_succ, List.flatten_cons, List.length_append, flat_len l k, Nat.mul_succ, Nat.add_comm]
theorem notTooLong {n : Nat} (h : n ≤ 16777216) : Builtin.Str.tooLong n = false := by
  unfold Builtin.Str.tooLong
  rw [sizeLine_eq]
  exact decide_eq_false (by omega)
/-- text * n -/
theorem op_rep_str : OpR X (binaryOp .Mult) (fun x y H Q => ∃ (s : List Char) (n : Int), x = V.str (strC s) ∧ y = V.int n ∧ 0 ≤ n ∧ n ≤ szL ∧ s.length * n.toNat ≤ szL ∧ Q (V.str (strC (List.replicate n.toNat s).flatten)) H) := by
  intro pins s σ H x y v u Q I rx ry h
  obtain ⟨z, n, rfl, rfl, h0, h1, h2, q⟩ := h
  obtain ⟨t, rfl⟩ := rx
  obtain ⟨t', rfl⟩ := ry
  have hz : (strC z).length = z.length := strC_len z
  have e1 : (n : Int) ≤ 16777216 := h1
  refine P.mul_str (by
      have a1 : ¬ n < -(2 ^ 63 : Int) := by omega
      have a2 : ¬ n ≥ 2 ^ 63 := by omega
      rw [decide_eq_false a1, decide_eq_false a2] <;> rfl) (fun hn hb => ?_) (fun hn hb => ?_) ?_
  · rw [hz]
    have hle : (z.length : Int) * n ≤ 16777216 := by
      have h3 : z.length * n.toNat ≤ 16777216 := h2
      have h4 : ((z.length * n.toNat : Nat) : Int) ≤ 16777216 := Int.ofNat_le.mpr h3
      rw [Int.natCast_mul, Int.toNat_of_nonneg h0] at h4
      exact h4
    intro hgt
    have hpos : 0 < n := by omega
    have : (z.length : Int) ≤ (2 ^ 63 - 1) / n := Int.le_ediv_of_mul_le hpos (by omega)
    omega
  · rw [hz]
    have : z.length * n.toNat ≤ 16777216 := h2
    exact notTooLong this
  · by_cases c1 : n < 1
    · rw [if_pos c1]
      have : n = 0 := by omega
      subst this
      have e : (strC (List.replicate (0 : Int).toNat z).flatten) = Str.empty := by rfl
      rw [e] at q
      exact ⟨by decide, ⟨.str Str.empty, H, I.tok _, ⟨_, rfl⟩, q⟩⟩
    · rw [if_neg c1]
      by_cases c2 : (n == 1 || (strC z).length == 0) = true
      · rw [if_pos c2]
        have e : strC (List.replicate n.toNat z).flatten = strC z := by
          rcases Bool.or_eq_true_iff.mp c2 with c | c
          · have : n = 1 := by simpa using c
            subst this
            show strC (List.replicate 1 z).flatten = _
            simp
          · have : z = [] := List.eq_nil_of_length_eq_zero (by rw [← strC_len]; simpa using c)
            subst this
            simp
        rw [e] at q
        exact ⟨.str (strC z), H, I, ⟨_, rfl⟩, q⟩
      · rw [if_neg c2]
        have e : (⟨(List.replicate n.toNat (strC z).cps).foldl (· ++ ·) #[]⟩ : Str) = strC (List.replicate n.toNat z).flatten := by
          unfold strC
          rw [toArr_rep, rep_map]
          simp
        rw [e]
        refine ⟨?_, ⟨.str _, H, I.tok _, ⟨_, rfl⟩, q⟩⟩
        show (strC (List.replicate n.toNat z).flatten).length ≤ _
        rw [strC_len, flat_len]
        exact h2
end
end DI
set_option Elab.async false
set_option linter.all false
set_option maxRecDepth 100000
namespace DI
open PySem PySem.Spec PyProof.Rows L2

/-! ### data -/
mutual
def D.py : D → PyData
  | .non => .none
  | .bl b => .bool b
  | .int i => .int i
  | .str x => .str (strC x)
  | .tup xs => .tuple (D.pys xs)
  | .lst xs => .list (D.pys xs)
  | .fz xs => .list (D.pys xs)
  | _ => .none
def D.pys : List D → List PyData
  | [] => []
  | x :: xs => D.py x :: D.pys xs
end
theorem pys_map : ∀ xs : List D, D.pys xs = xs.map D.py
  | [] => by simp [D.pys]
  | x :: xs => by simp [D.pys, pys_map xs]
/-- data of at most this depth -/
def dat : Nat → D → Bool
  | _, .non => true
  | _, .bl _ => true
  | _, .int _ => true
  | _, .str _ => true
  | n + 1, .tup xs => xs.all (dat n)
  | n + 1, .lst xs => xs.all (dat n)
  | n + 1, .fz xs => xs.all (dat n)
  | _, _ => false
def deq (d e : D) : Bool := PyData.eqv d.py e.py
theorem pys_len (xs : List D) : (D.pys xs).length = xs.length := by rw [pys_map, List.length_map]
mutual
theorem dat_lay : ∀ (n : Nat) (d : D), dat n d = true → d.py.canLay0 = true ∧ d.py.depth ≤ n
  | n, .non, h => by simp [D.py, PyData.canLay0, PyData.depth]
  | n, .bl b, h => by simp [D.py, PyData.canLay0, PyData.depth]
  | n, .int i, h => by simp [D.py, PyData.canLay0, PyData.depth]
  | n, .str x, h => by
    refine ⟨?_, by simp [D.py, PyData.depth]⟩
    simp only [D.py, PyData.canLay0]
    unfold PyData.strOk strC
    simp only [List.all_toArray, List.all_map, List.all_eq_true]
    intro c _
    simpa using char_lt c
  | 0, .tup xs, h => by simp [dat] at h
  | n + 1, .tup xs, h => by
    have z := dat_lays n xs (by simpa [dat] using h)
    simp only [D.py, PyData.canLay0, PyData.depth]
    exact ⟨z.1, by omega⟩
  | 0, .lst xs, h => by simp [dat] at h
  | n + 1, .lst xs, h => by
    have z := dat_lays n xs (by simpa [dat] using h)
    simp only [D.py, PyData.canLay0, PyData.depth]
    exact ⟨z.1, by omega⟩
  | 0, .fz xs, h => by simp [dat] at h
  | n + 1, .fz xs, h => by
    have z := dat_lays n xs (by simpa [dat] using h)
    simp only [D.py, PyData.canLay0, PyData.depth]
    exact ⟨z.1, by omega⟩
  | n, .dct _ _, h => by cases n <;> simp [dat] at h
  | n, .ins _ _ _, h => by cases n <;> simp [dat] at h
  | n, .box _, h => by cases n <;> simp [dat] at h
  | n, .loc _, h => by cases n <;> simp [dat] at h
  | n, .rf _, h => by cases n <;> simp [dat] at h
  | n, .ty _, h => by cases n <;> simp [dat] at h
theorem dat_lays : ∀ (n : Nat) (xs : List D), (∀ x ∈ xs, dat n x = true) → PyData.canLayAll0 (D.pys xs) = true ∧ PyData.depthAll (D.pys xs) ≤ n
  | n, [], _ => by simp [D.pys, PyData.canLayAll0, PyData.depthAll]
  | n, x :: xs, h => by
    have h1 := dat_lay n x (h x List.mem_cons_self)
    have h2 := dat_lays n xs fun y hy => h y (List.mem_cons_of_mem _ hy)
    simp only [D.pys, PyData.canLayAll0, PyData.depthAll, h1.1, h2.1, Bool.and_self, true_and]
    exact Nat.max_le.mpr ⟨h1.2, h2.2⟩
end
theorem dat_shaped {d : D} (h : dat 64 d = true) : SeqAt.shaped d.py = true := by
  obtain ⟨h1, h2⟩ := dat_lay 64 d h
  unfold SeqAt.shaped
  rw [h1, decide_eq_true h2]; rfl
/-- the object that a loc or a box is, if it is a list -/
def rz (fr : Fr) (hb : HB) (d : D) : D := match d with
  | .loc i => match vLst fr hb (.loc i) with
    | some xs => .lst xs
    | none => .loc i
  | .box n => match vLst fr hb (.box n) with
    | some xs => .lst xs
    | none => .box n
  | d => d
section
variable {K : PySem.W.Frag} {W : WX} {M : Addr → Prop} {m m' : List Addr} {H H' : Hp} {hb hb' : HB} {fr : Fr} {σ : St} {Q : VK}
mutual
theorem dp_of : ∀ (n : Nat) (d : D) (v : V), dat n d = true → RelD K (Bd M m) m H d v → Dp K H v d.py
  | n, .non, v, _, r => by unfold RelD at r; subst r; simp only [D.py]; exact .non
  | n, .bl b, v, _, r => by unfold RelD at r; subst r; simp only [D.py]; exact .bl b
  | n, .int i, v, _, r => by unfold RelD at r; subst r; simp only [D.py]; exact .int i
  | n, .str x, v, _, r => by unfold RelD at r; subst r; simp only [D.py]; exact .str _
  | 0, .tup xs, v, h, _ => by simp [dat] at h
  | n + 1, .tup xs, v, h, r => by
    obtain ⟨p, vs, rfl, f, r⟩ := vTup_ok (fr := []) (σ := []) r
    simp only [D.py]
    exact .tup f (dp_ofs n xs vs (by simpa [dat] using h) r)
  | 0, .lst xs, v, h, _ => by simp [dat] at h
  | n + 1, .lst xs, v, h, r => by
    unfold RelD at r
    obtain ⟨p, vs, rfl, f, r⟩ := r
    simp only [D.py]
    exact .lst (.of f.1) (dp_ofs n xs vs (by simpa [dat] using h) r)
  | 0, .fz xs, v, h, _ => by simp [dat] at h
  | n + 1, .fz xs, v, h, r => by
    obtain ⟨p, vs, rfl, f, r⟩ := vFz_ok (fr := []) (σ := []) r
    simp only [D.py]
    exact .lst f (dp_ofs n xs vs (by simpa [dat] using h) r)
  | n, .dct _ _, _, h, _ => by cases n <;> simp [dat] at h
  | n, .ins _ _ _, _, h, _ => by cases n <;> simp [dat] at h
  | n, .box _, _, h, _ => by cases n <;> simp [dat] at h
  | n, .loc _, _, h, _ => by cases n <;> simp [dat] at h
  | n, .rf _, _, h, _ => by cases n <;> simp [dat] at h
  | n, .ty _, _, h, _ => by cases n <;> simp [dat] at h
theorem dp_ofs : ∀ (n : Nat) (xs : List D) (vs : List V), (∀ x ∈ xs, dat n x = true) → RelDs K (Bd M m) m H xs vs → DpAll K H vs (D.pys xs)
  | n, [], vs, _, r => by unfold RelDs at r; subst r; simp only [D.pys]; exact .nil
  | n, x :: xs, vs, h, r => by
    obtain ⟨v, w, rfl, r1, r2⟩ := RelDs.cons_inv r
    simp only [D.pys]
    exact .cons (dp_of n x v (h x List.mem_cons_self) r1) (dp_ofs n xs w (fun y hy => h y (List.mem_cons_of_mem _ hy)) r2)
end
/-- data, also of a loc or a box -/
theorem dp_rz {n : Nat} {d : D} {v : V} (a : At K M m H hb fr σ) (r : RelT K M m H fr σ d v) (h : dat n (rz fr hb d) = true) : Dp K H v (rz fr hb d).py := by
  cases d with
  | loc i =>
    simp only [rz] at h ⊢
    cases e : vLst fr hb (.loc i) with
    | none => rw [e] at h; cases n <;> simp [dat] at h
    | some xs =>
      rw [e] at h
      dsimp only at h ⊢
      obtain ⟨p, vs, rfl, f, r'⟩ := vLst_ok a r e
      cases n with
      | zero => simp [dat] at h
      | succ n =>
        simp only [D.py]
        exact .lst (.of f) (dp_ofs n xs vs (by simpa [dat] using h) r')
  | box i =>
    simp only [rz] at h ⊢
    cases e : vLst fr hb (.box i) with
    | none => rw [e] at h; cases n <;> simp [dat] at h
    | some xs =>
      rw [e] at h
      dsimp only at h ⊢
      obtain ⟨p, vs, rfl, f, r'⟩ := vLst_ok a r e
      cases n with
      | zero => simp [dat] at h
      | succ n =>
        simp only [D.py]
        exact .lst (.of f) (dp_ofs n xs vs (by simpa [dat] using h) r')
  | _ => exact dp_of (M := M) (m := m) n _ _ h r
end
section
variable {X : Cx} {W : WX} {a b : Expr} {eva evb : Ev} {pos : Pos}
def gEq : D → D → Ev := fun x y fr hb => if dat 64 (rz fr hb x) && dat 64 (rz fr hb y) then some (.ok (.bl (deq (rz fr hb x) (rz fr hb y))), hb) else none
def gNe : D → D → Ev := fun x y fr hb => if dat 64 (rz fr hb x) && dat 64 (rz fr hb y) then some (.ok (.bl (!deq (rz fr hb x) (rz fr hb y))), hb) else none
theorem se_eq {k : Nat} (hr : Room k X.A) (ha : SE X W a eva) (hb : SE X W b evb) : SE X W (.Compare a [.Eq] [b] pos) (eOp2 gEq eva evb) := by
  refine se_cmp (op_eqD hr.units) ?_ ha hb (nobehind _ (by decide) (by decide))
  intro M m hb fr σ H x y vx vy res hb' Q at_ rx ry e c
  unfold gEq at e
  split at e
  · rename_i h
    obtain ⟨h1, h2⟩ := Bool.and_eq_true_iff.mp h
    cases e
    exact ⟨_, _, dp_rz at_ rx h1, dp_rz at_ ry h2, dat_shaped h1, dat_shaped h2, c.done at_ rBl⟩
  · cases e
theorem se_ne {k : Nat} (hr : Room k X.A) (ha : SE X W a eva) (hb : SE X W b evb) : SE X W (.Compare a [.NotEq] [b] pos) (eOp2 gNe eva evb) := by
  refine se_cmp (op_neD hr.units) ?_ ha hb (nobehind _ (by decide) (by decide))
  intro M m hb fr σ H x y vx vy res hb' Q at_ rx ry e c
  unfold gNe at e
  split at e
  · rename_i h
    obtain ⟨h1, h2⟩ := Bool.and_eq_true_iff.mp h
    cases e
    exact ⟨_, _, dp_rz at_ rx h1, dp_rz at_ ry h2, dat_shaped h1, dat_shaped h2, c.done at_ rBl⟩
  · cases e
end
end DI
set_option Elab.async false
set_option linter.all false
set_option maxRecDepth 100000
namespace DI
open PySem PySem.Spec PyProof.Rows L2

section
variable {X : Cx} {W : WX} {a b c : Expr} {eva evb evc : Ev} {pos : Pos}
/-! ### in -/
def anyEq (xs : List D) (d : D) : Bool := xs.any fun z => deq z d
def vSeq (fr : Fr) (hb : HB) : D → Option (List D)
  | .tup xs => some xs
  | .fz xs => some xs
  | d => vLst fr hb d
def gIn (neg : Bool) : D → D → Ev := fun x y fr hb => match x, y with
  | .str [ch], .str t => some (.ok (.bl (neg != decide (ch ∈ t))), hb)
  | x, y => match vSeq fr hb y with
    | some ys => if dat 64 x && ys.all (dat 63) then some (.ok (.bl (neg != anyEq ys x)), hb) else none
    | none => none
def rInT (K : PySem.W.Frag) (neg : Bool) : R2 := fun x y H Q => ∃ d ds, Dp K H x d ∧ (Dp K H y (.list ds) ∨ Dp K H y (.tuple ds)) ∧ SeqAt.shaped d = true ∧ SeqAt.shaped (.list ds) = true ∧ Q (.bl (neg != ds.any fun z => PyData.eqv z d)) H
theorem op_inT (hu : X.A.units + 65 < cLine) : OpR X (compareOp .In) (rInT X.K false) := by
  intro pins s σ H x y v u Q I rx ry h
  obtain ⟨d, ds, hd, he, sd, se, q⟩ := h
  obtain ⟨as, r1⟩ := Dp.reads I d x v hd rx
  have q' : Q (.bl (ds.any fun z => PyData.eqv z d)) H := by simpa using q
  rcases he with he | he
  · obtain ⟨bs, r2⟩ := Dp.reads I (.list ds) y u he ry
    exact SeqAt.in_list_reads r2 r1 (SeqAt.canLay_of_shaped se) (SeqAt.canLay_of_shaped sd) (room_in_shaped sd hu) ⟨.bl _, H, I, rfl, q'⟩
  · obtain ⟨bs, r2⟩ := Dp.reads I (.tuple ds) y u he ry
    exact SeqAt.in_tuple_reads r2 r1 (SeqAt.canLay_of_shaped se) (SeqAt.canLay_of_shaped sd) (room_in_shaped sd hu) ⟨.bl _, H, I, rfl, q'⟩
theorem op_notInT (hu : X.A.units + 65 < cLine) : OpR X (compareOp .NotIn) (rInT X.K true) := by
  intro pins s σ H x y v u Q I rx ry h
  obtain ⟨d, ds, hd, he, sd, se, q⟩ := h
  obtain ⟨as, r1⟩ := Dp.reads I d x v hd rx
  have q' : Q (.bl (!ds.any fun z => PyData.eqv z d)) H := by simpa using q
  rcases he with he | he
  · obtain ⟨bs, r2⟩ := Dp.reads I (.list ds) y u he ry
    exact SeqAt.notIn_list_reads r2 r1 (SeqAt.canLay_of_shaped se) (SeqAt.canLay_of_shaped sd) (room_in_shaped sd hu) ⟨.bl _, H, I, rfl, q'⟩
  · obtain ⟨bs, r2⟩ := Dp.reads I (.tuple ds) y u he ry
    exact SeqAt.notIn_tuple_reads r2 r1 (SeqAt.canLay_of_shaped se) (SeqAt.canLay_of_shaped sd) (room_in_shaped sd hu) ⟨.bl _, H, I, rfl, q'⟩
theorem anyEq_py (ys : List D) (x : D) : ((D.pys ys).any fun z => PyData.eqv z x.py) = anyEq ys x := by
  rw [pys_map, List.any_map]; rfl
def rInS (neg : Bool) : R2 := fun x y H Q => ∃ (c : Nat) (z : Str), x = .str ⟨#[c]⟩ ∧ y = .str z ∧ Q (.bl (neg != decide (c ∈ z.cps.toList))) H
theorem op_inS : OpR X (compareOp .In) (rInS false) := by
  intro pins s σ H x y v u Q I rx ry h
  obtain ⟨c, z, e1, e2, q⟩ := h
  exact op_in_sign pins s σ H x y v u Q I rx ry ⟨c, z, e1, e2, by simpa using q⟩
theorem op_notInS : OpR X (compareOp .NotIn) (rInS true) := by
  intro pins s σ H x y v u Q I rx ry h
  obtain ⟨c, z, e1, e2, q⟩ := h
  exact op_notIn_sign pins s σ H x y v u Q I rx ry ⟨c, z, e1, e2, by simpa using q⟩
theorem mem_strC {ch : Char} {t : List Char} : ch.toNat ∈ (strC t).cps.toList ↔ ch ∈ t := by
  unfold strC
  rw [List.toList_toArray, List.mem_map]
  constructor
  · rintro ⟨d, h1, h2⟩
    rw [← Char.toNat_inj h2]; exact h1
  · exact fun h => ⟨ch, h, rfl⟩
theorem snd_in (neg : Bool) : Snd2 X W (fun x y H Q => rInS neg x y H Q ∨ rInT X.K neg x y H Q) (gIn neg) := by
  intro M m hb fr σ H x y vx vy res hb' Q a rx ry e c
  unfold gIn at e
  split at e
  · rename_i ch t
    cases e
    rw [vStr_ok rx, vStr_ok ry]
    refine .inl ⟨ch.toNat, _, rfl, rfl, ?_⟩
    rw [decide_eq_decide.mpr (mem_strC (ch := ch) (t := t))]
    exact c.done a rBl
  · split at e
    · rename_i ys e1
      split at e
      · rename_i h
        cases e
        obtain ⟨h1, h2⟩ := Bool.and_eq_true_iff.mp h
        have h2' : ∀ y ∈ ys, dat 63 y = true := List.all_eq_true.mp h2
        have hx : ∃ vx', vx' = vx ∧ RelD X.K (Bd M m) m H x vx' := ⟨vx, rfl, rx.val (by cases x <;> first | rfl | (simp [dat] at h1))⟩
        obtain ⟨vx', rfl, rx'⟩ := hx
        have hl : SeqAt.shaped (.list (D.pys ys)) = true := by
          have := dat_shaped (d := .lst ys) (by simpa [dat] using h2')
          simpa [D.py] using this
        refine .inr ⟨_, D.pys ys, dp_of 64 x _ h1 rx', ?_, dat_shaped h1, hl, ?_⟩
        · unfold vSeq at e1
          split at e1
          · cases e1
            obtain ⟨p, vs, rfl, f, r⟩ := vTup_ok ry
            exact .inr (.tup f (dp_ofs 63 _ _ h2' r))
          · cases e1
            obtain ⟨p, vs, rfl, f, r⟩ := vFz_ok ry
            exact .inl (.lst f (dp_ofs 63 _ _ h2' r))
          · obtain ⟨p, vs, rfl, f, r⟩ := vLst_ok a ry e1
            exact .inl (.lst (.of f) (dp_ofs 63 _ _ h2' r))
        · rw [anyEq_py]
          exact c.done a rBl
      · cases e
    · cases e
theorem se_in {k : Nat} (hr : Room k X.A) (ha : SE X W a eva) (hb : SE X W b evb) (hm : behindInMarks .In b = false := by rfl) : SE X W (.Compare a [.In] [b] pos) (eOp2 (gIn false) eva evb) :=
  se_cmp (OpR.or op_inS (op_inT (by have := hr.un; omega))) (snd_in false) ha hb hm
theorem se_notin {k : Nat} (hr : Room k X.A) (ha : SE X W a eva) (hb : SE X W b evb) (hm : behindInMarks .NotIn b = false := by rfl) : SE X W (.Compare a [.NotIn] [b] pos) (eOp2 (gIn true) eva evb) :=
  se_cmp (OpR.or op_notInS (op_notInT (by have := hr.un; omega))) (snd_in true) ha hb hm
/-! ### order -/
inductive Ord4 where
  | lt | le | gt | ge
def ltC (a b : List Char) : Bool := decide (a.map Char.toNat < b.map Char.toNat)
def Ord4.i : Ord4 → Int → Int → Bool
  | .lt, i, j => decide (i < j)
  | .le, i, j => decide (i ≤ j)
  | .gt, i, j => decide (j < i)
  | .ge, i, j => decide (j ≤ i)
def Ord4.s : Ord4 → List Char → List Char → Bool
  | .lt, i, j => ltC i j
  | .le, i, j => !ltC j i
  | .gt, i, j => ltC j i
  | .ge, i, j => !ltC i j
def Ord4.op : Ord4 → CmpOp
  | .lt => .Lt
  | .le => .LtE
  | .gt => .Gt
  | .ge => .GtE
def gOrd (o : Ord4) : D → D → Ev := fun x y fr hb => match x, y with
  | .int i, .int j => some (.ok (.bl (o.i i j)), hb)
  | .str i, .str j => some (.ok (.bl (o.s i j)), hb)
  | _, _ => none
def rOrd (o : Ord4) : R2 := fun x y H Q => (∃ i j, x = V.int i ∧ y = V.int j ∧ Q (.bl (o.i i j)) H) ∨ (∃ i j, x = V.str (strC i) ∧ y = V.str (strC j) ∧ Q (.bl (o.s i j)) H)
theorem op_ord (o : Ord4) : OpR X (compareOp o.op) (rOrd o) := by
  intro pins s σ H x y v u Q I rx ry h
  rcases h with ⟨i, j, rfl, rfl, q⟩ | ⟨i, j, rfl, rfl, q⟩
  · cases o
    · exact op_lt pins s σ H _ _ v u Q I rx ry ⟨i, j, rfl, rfl, q⟩
    · exact op_le pins s σ H _ _ v u Q I rx ry ⟨i, j, rfl, rfl, q⟩
    · exact op_gt pins s σ H _ _ v u Q I rx ry ⟨i, j, rfl, rfl, q⟩
    · exact op_ge pins s σ H _ _ v u Q I rx ry ⟨i, j, rfl, rfl, q⟩
  · have q' := q
    cases o
    · exact op_lt_str pins s σ H _ _ v u Q I rx ry ⟨_, _, rfl, rfl, q⟩
    · exact op_le_str pins s σ H _ _ v u Q I rx ry ⟨_, _, rfl, rfl, q⟩
    · exact op_gt_str pins s σ H _ _ v u Q I rx ry ⟨_, _, rfl, rfl, q⟩
    · exact op_ge_str pins s σ H _ _ v u Q I rx ry ⟨_, _, rfl, rfl, q⟩
theorem snd_ord (o : Ord4) : Snd2 X W (rOrd o) (gOrd o) := by
  intro M m hb fr σ H x y vx vy res hb' Q a rx ry e c
  unfold gOrd at e
  split at e
  · cases e
    rw [vInt_ok rx, vInt_ok ry]
    exact .inl ⟨_, _, rfl, rfl, c.done a rBl⟩
  · cases e
    rw [vStr_ok rx, vStr_ok ry]
    exact .inr ⟨_, _, rfl, rfl, c.done a rBl⟩
  · cases e
theorem se_lt (ha : SE X W a eva) (hb : SE X W b evb) : SE X W (.Compare a [.Lt] [b] pos) (eOp2 (gOrd .lt) eva evb) := se_cmp (op_ord .lt) (snd_ord .lt) ha hb (nobehind _ (by decide) (by decide))
theorem se_le (ha : SE X W a eva) (hb : SE X W b evb) : SE X W (.Compare a [.LtE] [b] pos) (eOp2 (gOrd .le) eva evb) := se_cmp (op_ord .le) (snd_ord .le) ha hb (nobehind _ (by decide) (by decide))
theorem se_gt (ha : SE X W a eva) (hb : SE X W b evb) : SE X W (.Compare a [.Gt] [b] pos) (eOp2 (gOrd .gt) eva evb) := se_cmp (op_ord .gt) (snd_ord .gt) ha hb (nobehind _ (by decide) (by decide))
theorem se_ge (ha : SE X W a eva) (hb : SE X W b evb) : SE X W (.Compare a [.GtE] [b] pos) (eOp2 (gOrd .ge) eva evb) := se_cmp (op_ord .ge) (snd_ord .ge) ha hb (nobehind _ (by decide) (by decide))
/-- a op b op' c -/
def eChain (g g' : D → D → Ev) (a b c : Ev) : Ev := eBind a fun x => eBind b fun y => eBind (g x y) fun z => fun fr hb => match z with
  | .bl true => eBind c (fun w => g' y w) fr hb
  | .bl false => some (.ok (.bl false), hb)
  | _ => none
theorem chain_reads (o o' : Ord4) {σ : St} {H : Hp} {Q : VK} (h : tE X.K W (eChain (gOrd o) (gOrd o') eva evb evc) σ H Q) : tChain (rOrd o) (rOrd o') (tE X.K W eva) (tE X.K W evb) (tE X.K W evc) σ H Q := by
  refine tE_bind2 h fun {M m hb fr x y vx vy H2 r hb'} at_ rx ry e cc => ?_
  unfold eBind at e
  split at e
  · rename_i z hb1 e1
    have key : hb1 = hb ∧ ∃ k, z = .bl k ∧ ((∃ i j, vx = V.int i ∧ vy = V.int j ∧ k = o.i i j) ∨ (∃ i j, vx = V.str (strC i) ∧ vy = V.str (strC j) ∧ k = o.s i j)) := by
      unfold gOrd at e1
      split at e1
      · cases e1
        exact ⟨rfl, _, rfl, .inl ⟨_, _, vInt_ok rx, vInt_ok ry, rfl⟩⟩
      · cases e1
        exact ⟨rfl, _, rfl, .inr ⟨_, _, vStr_ok rx, vStr_ok ry, rfl⟩⟩
      · cases e1
    obtain ⟨rfl, k, rfl, hk⟩ := key
    have fin : ∃ k', V.bl k = V.bl k' ∧ if k' = true then tE X.K W evc σ H2 (fun w' H4 => rOrd o' vy w' H4 Q) else Q (V.bl false) H2 := by
      refine ⟨k, rfl, ?_⟩
      cases k with
      | true =>
        rw [if_pos rfl]
        exact tE_then at_ e cc fun m1 H1 hb1 d v s1 a1 rv e2 c2 => snd_ord o' a1 (ry.keep s1) rv e2 c2
      | false =>
        rw [if_neg Bool.false_ne_true]
        cases e
        exact cc.done at_ rBl
    rcases hk with ⟨i, j, rfl, rfl, ek⟩ | ⟨i, j, rfl, rfl, ek⟩
    · exact .inl ⟨i, j, rfl, rfl, by rw [← ek]; exact fin⟩
    · exact .inr ⟨i, j, rfl, rfl, by rw [← ek]; exact fin⟩
  · rename_i e1
    unfold gOrd at e1
    split at e1 <;> cases e1
  · cases e
theorem se_chain2 (o o' : Ord4) (ha : SE X W a eva) (hb : SE X W b evb) (hc : SE X W c evc) (hm : lastMarks [o.op, o'.op] [b, c] = false := by rfl) : SE X W (.Compare a [o.op, o'.op] [b, c] pos) (eChain (gOrd o) (gOrd o') eva evb evc) :=
  PE.mono (pe_chain (op_ord o) (op_ord o') ha hb hc hm) fun σ H Q h => chain_reads o o' h
/-! ### is None -/
def D.isN : D → Bool
  | .non => true
  | _ => false
def gIsN (neg : Bool) : D → Ev := fun x fr hb => some (.ok (.bl (neg != x.isN)), hb)
theorem RelT.non_iff {K : PySem.W.Frag} {M : Addr → Prop} {m : List Addr} {H : Hp} {hb : HB} {fr : Fr} {σ : St} {d : D} {v : V} (a : At K M m H hb fr σ) (r : RelT K M m H fr σ d v) : decide (v = .non) = d.isN := by
  cases d with
  | non => rw [vNon_ok r]; rfl
  | bl b => rw [vBl_ok r]; rfl
  | int b => rw [vInt_ok r]; rfl
  | str b => rw [vStr_ok r]; rfl
  | loc i =>
    obtain ⟨⟨o, ho⟩, h2⟩ := r
    obtain ⟨x, e3, p, e4, _⟩ := a.fr.2 i _ ho
    rw [e3] at h2
    cases h2
    cases e4
    rfl
  | tup xs => have r' : RelD K (Bd M m) m H (.tup xs) v := r; unfold RelD at r'; obtain ⟨_, _, e, _⟩ := r'; rw [e]; rfl
  | lst xs => have r' : RelD K (Bd M m) m H (.lst xs) v := r; unfold RelD at r'; obtain ⟨_, _, e, _⟩ := r'; rw [e]; rfl
  | fz xs => have r' : RelD K (Bd M m) m H (.fz xs) v := r; unfold RelD at r'; obtain ⟨_, _, e, _⟩ := r'; rw [e]; rfl
  | dct xs ys => have r' : RelD K (Bd M m) m H (.dct xs ys) v := r; unfold RelD at r'; obtain ⟨_, _, e, _⟩ := r'; rw [e]; rfl
  | ins c xs ys => have r' : RelD K (Bd M m) m H (.ins c xs ys) v := r; unfold RelD at r'; obtain ⟨_, _, _, e, _⟩ := r'; rw [e]; rfl
  | box n => have r' : RelD K (Bd M m) m H (.box n) v := r; unfold RelD at r'; obtain ⟨_, e, _⟩ := r'; rw [e]; rfl
  | rf n => have r' : RelD K (Bd M m) m H (.rf n) v := r; unfold RelD at r'; rw [r']; rfl
  | ty n => have r' : RelD K (Bd M m) m H (.ty n) v := r; unfold RelD at r'; rw [r']; rfl
theorem se_isN {j pos'} (ha : SE X W a eva) : SE X W (.Compare a [.Is] [.Constant .none j pos'] pos) (eBind eva (gIsN false)) := by
  refine PE.mono (pe_cmp (pc_isN ha) (nobehind _ (by decide) (by decide))) fun σ H Q h => tE_bind1 h fun {M m hb fr x vx H2 r hb'} at_ rx e c => ?_
  rw [RelT.non_iff at_ rx]
  cases e
  have := c.done at_ rBl
  simpa using this
theorem se_notN {j pos'} (ha : SE X W a eva) : SE X W (.Compare a [.IsNot] [.Constant .none j pos'] pos) (eBind eva (gIsN true)) := by
  refine PE.mono (pe_cmp (pc_notN ha) (nobehind _ (by decide) (by decide))) fun σ H Q h => tE_bind1 h fun {M m hb fr x vx H2 r hb'} at_ rx e c => ?_
  rw [RelT.non_iff at_ rx]
  cases e
  have := c.done at_ rBl
  simpa using this
/-! ### and, or, not, if -/
def eAnd (a b : Ev) : Ev := eBind a fun x => fun fr hb => match x with
  | .bl true => b fr hb
  | .bl false => some (.ok (.bl false), hb)
  | _ => none
def eOr (a b : Ev) : Ev := eBind a fun x => fun fr hb => match x with
  | .bl true => some (.ok (.bl true), hb)
  | .bl false => b fr hb
  | _ => none
def eNot (a : Ev) : Ev := eBind a fun x => fun fr hb => match x with
  | .bl b => some (.ok (.bl (!b)), hb)
  | _ => none
def eIf (t a b : Ev) : Ev := eBind t fun x => fun fr hb => match x with
  | .bl true => a fr hb
  | .bl false => b fr hb
  | _ => none
variable {rest : List Expr}
theorem se_one {op} (ha : SE X W a eva) : SE X W (.BoolOp op [a] pos) eva := pe_one ha
theorem se_and (ha : SE X W a eva) (hb : SE X W (.BoolOp .And (b :: rest) pos) evb) : SE X W (.BoolOp .And (a :: b :: rest) pos) (eAnd eva evb) := by
  refine PE.mono (pe_and ha hb) fun σ H Q h => tE_bind1 h fun {M m hb fr x vx H2 r hb'} at_ rx e c => ?_
  split at e
  · rw [vBl_ok rx]; exact ⟨true, rfl, tE_mk at_ e c⟩
  · rw [vBl_ok rx]; cases e; exact ⟨false, rfl, c.done at_ rBl⟩
  · cases e
theorem se_or (ha : SE X W a eva) (hb : SE X W (.BoolOp .Or (b :: rest) pos) evb) : SE X W (.BoolOp .Or (a :: b :: rest) pos) (eOr eva evb) := by
  refine PE.mono (pe_or ha hb) fun σ H Q h => tE_bind1 h fun {M m hb fr x vx H2 r hb'} at_ rx e c => ?_
  split at e
  · rw [vBl_ok rx]; cases e; exact ⟨true, rfl, c.done at_ rBl⟩
  · rw [vBl_ok rx]; exact ⟨false, rfl, tE_mk at_ e c⟩
  · cases e
theorem se_not (ha : SE X W a eva) : SE X W (.UnaryOp .Not a pos) (eNot eva) := by
  refine PE.mono (pe_not ha) fun σ H Q h => tE_bind1 h fun {M m hb fr x vx H2 r hb'} at_ rx e c => ?_
  split at e
  · rw [vBl_ok rx]; cases e; exact ⟨_, rfl, c.done at_ rBl⟩
  · cases e
/-- a test, in a known state -/
theorem tT_then {K : PySem.W.Frag} {M : Addr → Prop} {m : List Addr} {H : Hp} {hb hb' : HB} {fr : Fr} {σ : St} {Q : Bool → Hp → Prop} {ev : Ev} {k : D → Ev} {r : R} {Q' : VK} (a : At K M m H hb fr σ) (e : eBind ev (fun x fr hb => match x with | .bl b => k (.bl b) fr hb | _ => none) fr hb = some (r, hb')) (c : Pst K W M m H fr σ r hb' Q')
    (hR : ∀ m1 H1 hb1 b, Stp K M m H m1 H1 hb1 → At K M m1 H1 hb1 fr σ → k (.bl b) fr hb1 = some (r, hb') → Pst K W M m1 H1 fr σ r hb' Q' → Q b H1) : tT K W (eB ev) σ H Q := by
  unfold eBind at e
  split at e
  · rename_i d hb1 e1
    dsimp only at e
    split at e
    · rename_i b
      refine ⟨M, m, hb, fr, .ok (.bl b), hb1, a.wd, a.fr, by simp [eB, eBind, e1], fun m1 H1 s1 => ⟨b, rfl, ?_⟩⟩
      exact hR m1 H1 hb1 b s1 (a.step s1) e (c.step s1)
    · cases e
  · rename_i x hb1 e1
    cases e
    exact ⟨M, m, hb, fr, .exn x, _, a.wd, a.fr, by simp [eB, eBind, e1], fun m1 H1 s1 => c m1 H1 s1⟩
  · cases e
end
end DI
set_option Elab.async false
set_option linter.all false
set_option maxRecDepth 100000
namespace DI
open PySem PySem.Spec PyProof.Rows L2

theorem ift {A B : Prop} (h : A) : if true = true then A else B := by rw [if_pos rfl]; exact h
theorem iff_ {A B : Prop} (h : B) : if false = true then A else B := by rw [if_neg Bool.false_ne_true]; exact h
section
variable {X : Cx} {W : WX} {a b c : Expr} {eva evb evc : Ev} {pos : Pos} {rest : List Expr}
/-! ### tests -/
def PstT (K : PySem.W.Frag) (W : WX) (M : Addr → Prop) (m : List Addr) (H : Hp) (σ : St) (r : R) (hb' : HB) (Q : Bool → Hp → Prop) : Prop := ∀ m' H', Stp K M m H m' H' hb' → match r with
  | .ok d => ∃ b, d = .bl b ∧ Q b H'
  | .exn x => ∀ C dd, RelX K (Bd M m') m' H' x C dd → W C dd σ H'
theorem PstT.step {K : PySem.W.Frag} {W : WX} {M : Addr → Prop} {m m1 : List Addr} {H H1 : Hp} {σ : St} {r : R} {hb' hb1 : HB} {Q : Bool → Hp → Prop} (c : PstT K W M m H σ r hb' Q) (s : Stp K M m H m1 H1 hb1) : PstT K W M m1 H1 σ r hb' Q := fun m' H' s' => c m' H' (s.trans s')
/-- the wish of a test as one of a value -/
theorem PstT.v {K : PySem.W.Frag} {W : WX} {M : Addr → Prop} {m : List Addr} {H : Hp} {fr : Fr} {σ : St} {r : R} {hb' : HB} {Q : Bool → Hp → Prop} (c : PstT K W M m H σ r hb' Q) : Pst K W M m H fr σ r hb' (fun v H' => ∃ k, v = .bl k ∧ Q k H') := fun m' H' s => by
  have z := c m' H' s
  cases r with
  | ok d =>
    obtain ⟨b, rfl, q⟩ := z
    exact fun v rv => ⟨b, vBl_ok rv, q⟩
  | exn x => exact z
theorem tT_un {K : PySem.W.Frag} {W : WX} {ev : Ev} {σ : St} {H : Hp} {Q : Bool → Hp → Prop} (h : tT K W ev σ H Q) : ∃ M m hb fr r hb', At K M m H hb fr σ ∧ ev fr hb = some (r, hb') ∧ PstT K W M m H σ r hb' Q := by
  obtain ⟨M, m, hb, fr, r, hb', w, f, e, c⟩ := h
  exact ⟨M, m, hb, fr, r, hb', ⟨w, f⟩, e, c⟩
theorem tT_mk {K : PySem.W.Frag} {W : WX} {M : Addr → Prop} {m : List Addr} {H : Hp} {hb hb' : HB} {fr : Fr} {σ : St} {r : R} {ev : Ev} {Q : Bool → Hp → Prop} (a : At K M m H hb fr σ) (e : ev fr hb = some (r, hb')) (c : PstT K W M m H σ r hb' Q) : tT K W ev σ H Q := ⟨M, m, hb, fr, r, hb', a.wd, a.fr, e, c⟩
/-- a test by the value's rule -/
theorem tT_v {K : PySem.W.Frag} {W : WX} {ev : Ev} {σ : St} {H : Hp} {Q : Bool → Hp → Prop} (h : tT K W ev σ H Q) : tE K W ev σ H (fun v H' => ∃ k, v = .bl k ∧ Q k H') := by
  obtain ⟨M, m, hb, fr, r, hb', a, e, c⟩ := tT_un h
  exact tE_mk a e c.v
theorem st_cmp {op : CmpOp} {r : R2} {g : D → D → Ev} (ho : OpR X (compareOp op) r) (hs : Snd2 X W r g) (ha : SE X W a eva) (hb : SE X W b evb) (hm : behindInMarks op b = false) : ST X W (.Compare a [op] [b] pos) (eOp2 g eva evb) :=
  PT.mono (pt_cmpR ho ha hb hm) fun _ _ _ h => tE_bind2 (tT_v h) fun at_ rx ry e c => hs at_ rx ry e c
theorem snd_eq {k : Nat} : Snd2 X W (rEqD X.K) gEq := by
  intro M m hb fr σ H x y vx vy res hb' Q at_ rx ry e c
  unfold gEq at e
  split at e
  · rename_i h
    obtain ⟨h1, h2⟩ := Bool.and_eq_true_iff.mp h
    cases e
    exact ⟨_, _, dp_rz at_ rx h1, dp_rz at_ ry h2, dat_shaped h1, dat_shaped h2, c.done at_ rBl⟩
  · cases e
theorem snd_ne {k : Nat} : Snd2 X W (rNeD X.K) gNe := by
  intro M m hb fr σ H x y vx vy res hb' Q at_ rx ry e c
  unfold gNe at e
  split at e
  · rename_i h
    obtain ⟨h1, h2⟩ := Bool.and_eq_true_iff.mp h
    cases e
    exact ⟨_, _, dp_rz at_ rx h1, dp_rz at_ ry h2, dat_shaped h1, dat_shaped h2, c.done at_ rBl⟩
  · cases e
theorem st_eq {k : Nat} (hr : Room k X.A) (ha : SE X W a eva) (hb : SE X W b evb) : ST X W (.Compare a [.Eq] [b] pos) (eOp2 gEq eva evb) := st_cmp (op_eqD hr.units) (snd_eq (k := 0)) ha hb (nobehind _ (by decide) (by decide))
theorem st_ne {k : Nat} (hr : Room k X.A) (ha : SE X W a eva) (hb : SE X W b evb) : ST X W (.Compare a [.NotEq] [b] pos) (eOp2 gNe eva evb) := st_cmp (op_neD hr.units) (snd_ne (k := 0)) ha hb (nobehind _ (by decide) (by decide))
theorem st_lt (ha : SE X W a eva) (hb : SE X W b evb) : ST X W (.Compare a [.Lt] [b] pos) (eOp2 (gOrd .lt) eva evb) := st_cmp (op_ord .lt) (snd_ord .lt) ha hb (nobehind _ (by decide) (by decide))
theorem st_le (ha : SE X W a eva) (hb : SE X W b evb) : ST X W (.Compare a [.LtE] [b] pos) (eOp2 (gOrd .le) eva evb) := st_cmp (op_ord .le) (snd_ord .le) ha hb (nobehind _ (by decide) (by decide))
theorem st_gt (ha : SE X W a eva) (hb : SE X W b evb) : ST X W (.Compare a [.Gt] [b] pos) (eOp2 (gOrd .gt) eva evb) := st_cmp (op_ord .gt) (snd_ord .gt) ha hb (nobehind _ (by decide) (by decide))
theorem st_ge (ha : SE X W a eva) (hb : SE X W b evb) : ST X W (.Compare a [.GtE] [b] pos) (eOp2 (gOrd .ge) eva evb) := st_cmp (op_ord .ge) (snd_ord .ge) ha hb (nobehind _ (by decide) (by decide))
theorem st_in {k : Nat} (hr : Room k X.A) (ha : SE X W a eva) (hb : SE X W b evb) (hm : behindInMarks .In b = false := by rfl) : ST X W (.Compare a [.In] [b] pos) (eOp2 (gIn false) eva evb) :=
  st_cmp (OpR.or op_inS (op_inT (by have := hr.un; omega))) (snd_in false) ha hb hm
theorem st_notin {k : Nat} (hr : Room k X.A) (ha : SE X W a eva) (hb : SE X W b evb) (hm : behindInMarks .NotIn b = false := by rfl) : ST X W (.Compare a [.NotIn] [b] pos) (eOp2 (gIn true) eva evb) :=
  st_cmp (OpR.or op_notInS (op_notInT (by have := hr.un; omega))) (snd_in true) ha hb hm
theorem st_isN {j pos'} (ha : SE X W a eva) : ST X W (.Compare a [.Is] [.Constant .none j pos'] pos) (eBind eva (gIsN false)) := by
  refine PT.mono (pt_cmp (pc_isN ha) (nobehind _ (by decide) (by decide))) fun σ H Q h => tE_bind1 (tT_v h) fun {M m hb fr x vx H2 r hb'} at_ rx e c => ?_
  cases e
  have := c.done at_ rBl
  rw [RelT.non_iff at_ rx]
  simpa using this
theorem st_notN {j pos'} (ha : SE X W a eva) : ST X W (.Compare a [.IsNot] [.Constant .none j pos'] pos) (eBind eva (gIsN true)) := by
  refine PT.mono (pt_cmp (pc_notN ha) (nobehind _ (by decide) (by decide))) fun σ H Q h => tE_bind1 (tT_v h) fun {M m hb fr x vx H2 r hb'} at_ rx e c => ?_
  cases e
  have := c.done at_ rBl
  rw [RelT.non_iff at_ rx]
  simpa using this
/-- a value that is a bool, as a test -/
theorem st_v {e : Expr} {ev : Ev} (h : SE X W e ev) (he : ∀ whole, isTrue e X.env whole = (do let v ← whole; standAt e.pos; holding [v] (truthy v)) := by intro _; rfl) : ST X W e ev :=
  PT.mono (pt_val h he) fun _ _ _ hq => tT_v hq
/-- tests in chains: each evaluator's value a bool -/
abbrev SW (X : Cx) (W : WX) (e : Expr) (ev : Ev) : Prop := PW X e (tT X.K W ev)
theorem PW.mono {e : Expr} {t t' : TT} (h : PW X e t) (i : ∀ σ H Q, t' σ H Q → t σ H Q) : PW X e t' := ⟨fun w pins s σ H Q I hq => h.run w pins s σ H Q I (i σ H Q hq)⟩
theorem tT_and {K : PySem.W.Frag} {σ : St} {H : Hp} {Q : Bool → Hp → Prop} (h : tT K W (eAnd eva evb) σ H Q) : tAnd (tT K W eva) (tT K W evb) σ H Q := by
  obtain ⟨M, m, hb, fr, r, hb', a, e, c⟩ := tT_un h
  unfold eAnd eBind at e
  split at e
  · rename_i d hb1 e1
    refine ⟨M, m, hb, fr, .ok d, hb1, a.wd, a.fr, e1, fun m1 H1 s1 => ?_⟩
    dsimp only at e
    split at e
    · refine ⟨true, rfl, ?_⟩
      refine ift ?_
      exact tT_mk (a.step s1) e (c.step s1)
    · refine ⟨false, rfl, ?_⟩
      refine iff_ ?_
      cases e
      obtain ⟨b, eb, q⟩ := c m1 H1 s1
      cases eb
      exact q
    · cases e
  · rename_i x hb1 e1
    cases e
    exact ⟨M, m, hb, fr, .exn _, _, a.wd, a.fr, e1, fun m1 H1 s1 => c m1 H1 s1⟩
  · cases e
theorem tT_or {K : PySem.W.Frag} {σ : St} {H : Hp} {Q : Bool → Hp → Prop} (h : tT K W (eOr eva evb) σ H Q) : tOr (tT K W eva) (tT K W evb) σ H Q := by
  obtain ⟨M, m, hb, fr, r, hb', a, e, c⟩ := tT_un h
  unfold eOr eBind at e
  split at e
  · rename_i d hb1 e1
    refine ⟨M, m, hb, fr, .ok d, hb1, a.wd, a.fr, e1, fun m1 H1 s1 => ?_⟩
    dsimp only at e
    split at e
    · refine ⟨true, rfl, ?_⟩
      refine ift ?_
      cases e
      obtain ⟨b, eb, q⟩ := c m1 H1 s1
      cases eb
      exact q
    · refine ⟨false, rfl, ?_⟩
      refine iff_ ?_
      exact tT_mk (a.step s1) e (c.step s1)
    · cases e
  · rename_i x hb1 e1
    cases e
    exact ⟨M, m, hb, fr, .exn _, _, a.wd, a.fr, e1, fun m1 H1 s1 => c m1 H1 s1⟩
  · cases e
theorem sw_and1 (ha : ST X W a eva) : SW X W (.BoolOp .And [a] pos) eva := pw_and1 ha
theorem sw_or1 (ha : ST X W a eva) : SW X W (.BoolOp .Or [a] pos) eva := pw_or1 ha
theorem sw_and (ha : ST X W a eva) (hb : SW X W (.BoolOp .And (b :: rest) pos) evb) : SW X W (.BoolOp .And (a :: b :: rest) pos) (eAnd eva evb) := PW.mono (pw_and ha hb) fun _ _ _ h => tT_and h
theorem sw_or (ha : ST X W a eva) (hb : SW X W (.BoolOp .Or (b :: rest) pos) evb) : SW X W (.BoolOp .Or (a :: b :: rest) pos) (eOr eva evb) := PW.mono (pw_or ha hb) fun _ _ _ h => tT_or h
theorem st_w {e : Expr} {ev : Ev} (h : SW X W e ev) : ST X W e ev := h.pt
theorem st_not (ha : ST X W a eva) : ST X W (.UnaryOp .Not a pos) (eNot eva) := by
  refine PT.mono (pt_not ha) fun σ H Q h => ?_
  obtain ⟨M, m, hb, fr, r, hb', a, e, c⟩ := tT_un h
  unfold eNot eBind at e
  split at e
  · rename_i d hb1 e1
    refine ⟨M, m, hb, fr, .ok d, hb1, a.wd, a.fr, e1, fun m1 H1 s1 => ?_⟩
    dsimp only at e
    split at e
    · cases e
      obtain ⟨b, eb, q⟩ := c m1 H1 s1
      cases eb
      exact ⟨_, rfl, q⟩
    · cases e
  · rename_i x hb1 e1
    cases e
    exact ⟨M, m, hb, fr, .exn _, _, a.wd, a.fr, e1, fun m1 H1 s1 => c m1 H1 s1⟩
  · cases e
theorem st_chain2 (o o' : Ord4) (ha : SE X W a eva) (hb : SE X W b evb) (hc : SE X W c evc) (hm : lastMarks [o.op, o'.op] [b, c] = false := by rfl) :
    ST X W (.Compare a [o.op, o'.op] [b, c] pos) (eChain (gOrd o) (gOrd o') eva evb evc) := PT.mono (pt_chain (op_ord o) (op_ord o') ha hb hc hm) fun _ _ _ h => chain_reads o o' (tT_v h)
theorem se_if {t : Expr} {evt : Ev} (ht : ST X W t evt) (ha : SE X W a eva) (hb : SE X W b evb) : SE X W (.IfExp t a b pos) (eIf evt eva evb) := by
  refine PE.mono (pe_ifExp ht ha hb) fun σ H Q h => ?_
  obtain ⟨M, m, hb, fr, r, hb', a, e, c⟩ := tE_un h
  unfold eIf eBind at e
  show tT X.K W evt σ H fun c H1 => if c = true then tE X.K W eva σ H1 Q else tE X.K W evb σ H1 Q
  split at e
  · rename_i d hb1 e1
    refine ⟨M, m, hb, fr, .ok d, hb1, a.wd, a.fr, e1, fun m1 H1 s1 => ?_⟩
    dsimp only at e
    split at e
    · refine ⟨true, rfl, ?_⟩
      refine ift ?_
      exact tE_mk (a.step s1) e (c.step s1)
    · refine ⟨false, rfl, ?_⟩
      refine iff_ ?_
      exact tE_mk (a.step s1) e (c.step s1)
    · cases e
  · rename_i x hb1 e1
    cases e
    exact ⟨M, m, hb, fr, .exn _, _, a.wd, a.fr, e1, fun m1 H1 s1 => c m1 H1 s1⟩
  · cases e
end
end DI
set_option Elab.async false
set_option linter.all false
set_option maxRecDepth 100000
namespace DI
open PySem PySem.Spec PyProof.Rows L2

section
variable {X : Cx} {W : WX} {a b c : Expr} {eva evb evc : Ev} {pos : Pos} {rest : List Expr}
theorem RelDs.len_eq {K : PySem.W.Frag} {B : Addr → Prop} {m : List Addr} {H : Hp} {ds : List D} {vs : List V} (h : RelDs K B m H ds vs) : vs.length = ds.length := h.length.symm
theorem atI_rel {K : PySem.W.Frag} {B : Addr → Prop} {m : List Addr} {H : Hp} {ds : List D} {vs : List V} {i : Int} {d : D} (h : RelDs K B m H ds vs) (e : atI ds i = some d) : ∃ v, atI vs i = some v ∧ RelD K B m H d v := by
  unfold atI at e ⊢
  rw [h.len_eq]
  cases q : ixN ds.length i with
  | none => rw [q] at e; cases e
  | some j =>
    rw [q] at e
    obtain ⟨v, e1, r⟩ := h.get (i := j) (by simpa using e)
    exact ⟨v, by simpa using e1, r⟩
theorem atI_map {α β : Type} (f : α → β) (xs : List α) (i : Int) : atI (xs.map f) i = (atI xs i).map f := by
  unfold atI
  rw [List.length_map]
  cases ixN xs.length i <;> simp
/-! ### x[i] -/
def gIx : D → D → Ev := fun x y fr hb => match x, y with
  | .str s, .int i => if s.length ≤ szL then (match atI s i with
    | some ch => some (.ok (.str [ch]), hb)
    | none => none) else none
  | x, .int i => match vSeq fr hb x with
    | some xs => (match atI xs i with
      | some d => some (.ok d, hb)
      | none => none)
    | none => none
  | _, _ => none
theorem snd_ix : Snd2 X W (fun x y H Q => rIxL X.K x y H Q ∨ rIxT X.K x y H Q ∨ rIxS x y H Q) gIx := by
  intro M m hb fr σ H x y vx vy res hb' Q at_ rx ry e c
  unfold gIx at e
  split at e
  · split at e
    · rename_i hz
      split at e
      · rename_i ch e1
        cases e
        rw [vStr_ok rx, vInt_ok ry]
        refine .inr (.inr ⟨_, _, ch.toNat, rfl, rfl, by rw [strC_len, ← szL_eq]; exact hz, ?_, ?_⟩)
        · unfold strC
          rw [List.toList_toArray, atI_map, e1]; rfl
        · have : ({ cps := #[ch.toNat] } : Str) = strC [ch] := rfl
          rw [this]
          exact c.done at_ rStr
      · cases e
    · cases e
  · split at e
    · rename_i xs e1
      split at e
      · rename_i d e2
        cases e
        rw [vInt_ok ry]
        unfold vSeq at e1
        split at e1
        · cases e1
          obtain ⟨p, vs, rfl, f, r⟩ := vTup_ok rx
          obtain ⟨v, e3, rv⟩ := atI_rel r e2
          exact .inr (.inl ⟨p, vs, _, v, rfl, rfl, f, e3, c.done at_ rv.t⟩)
        · cases e1
          obtain ⟨p, vs, rfl, f, r⟩ := vFz_ok rx
          obtain ⟨v, e3, rv⟩ := atI_rel r e2
          exact .inl ⟨p, vs, _, v, rfl, rfl, f, e3, c.done at_ rv.t⟩
        · obtain ⟨p, vs, rfl, f, r⟩ := vLst_ok at_ rx e1
          obtain ⟨v, e3, rv⟩ := atI_rel r e2
          exact .inl ⟨p, vs, _, v, rfl, rfl, .of f, e3, c.done at_ rv.t⟩
      · cases e
    · cases e
  · cases e
theorem se_idx (ha : SE X W a eva) (hb : SE X W b evb) (hp : PlainIx b := by intro _ _; rfl) : SE X W (.Subscript a b pos) (eOp2 gIx eva evb) :=
  se_ix (IxR.or ix_list (IxR.or ix_tup ix_str)) snd_ix ha hb hp
/-! ### slices -/
def cutL {α : Type} (xs : List α) (lo hi : Option Int) : List α := (xs.drop (HT.sIx xs.length 0 lo)).take (HT.sIx xs.length xs.length hi - HT.sIx xs.length 0 lo)
theorem cutV_eq (xs : List V) (lo hi : Option Int) : cutV xs lo hi = cutL xs lo hi := rfl
theorem cutL_rel {K : PySem.W.Frag} {B : Addr → Prop} {m : List Addr} {H : Hp} {ds : List D} {vs : List V} {lo hi : Option Int} (h : RelDs K B m H ds vs) : RelDs K B m H (cutL ds lo hi) (cutL vs lo hi) := by
  unfold cutL
  rw [h.len_eq]
  exact (h.drop _).take _
theorem cutL_map {α β : Type} (f : α → β) (xs : List α) (lo hi : Option Int) : cutL (xs.map f) lo hi = (cutL xs lo hi).map f := by
  unfold cutL
  rw [List.length_map, List.map_take, List.map_drop]
theorem cutS_eq (z : List Char) (lo hi : Option Int) : cutS (strC z) lo hi = strC (cutL z lo hi) := by
  unfold cutS
  rw [strC_len]
  unfold strC
  rw [List.toList_toArray, ← cutL_map]
  unfold cutL
  rw [List.length_map]
abbrev Eo := Fr → HB → Option ((Option Int ⊕ Xn) × HB)
def oNone : Eo := fun _ hb => some (.inl none, hb)
def oSome (ev : Ev) : Eo := fun fr hb => match ev fr hb with
  | some (.ok (.int i), hb1) => some (.inl (some i), hb1)
  | some (.exn x, hb1) => some (.inr x, hb1)
  | _ => none
def tO (K : PySem.W.Frag) (W : WX) (ev : Eo) : TO := fun σ H Q => ∃ (M : Addr → Prop) (m : List Addr) (hb : HB) (fr : Fr) (r : Option Int ⊕ Xn) (hb' : HB), Wd K M m H hb ∧ FrR K M m H fr σ ∧ ev fr hb = some (r, hb') ∧
  ∀ m' H', Stp K M m H m' H' hb' → match r with
    | .inl d => Q d H'
    | .inr x => ∀ C dd, RelX K (Bd M m') m' H' x C dd → W C dd σ H'
abbrev SO (X : Cx) (W : WX) (e : Option Expr) (ev : Eo) : Prop := PO X e (tO X.K W ev)
theorem PO.mono {e : Option Expr} {t t' : TO} (h : PO X e t) (i : ∀ σ H Q, t' σ H Q → t σ H Q) : PO X e t' := ⟨fun pins s σ H Q I hq => h.run pins s σ H Q I (i σ H Q hq)⟩
theorem so_none : SO X W none oNone := PO.mono po_none fun σ H Q h => by
  obtain ⟨M, m, hb, fr, r, hb', w, f, e, c⟩ := h
  cases e
  exact c m H (Stp.refl w)
theorem so_some (ha : SE X W a eva) : SO X W (some a) (oSome eva) := PO.mono (po_some ha) fun σ H Q h => by
  obtain ⟨M, m, hb, fr, r, hb', w, f, e, c⟩ := h
  unfold oSome at e
  split at e
  · rename_i i hb1 e1
    cases e
    exact ⟨M, m, hb, fr, .ok (.int i), _, w, f, e1, fun m1 H1 s1 v rv => ⟨i, vInt_ok rv, c m1 H1 s1⟩⟩
  · rename_i x hb1 e1
    cases e
    exact ⟨M, m, hb, fr, .exn x, _, w, f, e1, fun m1 H1 s1 => c m1 H1 s1⟩
  · cases e
def gCut (lo hi : Option Int) : D → Ev := fun x fr hb => match x with
  | .str s => if s.length ≤ szL then some (.ok (.str (cutL s lo hi)), hb) else none
  | .tup xs => some (.ok (.tup (cutL xs lo hi)), hb)
  | .fz xs => some (.ok (.lst (cutL xs lo hi)), hb)
  | x => match vLst fr hb x with
    | some xs => some (.ok (.lst (cutL xs lo hi)), hb)
    | none => none
def eCut (a : Ev) (lo hi : Eo) : Ev := eBind a fun x => fun fr hb => match lo fr hb with
  | some (.inl l, hb1) => (match hi fr hb1 with
    | some (.inl h, hb2) => gCut l h x fr hb2
    | some (.inr x, hb2) => some (.exn x, hb2)
    | none => none)
  | some (.inr x, hb1) => some (.exn x, hb1)
  | none => none
theorem cut_whole {xs : List V} {lo hi : Option Int} (h : HT.sIx xs.length 0 lo = 0 ∧ HT.sIx xs.length xs.length hi = xs.length) : cutL xs lo hi = xs := by
  unfold cutL
  rw [h.1, h.2]
  simp
theorem cut_wholeD {xs : List D} {lo hi : Option Int} (h : HT.sIx xs.length 0 lo = 0 ∧ HT.sIx xs.length xs.length hi = xs.length) : cutL xs lo hi = xs := by
  unfold cutL
  rw [h.1, h.2]
  simp
theorem se_slice {lo hi : Option Expr} {evl evh : Eo} {p2 : Pos} (ha : SE X W a eva) (hl : SO X W lo evl) (hh : SO X W hi evh) : SE X W (.Subscript a (.Slice lo hi none p2) pos) (eCut eva evl evh) := by
  refine PE.mono (pe_slice (SlR.or sl_list (SlR.or sl_tupA sl_str)) ha hl hh) fun σ H Q h => ?_
  show tE X.K W eva σ H fun x H1 => tO X.K W evl σ H1 fun l H2 => tO X.K W evh σ H2 fun u H3 => rSlL X.K x l u H3 Q ∨ rSlA X.K x l u H3 Q ∨ rSlS x l u H3 Q
  obtain ⟨M, m, hb, fr, r, hb', at_, e, c⟩ := tE_un h
  refine tE_then at_ e c fun m1 H1 hb1 x v s1 a1 rx e1 c1 => ?_
  split at e1
  · rename_i l hb2 q1
    refine ⟨M, m1, hb1, fr, .inl l, hb2, a1.wd, a1.fr, q1, fun m2 H2 s2 => ?_⟩
    split at e1
    · rename_i u hb3 q2
      refine ⟨M, m2, hb2, fr, .inl u, hb3, s2.wd, (a1.step s2).fr, q2, fun m3 H3 s3 => ?_⟩
      have a3 := (a1.step s2).step s3
      have rx3 := (rx.keep s2).keep s3
      have c3 := (c1.step s2).step s3
      unfold gCut at e1
      split at e1
      · split at e1
        · rename_i hz
          cases e1
          rw [vStr_ok rx3]
          refine .inr (.inr ⟨_, rfl, by rw [strC_len, ← szL_eq]; exact hz, ?_⟩)
          rw [cutS_eq]
          exact c3.done a3 rStr
        · cases e1
      · cases e1
        obtain ⟨p, vs, rfl, f, r⟩ := vTup_ok rx3
        refine .inr (.inl ⟨p, vs, rfl, f, fun hw => ?_, fun hw p hp => ?_⟩)
        · have hw' := hw
          rw [r.len_eq] at hw'
          rw [cut_wholeD hw'] at c3
          exact c3.done a3 rx3
        · exact c3.tup a3 hp (cutL_rel r)
      · cases e1
        obtain ⟨p, vs, rfl, f, r⟩ := vFz_ok rx3
        exact .inl ⟨p, vs, rfl, f, fun p hp => c3.lst a3 hp (cutL_rel r)⟩
      · split at e1
        · rename_i xs q3
          cases e1
          obtain ⟨p, vs, rfl, f, r⟩ := vLst_ok a3 rx3 q3
          exact .inl ⟨p, vs, rfl, .of f, fun p hp => c3.lst a3 hp (cutL_rel r)⟩
        · cases e1
    · rename_i x' hb3 q2
      cases e1
      exact ⟨M, m2, hb2, fr, .inr x', _, s2.wd, (a1.step s2).fr, q2, fun m3 H3 s3 => (c1.step s2) m3 H3 s3⟩
    · cases e1
  · rename_i x' hb2 q1
    cases e1
    exact ⟨M, m1, hb1, fr, .inr x', _, a1.wd, a1.fr, q1, fun m2 H2 s2 => c1 m2 H2 s2⟩
  · cases e1
/-! ### displays -/
def eTup (es : Evs) : Ev := fun fr hb => match es fr hb with
  | some (.inl ds, hb1) => if allVal ds && decide (ds.length ≤ szL) then some (.ok (.tup ds), hb1) else none
  | some (.inr x, hb1) => some (.exn x, hb1)
  | none => none
def eLst (es : Evs) : Ev := fun fr hb => match es fr hb with
  | some (.inl ds, hb1) => if allVal ds && decide (ds.length ≤ szL) then some (.ok (.lst ds), hb1) else none
  | some (.inr x, hb1) => some (.exn x, hb1)
  | none => none
theorem RelTs.len {K : PySem.W.Frag} {M : Addr → Prop} {m : List Addr} {H : Hp} {fr : Fr} {σ : St} : ∀ {ds : List D} {vs : List V}, RelTs K M m H fr σ ds vs → vs.length = ds.length
  | [], vs, r => by
    have r' : vs = [] := r
    subst r'; rfl
  | d :: ds, vs, r => by
    obtain ⟨v, w, e, h1, h2⟩ := r
    subst e
    simp [RelTs.len h2]
theorem se_tup {es : List Expr} {evs : Evs} {k : Nat} (h : SEs X W es evs) : SE X W (.Tuple es k pos) (eTup evs) := by
  refine PE.mono (pe_tup h) fun σ H Q hq => ?_
  obtain ⟨M, m, hb, fr, r, hb', at_, e, c⟩ := tE_un hq
  unfold eTup at e
  split at e
  · rename_i ds hb1 e1
    split at e
    · rename_i hz
      obtain ⟨h1, h2⟩ := Bool.and_eq_true_iff.mp hz
      cases e
      refine ⟨M, m, hb, fr, .inl ds, _, at_.wd, at_.fr, e1, fun m1 H1 s1 vs rv => ⟨?_, fun p hp => ?_⟩⟩
      · rw [rv.len, ← szL_eq]; exact of_decide_eq_true h2
      · exact (c.step s1).tup (at_.step s1) hp (rv.val h1)
    · cases e
  · rename_i x hb1 e1
    cases e
    exact ⟨M, m, hb, fr, .inr x, _, at_.wd, at_.fr, e1, fun m1 H1 s1 => c m1 H1 s1⟩
  · cases e
theorem se_lst {es : List Expr} {evs : Evs} (h : SEs X W es evs) : SE X W (.List es pos) (eLst evs) := by
  refine PE.mono (pe_lst h) fun σ H Q hq => ?_
  obtain ⟨M, m, hb, fr, r, hb', at_, e, c⟩ := tE_un hq
  unfold eLst at e
  split at e
  · rename_i ds hb1 e1
    split at e
    · rename_i hz
      obtain ⟨h1, h2⟩ := Bool.and_eq_true_iff.mp hz
      cases e
      refine ⟨M, m, hb, fr, .inl ds, _, at_.wd, at_.fr, e1, fun m1 H1 s1 vs rv => ⟨?_, fun p hp => ?_⟩⟩
      · rw [rv.len, ← szL_eq]; exact of_decide_eq_true h2
      · exact (c.step s1).lst (at_.step s1) hp (rv.val h1)
    · cases e
  · rename_i x hb1 e1
    cases e
    exact ⟨M, m, hb, fr, .inr x, _, at_.wd, at_.fr, e1, fun m1 H1 s1 => c m1 H1 s1⟩
  · cases e
/-! ### built-ins by values -/
def SndL (X : Cx) (W : WX) (r : List V → Hp → VK → Prop) (g : List D → Ev) : Prop := ∀ {M : Addr → Prop} {m : List Addr} {hb : HB} {fr : Fr} {σ : St} {H : Hp} {ds : List D} {vs : List V} {res : R} {hb' : HB} {Q : VK},
  At X.K M m H hb fr σ → RelTs X.K M m H fr σ ds vs → g ds fr hb = some (res, hb') → Pst X.K W M m H fr σ res hb' Q → r vs H Q
def eL (g : List D → Ev) (es : Evs) : Ev := fun fr hb => match es fr hb with
  | some (.inl ds, hb1) => g ds fr hb1
  | some (.inr x, hb1) => some (.exn x, hb1)
  | none => none
theorem tCB_of {r : List V → Hp → VK → Prop} {g : List D → Ev} {evs : Evs} (hs : SndL X W r g) {σ : St} {H : Hp} {Q : VK} (h : tE X.K W (eL g evs) σ H Q) : tCB r (tEs X.K W evs) σ H Q := by
  obtain ⟨M, m, hb, fr, r, hb', at_, e, c⟩ := tE_un h
  unfold eL at e
  split at e
  · rename_i ds hb1 e1
    exact ⟨M, m, hb, fr, .inl ds, _, at_.wd, at_.fr, e1, fun m1 H1 s1 vs rv => hs (at_.step s1) rv e (c.step s1)⟩
  · rename_i x hb1 e1
    cases e
    exact ⟨M, m, hb, fr, .inr x, _, at_.wd, at_.fr, e1, fun m1 H1 s1 => c m1 H1 s1⟩
  · cases e
theorem se_callB {r : List V → Hp → VK → Prop} {g : List D → Ev} {id : String} {x : Str} {p : Pos} {e : Expr} {es : List Expr} {evs : Evs} (hc : CallR X (.builtin id) r) (hs : SndL X W r g) (hg : Gl X x) (hm : X.mg x = none) (hv : bootBuiltins x = some (.builtin id)) (ha : SEs X W (e :: es) evs)
    (hn : x ≠ "__name__" := by decide) (hdb : (x == ("__debug__" : Str)) = false := by decide) (he : starEach (e :: es) X.env = (false, eval e X.env) :: starEach es X.env := by rfl) (hpl : (backTo pos (starEach es X.env)).any (·.1) = false := by rfl) :
    SE X W (.Call (.Name x p) (e :: es) [] pos) (eL g evs) := PE.mono (pe_callB hc hg hm hv ha hn hdb he hpl) fun _ _ _ h => tCB_of hs h
theorem se_callTy {r : List V → Hp → VK → Prop} {g : List D → Ev} {T : String} {x : Str} {p : Pos} {e : Expr} {es : List Expr} {evs : Evs} (hc : CallR X (.type T) r) (hs : SndL X W r g) (hg : Gl X x) (hm : X.mg x = none) (hv : bootBuiltins x = some (.type T)) (ha : SEs X W (e :: es) evs)
    (hn : x ≠ "__name__" := by decide) (hdb : (x == ("__debug__" : Str)) = false := by decide) (he : starEach (e :: es) X.env = (false, eval e X.env) :: starEach es X.env := by rfl) (hpl : (backTo pos (starEach es X.env)).any (·.1) = false := by rfl) :
    SE X W (.Call (.Name x p) (e :: es) [] pos) (eL g evs) := PE.mono (pe_callTy hc hg hm hv ha hn hdb he hpl) fun _ _ _ h => tCB_of hs h
theorem RelTs.one {K : PySem.W.Frag} {M : Addr → Prop} {m : List Addr} {H : Hp} {fr : Fr} {σ : St} {d : D} {vs : List V} (r : RelTs K M m H fr σ [d] vs) : ∃ v, vs = [v] ∧ RelT K M m H fr σ d v := by
  obtain ⟨v, w, e, h1, h2⟩ := r
  have h2' : w = [] := h2
  subst h2'
  exact ⟨v, e, h1⟩
theorem RelTs.two {K : PySem.W.Frag} {M : Addr → Prop} {m : List Addr} {H : Hp} {fr : Fr} {σ : St} {d d' : D} {vs : List V} (r : RelTs K M m H fr σ [d, d'] vs) : ∃ v v', vs = [v, v'] ∧ RelT K M m H fr σ d v ∧ RelT K M m H fr σ d' v' := by
  obtain ⟨v, w, e, h1, h2⟩ := r
  obtain ⟨v', e2, h3⟩ := RelTs.one h2
  subst e2
  exact ⟨v, v', e, h1, h3⟩
/-- len: texts, lists, tuples, dicts -/
def vDct (fr : Fr) (hb : HB) : D → Option (List D × List D)
  | .dct ks vs => some (ks, vs)
  | .loc i => match fr[i]? with
    | some (.ow (.dct ks vs)) => some (ks, vs)
    | _ => none
  | .box n => match hb[n]? with
    | some (.dct ks vs) => some (ks, vs)
    | _ => none
  | _ => none
def DictIs (H : Hp) (p : Addr) (ks : List D) (vs : List V) : Prop := (∃ kvs, Rd H p (.dK kvs) ∧ KeysK ks kvs ∧ vs = kvs.map (·.2)) ∨ (∃ kvs, Rd H p (.dT kvs) ∧ KeysT ks kvs ∧ vs = kvs.map (·.2))
theorem vDct_ok {K : PySem.W.Frag} {M : Addr → Prop} {m : List Addr} {H : Hp} {hb : HB} {fr : Fr} {σ : St} {d : D} {v : V} {ks xs : List D} (a : At K M m H hb fr σ) (r : RelT K M m H fr σ d v) (e : vDct fr hb d = some (ks, xs)) : ∃ p vs, v = .ref p ∧ DictIs H p ks vs ∧ RelDs K (Bd M m) m H xs vs := by
  unfold vDct at e
  split at e
  · cases e
    have r' : RelD K (Bd M m) m H (.dct ks xs) v := r
    unfold RelD at r'
    obtain ⟨p, vs, e, _, f, r⟩ := r'
    refine ⟨p, vs, e, ?_, r⟩
    rcases f with ⟨kvs, f, h1, h2⟩ | ⟨kvs, f, h1, h2⟩
    · exact .inl ⟨kvs, .inl f, h1, h2⟩
    · exact .inr ⟨kvs, .inl f, h1, h2⟩
  · rename_i i
    split at e
    · rename_i ks' ys e1
      cases e
      obtain ⟨_, e2⟩ := r
      obtain ⟨x, e3, p, e4, _, _, vs, e5, e6⟩ := a.fr.2 i _ e1
      rw [e3] at e2
      cases e2
      cases e4
      refine ⟨p, vs, rfl, ?_, e6⟩
      rcases e5 with ⟨kvs, f, h1, h2⟩ | ⟨kvs, f, h1, h2⟩
      · exact .inl ⟨kvs, .inl f, h1, h2⟩
      · exact .inr ⟨kvs, .inl f, h1, h2⟩
    · cases e
  · rename_i n
    split at e
    · rename_i ks' ys e1
      cases e
      have r' : RelD K (Bd M m) m H (.box n) v := r
      unfold RelD at r'
      obtain ⟨p, e2, e3⟩ := r'
      obtain ⟨vs, e5, e6⟩ := a.wd.ob n p _ e3 e1
      refine ⟨p, vs, e2, ?_, e6⟩
      rcases e5 with ⟨kvs, f, h1, h2⟩ | ⟨kvs, f, h1, h2⟩
      · exact .inl ⟨kvs, .inl f, h1, h2⟩
      · exact .inr ⟨kvs, .inl f, h1, h2⟩
    · cases e
  · cases e
def gLen : List D → Ev := fun ds fr hb => match ds with
  | [.str s] => if s.length ≤ szL then some (.ok (.int s.length), hb) else none
  | [d] => match vSeq fr hb d with
    | some xs => some (.ok (.int xs.length), hb)
    | none => none
  | _ => none
theorem snd_len : SndL X W (fun xs H Q => ∃ x n, xs = [x] ∧ LenV X.K x H n ∧ Q (V.int ↑n) H) gLen := by
  intro M m hb fr σ H ds vs res hb' Q at_ rv e c
  unfold gLen at e
  split at e
  · split at e
    · rename_i s hz
      cases e
      obtain ⟨v, rfl, r1⟩ := rv.one
      rw [vStr_ok r1]
      exact ⟨_, s.length, rfl, ⟨by rw [strC_len, ← szL_eq]; exact hz, by rw [strC_len]⟩, c.done at_ rInt⟩
    · cases e
  · split at e
    · rename_i d xs e1
      cases e
      obtain ⟨v, rfl, r1⟩ := rv.one
      unfold vSeq at e1
      split at e1
      · cases e1
        obtain ⟨p, vs, rfl, f, r⟩ := vTup_ok r1
        exact ⟨_, xs.length, rfl, .inr ⟨vs, f, r.length⟩, c.done at_ rInt⟩
      · cases e1
        obtain ⟨p, vs, rfl, f, r⟩ := vFz_ok r1
        exact ⟨_, xs.length, rfl, .inl ⟨vs, f, r.length⟩, c.done at_ rInt⟩
      · obtain ⟨p, vs, rfl, f, r⟩ := vLst_ok at_ r1 e1
        exact ⟨_, xs.length, rfl, .inl ⟨vs, .of f, r.length⟩, c.done at_ rInt⟩
    · cases e
  · cases e
/-- int(n), int(flag) -/
def gInt : List D → Ev := fun ds fr hb => match ds with
  | [.int i] => some (.ok (.int i), hb)
  | [.bl b] => some (.ok (.int (if b then 1 else 0)), hb)
  | _ => none
theorem snd_int : SndL X W (fun xs H Q => (∃ i, xs = [V.int i] ∧ Q (V.int i) H) ∨ ∃ k, xs = [V.bl k] ∧ Q (V.int (if k = true then 1 else 0)) H) gInt := by
  intro M m hb fr σ H ds vs res hb' Q at_ rv e c
  unfold gInt at e
  split at e
  · cases e
    obtain ⟨v, rfl, r1⟩ := rv.one
    rw [vInt_ok r1]
    exact .inl ⟨_, rfl, c.done at_ rInt⟩
  · cases e
    obtain ⟨v, rfl, r1⟩ := rv.one
    rw [vBl_ok r1]
    exact .inr ⟨_, rfl, c.done at_ rInt⟩
  · cases e
/-- list(xs) -/
def gList : List D → Ev := fun ds fr hb => match ds with
  | [d] => match vSeq fr hb d with
    | some xs => some (.ok (.lst xs), hb)
    | none => none
  | _ => none
theorem vSeq_ok {K : PySem.W.Frag} {M : Addr → Prop} {m : List Addr} {H : Hp} {hb : HB} {fr : Fr} {σ : St} {d : D} {v : V} {xs : List D} (a : At K M m H hb fr σ) (r : RelT K M m H fr σ d v) (e : vSeq fr hb d = some xs) : ∃ p vs, v = .ref p ∧ (SqL K H p vs ∨ SqT K H p vs) ∧ RelDs K (Bd M m) m H xs vs := by
  unfold vSeq at e
  split at e
  · cases e
    obtain ⟨p, vs, rfl, f, r⟩ := vTup_ok r
    exact ⟨p, vs, rfl, .inr f, r⟩
  · cases e
    obtain ⟨p, vs, rfl, f, r⟩ := vFz_ok r
    exact ⟨p, vs, rfl, .inl f, r⟩
  · obtain ⟨p, vs, rfl, f, r⟩ := vLst_ok a r e
    exact ⟨p, vs, rfl, .inl (.of f), r⟩
theorem snd_list : SndL X W (fun xs H Q => ∃ p ys, xs = [V.ref p] ∧ (SqL X.K H p ys ∨ SqT X.K H p ys) ∧ ∀ (l : Addr), H l = none → Q (V.ref l) (upd H l (HO.lst ys))) gList := by
  intro M m hb fr σ H ds vs res hb' Q at_ rv e c
  unfold gList at e
  split at e
  · split at e
    · rename_i d xs e1
      cases e
      obtain ⟨v, rfl, r1⟩ := rv.one
      obtain ⟨p, vs, rfl, f, r⟩ := vSeq_ok at_ r1 e1
      exact ⟨p, vs, rfl, f, fun l hl => c.lst at_ hl r⟩
    · cases e
  · cases e
/-- tuple(xs) -/
def gTuple : List D → Ev := fun ds fr hb => match ds with
  | [d] => match vSeq fr hb d with
    | some xs => some (.ok (.tup xs), hb)
    | none => none
  | _ => none
theorem snd_tuple : SndL X W (fun xs H Q => ∃ p ys, xs = [V.ref p] ∧ ((SqL X.K H p ys ∧ ∀ (l : Addr), H l = none → Q (V.ref l) (upd H l (HO.tup ys))) ∨ SqT X.K H p ys ∧ Q (V.ref p) H)) gTuple := by
  intro M m hb fr σ H ds vs res hb' Q at_ rv e c
  unfold gTuple at e
  split at e
  · split at e
    · rename_i d xs e1
      cases e
      obtain ⟨v, rfl, r1⟩ := rv.one
      unfold vSeq at e1
      split at e1
      · cases e1
        obtain ⟨p, vs, rfl, f, r⟩ := vTup_ok r1
        exact ⟨p, vs, rfl, .inr ⟨f, c.done at_ r1⟩⟩
      · cases e1
        obtain ⟨p, vs, rfl, f, r⟩ := vFz_ok r1
        exact ⟨p, vs, rfl, .inl ⟨f, fun l hl => c.tup at_ hl r⟩⟩
      · obtain ⟨p, vs, rfl, f, r⟩ := vLst_ok at_ r1 e1
        exact ⟨p, vs, rfl, .inl ⟨.of f, fun l hl => c.tup at_ hl r⟩⟩
    · cases e
  · cases e
end
end DI
set_option Elab.async false
set_option linter.all false
set_option maxRecDepth 100000
namespace DI
open PySem PySem.Spec PyProof.Rows L2

/-- a def's activation: others' owned objects, the boxed ones and the heap at the entry -/
structure Gh where
  M0 : Addr → Prop
  ms : List Addr
  Hs : Hp
  pin : Option Addr := none
/-- the object that is being made stands in slot 0 -/
def PinOk (pin : Option Addr) (fr : Fr) (σ : St) : Prop := ∀ p, pin = some p → ∀ o, fr[0]? = some (.ow o) → σ[0]? = some (some (.ref p))
theorem PinOk.sh {pin : Option Addr} {fr : Fr} {σ : St} {i : Nat} {d : D} {x : Option V} (h : PinOk pin fr σ) : PinOk pin (fr.set i (.sh d)) (σ.set i x) := fun p hp o e => by
  by_cases hi : i = 0
  · subst hi
    rw [List.getElem?_set] at e
    simp at e
  · rw [List.getElem?_set_ne hi] at e ⊢
    exact h p hp o e
theorem PinOk.un {pin : Option Addr} {fr : Fr} {σ : St} {i : Nat} {x : Option V} (h : PinOk pin fr σ) : PinOk pin (fr.set i .un) (σ.set i x) := fun p hp o e => by
  by_cases hi : i = 0
  · subst hi
    rw [List.getElem?_set] at e
    simp at e
  · rw [List.getElem?_set_ne hi] at e ⊢
    exact h p hp o e
theorem PinOk.ow {pin : Option Addr} {fr : Fr} {σ : St} {i : Nat} {o' : O} {x : Option V} (h : PinOk pin fr σ) (hi : pin = none ∨ i ≠ 0) : PinOk pin (fr.set i (.ow o')) (σ.set i x) := fun p hp o e => by
  have hi' : i ≠ 0 := hi.elim (fun z => by rw [z] at hp; cases hp) id
  rw [List.getElem?_set_ne hi'] at e ⊢
  exact h p hp o e
theorem PinOk.wr {pin : Option Addr} {fr : Fr} {σ : St} {i : Nat} {o o' : O} (h : PinOk pin fr σ) (ho : fr[i]? = some (.ow o)) : PinOk pin (fr.set i (.ow o')) σ := fun p hp o2 e => by
  by_cases hi : i = 0
  · subst hi
    exact h p hp o ho
  · rw [List.getElem?_set_ne hi] at e
    exact h p hp o2 e
/-- others' and the frame's own objects -/
def Mf (M0 : Addr → Prop) (fr : Fr) (σ : St) : Addr → Prop := fun a => M0 a ∨ ∃ (i : Nat) (o : O), fr[i]? = some (.ow o) ∧ σ[i]? = some (some (.ref a))
structure FS (K : PySem.W.Frag) (G : Gh) (m : List Addr) (H : Hp) (hb : HB) (fr : Fr) (σ : St) : Prop where
  at_ : At K (Mf G.M0 fr σ) m H hb fr σ
  m0 : ∀ a, G.M0 a → ∃ o, G.Hs a = some o
  pre : ∃ l, m = G.ms ++ l
  new : ∀ a ∈ m, a ∉ G.ms → G.Hs a = none
  keep : ∀ a o, G.Hs a = some o → a ∉ G.ms → H a = some o
  pin : PinOk G.pin fr σ
  own : ∀ (i : Nat) o a, fr[i]? = some (.ow o) → σ[i]? = some (some (.ref a)) → G.Hs a = none
  dist : ∀ (i j : Nat) o o' a, fr[i]? = some (.ow o) → fr[j]? = some (.ow o') → σ[i]? = some (some (.ref a)) → σ[j]? = some (some (.ref a)) → i = j
section
variable {K : PySem.W.Frag} {G : Gh} {m m' : List Addr} {H H' : Hp} {hb hb' : HB} {fr : Fr} {σ : St}
theorem FS.step (s : FS K G m H hb fr σ) {m1 : List Addr} {H1 : Hp} {hb1 : HB} (t : Stp K (Mf G.M0 fr σ) m H m1 H1 hb1) : FS K G m1 H1 hb1 fr σ := by
  obtain ⟨l, hl⟩ := s.pre
  obtain ⟨l2, hl2⟩ := t.pre
  refine ⟨s.at_.step t, s.m0, ⟨l ++ l2, by rw [hl2, hl, List.append_assoc]⟩, fun a ha hn => ?_, fun a o h hn => ?_, s.pin, s.own, s.dist⟩
  · by_cases h1 : a ∈ m
    · exact s.new a h1 hn
    · have z := t.new a ha h1
      cases q : G.Hs a with
      | none => rfl
      | some o => have := s.keep a o q hn; rw [z] at this; cases this
  · refine t.fr a o (s.keep a o h hn) fun z => ?_
    have := s.new a z hn
    rw [h] at this; cases this
/-- B shrinks -/
theorem Keeps.shrink {B B' : Addr → Prop} (h : ∀ a, B' a → B a) : Keeps B B' m m H H := ⟨⟨[], by simp⟩, fun a o q n => ⟨q, fun z => n (h a z)⟩⟩
theorem Mf.set_sh {M0 : Addr → Prop} {i : Nat} {d : D} {x : Option V} {a : Addr} (h : Mf M0 (fr.set i (.sh d)) (σ.set i x) a) : Mf M0 fr σ a := by
  rcases h with h | ⟨j, o, h1, h2⟩
  · exact .inl h
  · by_cases e : i = j
    · subst e
      rw [List.getElem?_set] at h1
      simp at h1
    · rw [List.getElem?_set_ne e] at h1 h2
      exact .inr ⟨j, o, h1, h2⟩
theorem Mf.set_un {M0 : Addr → Prop} {i : Nat} {x : Option V} {a : Addr} (h : Mf M0 (fr.set i .un) (σ.set i x) a) : Mf M0 fr σ a := by
  rcases h with h | ⟨j, o, h1, h2⟩
  · exact .inl h
  · by_cases e : i = j
    · subst e
      rw [List.getElem?_set] at h1
      simp at h1
    · rw [List.getElem?_set_ne e] at h1 h2
      exact .inr ⟨j, o, h1, h2⟩
/-- the slots' facts under a smaller B -/
theorem Wd.shrink {M M' : Addr → Prop} (w : Wd K M m H hb) (h : ∀ a, M' a → M a) : Wd K M' m H hb :=
  ⟨w.nd, fun a ha z => w.no a ha (h a z), fun a z => w.mt a (h a z), w.len, fun n a o h1 h2 => (w.ob n a o h1 h2).keep_own (Keeps.shrink fun b z => z.elim (fun z => .inl (h b z)) .inr) fun _ q => q⟩
theorem FS.setSh (s : FS K G m H hb fr σ) {i : Nat} {d : D} {v : V} (r : RelD K (Bd (Mf G.M0 fr σ) m) m H d v) : FS K G m H hb (fr.set i (.sh d)) (σ.set i (some v)) := by
  have sub : ∀ a, Mf G.M0 (fr.set i (.sh d)) (σ.set i (some v)) a → Mf G.M0 fr σ a := fun a => Mf.set_sh
  have kp : Keeps (Bd (Mf G.M0 fr σ) m) (Bd (Mf G.M0 (fr.set i (.sh d)) (σ.set i (some v))) m) m m H H := Keeps.shrink fun b z => z.elim (fun z => .inl (sub b z)) .inr
  have ne : ∀ (j : Nat) o, (fr.set i (.sh d))[j]? = some (.ow o) → i ≠ j := fun j o h e => by
    subst e
    rw [List.getElem?_set] at h
    simp at h
  refine ⟨⟨s.at_.wd.shrink sub, by rw [List.length_set, List.length_set]; exact s.at_.fr.1, fun j sv e => ?_⟩, s.m0, s.pre, s.new, s.keep, s.pin.sh, fun j o a h1 h2 => ?_, fun j k o o' a h1 h2 h3 h4 => ?_⟩
  · by_cases hj : i = j
    · subst hj
      rw [List.getElem?_set] at e
      simp only [if_true] at e
      split at e
      · cases e
        rename_i hl
        refine ⟨some v, by rw [List.getElem?_set]; simp; rw [← s.at_.fr.1]; exact hl, v, rfl, r.keep kp⟩
      · cases e
    · rw [List.getElem?_set_ne hj] at e
      obtain ⟨x, e1, r1⟩ := s.at_.fr.2 j sv e
      refine ⟨x, by rw [List.getElem?_set_ne hj]; exact e1, ?_⟩
      cases sv with
      | un => trivial
      | sh d' => obtain ⟨w, e2, r2⟩ := r1; exact ⟨w, e2, r2.keep kp⟩
      | ow o =>
        obtain ⟨a, e2, hM, nm, r2⟩ := r1
        subst e2
        refine ⟨a, rfl, .inr ⟨j, o, by rw [List.getElem?_set_ne hj]; exact e, by rw [List.getElem?_set_ne hj]; exact e1⟩, nm, r2.keep_own kp fun _ q => q⟩
  · have hj := ne j o h1
    rw [List.getElem?_set_ne hj] at h1 h2
    exact s.own j o a h1 h2
  · have hj := ne j o h1
    have hk := ne k o' h2
    rw [List.getElem?_set_ne hj] at h1 h3
    rw [List.getElem?_set_ne hk] at h2 h4
    exact s.dist j k o o' a h1 h2 h3 h4
end
/-! ### statements -/
/-- the frozen things stay from state to state -/
abbrev Kp (G : Gh) (m : List Addr) (H : Hp) (fr : Fr) (σ : St) (m' : List Addr) (H' : Hp) (fr' : Fr) (σ' : St) : Prop := Keeps (Bd (Mf G.M0 fr σ) m) (Bd (Mf G.M0 fr' σ') m') m m' H H'
theorem Keeps.trans {B B1 B2 : Addr → Prop} {m m1 m2 : List Addr} {H H1 H2 : Hp} (a : Keeps B B1 m m1 H H1) (b : Keeps B1 B2 m1 m2 H1 H2) : Keeps B B2 m m2 H H2 := by
  obtain ⟨l, e⟩ := a.pre
  obtain ⟨l2, e2⟩ := b.pre
  exact ⟨⟨l ++ l2, by rw [e2, e, List.append_assoc]⟩, fun x o h n => b.fr x o (a.fr x o h n).1 (a.fr x o h n).2⟩
theorem Keeps.refl {B : Addr → Prop} {m : List Addr} {H : Hp} : Keeps B B m m H H := ⟨⟨[], by simp⟩, fun _ _ h n => ⟨h, n⟩⟩
def PstS (K : PySem.W.Frag) (W : WX) (G : Gh) (m : List Addr) (H : Hp) (fr : Fr) (σ : St) (r : SR) (hb' : HB) (D : Ends) : Prop := match r with
  | .nx fr' => ∀ m' H' σ', FS K G m' H' hb' fr' σ' → Kp G m H fr σ m' H' fr' σ' → D.nx σ' H'
  | .bk fr' => ∀ m' H' σ', FS K G m' H' hb' fr' σ' → Kp G m H fr σ m' H' fr' σ' → D.bk σ' H'
  | .ct fr' => ∀ m' H' σ', FS K G m' H' hb' fr' σ' → Kp G m H fr σ m' H' fr' σ' → D.ct σ' H'
  | .rt d => ∀ m' H' σ' fr' v, FS K G m' H' hb' fr' σ' → Kp G m H fr σ m' H' fr' σ' → RelD K (Bd (Mf G.M0 fr' σ') m') m' H' d v → D.rt v H'
  | .ex x => ∀ m' H' σ' fr' C dd, FS K G m' H' hb' fr' σ' → Kp G m H fr σ m' H' fr' σ' → RelX K (Bd (Mf G.M0 fr' σ') m') m' H' x C dd → W C dd σ' H'
theorem PstS.step {K : PySem.W.Frag} {W : WX} {G : Gh} {m m1 : List Addr} {H H1 : Hp} {fr fr1 : Fr} {σ σ1 : St} {r : SR} {hb' : HB} {D : Ends} (c : PstS K W G m H fr σ r hb' D) (k : Kp G m H fr σ m1 H1 fr1 σ1) : PstS K W G m1 H1 fr1 σ1 r hb' D := by
  cases r with
  | nx fr' => exact fun m' H' σ' s' k' => c m' H' σ' s' (k.trans k')
  | bk fr' => exact fun m' H' σ' s' k' => c m' H' σ' s' (k.trans k')
  | ct fr' => exact fun m' H' σ' s' k' => c m' H' σ' s' (k.trans k')
  | rt d => exact fun m' H' σ' fr' v s' k' => c m' H' σ' fr' v s' (k.trans k')
  | ex d => exact fun m' H' σ' fr' C dd s' k' => c m' H' σ' fr' C dd s' (k.trans k')
def tS (K : PySem.W.Frag) (W : WX) (G : Gh) (sv : Sv) : TS := fun D σ H => ∃ (m : List Addr) (hb : HB) (fr : Fr) (r : SR) (hb' : HB), FS K G m H hb fr σ ∧ sv fr hb = some (r, hb') ∧ PstS K W G m H fr σ r hb' D
abbrev SS (X : Cx) (W : WX) (G : Gh) (st : Stmt) (sv : Sv) : Prop := PS X st (tS X.K W G sv)
abbrev SSs (X : Cx) (W : WX) (G : Gh) (st : List Stmt) (sv : Sv) : Prop := PSs X st (tS X.K W G sv)
theorem tS_mk {K : PySem.W.Frag} {W : WX} {G : Gh} {m : List Addr} {H : Hp} {hb hb' : HB} {fr : Fr} {σ : St} {sv : Sv} {r : SR} {D : Ends} (s : FS K G m H hb fr σ) (e : sv fr hb = some (r, hb')) (c : PstS K W G m H fr σ r hb' D) : tS K W G sv D σ H := ⟨m, hb, fr, r, hb', s, e, c⟩
/-- an expression within a statement -/
theorem FS.ev {K : PySem.W.Frag} {W : WX} {G : Gh} {m : List Addr} {H : Hp} {hb : HB} {fr : Fr} {σ : St} {ev : Ev} {r : R} {hb1 : HB} (s : FS K G m H hb fr σ) (e : ev fr hb = some (r, hb1)) {Q : VK}
    (h : match r with
      | .ok d => ∀ m1 H1 v, FS K G m1 H1 hb1 fr σ → Kp G m H fr σ m1 H1 fr σ → RelT K (Mf G.M0 fr σ) m1 H1 fr σ d v → Q v H1
      | .exn x => ∀ m1 H1 C dd, FS K G m1 H1 hb1 fr σ → Kp G m H fr σ m1 H1 fr σ → RelX K (Bd (Mf G.M0 fr σ) m1) m1 H1 x C dd → W C dd σ H1) : tE K W ev σ H Q := by
  refine tE_mk s.at_ e fun m1 H1 s1 => ?_
  cases r with
  | ok d => exact fun v rv => h m1 H1 v (s.step s1) s1.keeps rv
  | exn x => exact fun C dd rx => h m1 H1 C dd (s.step s1) s1.keeps rx
/-! ### evaluators of statements -/
def sNil : Sv := fun fr hb => some (.nx fr, hb)
def sSeq (a b : Sv) : Sv := fun fr hb => match a fr hb with
  | some (.nx fr1, hb1) => b fr1 hb1
  | r => r
def sRet (ev : Ev) : Sv := fun fr hb => match ev fr hb with
  | some (.ok d, hb1) => if d.isVal then some (.rt d, hb1) else (match d with
    | .loc i => match fr[i]? with
      | some (.ow (.lst xs)) => some (.rt (.lst xs), hb1)
      | some (.ow (.dct ks vs)) => some (.rt (.dct ks vs), hb1)
      | some (.ow (.ins c fs vs)) => some (.rt (.ins c fs vs), hb1)
      | _ => none
    | _ => none)
  | some (.exn x, hb1) => some (.ex x, hb1)
  | none => none
def sDrop (ev : Ev) : Sv := fun fr hb => match ev fr hb with
  | some (.ok _, hb1) => some (.nx fr, hb1)
  | some (.exn x, hb1) => some (.ex x, hb1)
  | none => none
def sSet (i : Nat) (ev : Ev) : Sv := fun fr hb => match ev fr hb with
  | some (.ok d, hb1) => if d.isVal then some (.nx (fr.set i (.sh d)), hb1) else none
  | some (.exn x, hb1) => some (.ex x, hb1)
  | none => none
def sIf (t : Ev) (a b : Sv) : Sv := fun fr hb => match t fr hb with
  | some (.ok (.bl true), hb1) => a fr hb1
  | some (.ok (.bl false), hb1) => b fr hb1
  | some (.exn x, hb1) => some (.ex x, hb1)
  | _ => none
section
variable {X : Cx} {W : WX} {G : Gh} {e : Expr} {ev : Ev} {pos : Pos} {st : Stmt} {sts : List Stmt} {sv sv2 : Sv}
theorem ss_nil : SSs X W G [] sNil := PSs.mono pss_nil fun D σ H h => by
  obtain ⟨m, hb, fr, r, hb', s, e, c⟩ := h
  cases e
  exact c m H σ s Keeps.refl
theorem ss_cons (h1 : SS X W G st sv) (h2 : SSs X W G sts sv2) : SSs X W G (st :: sts) (sSeq sv sv2) := PSs.mono (pss_cons h1 h2) fun D σ H h => by
  obtain ⟨m, hb, fr, r, hb', s, e, c⟩ := h
  unfold sSeq at e
  show tS X.K W G sv { D with nx := tS X.K W G sv2 D } σ H
  split at e
  · rename_i fr1 hb1 e1
    exact tS_mk s e1 fun m' H' σ' s' k' => tS_mk s' e (c.step k')
  · rename_i hn
    refine tS_mk s e ?_
    cases r with
    | nx fr' => exact absurd e (hn fr' hb')
    | rt d => exact c
    | bk d => exact c
    | ct d => exact c
    | ex d => exact c
theorem ss_one (h1 : SS X W G st sv) : SSs X W G [st] sv := pss_one h1
theorem ss_pass : SS X W G (.Pass pos) sNil := PS.mono ps_pass fun D σ H h => by
  obtain ⟨m, hb, fr, r, hb', s, e, c⟩ := h
  cases e
  exact c m H σ s Keeps.refl
theorem ss_doc {x j pos pos'} : SS X W G (.Expr (.Constant (.str x) j pos) pos') sNil := PS.mono ps_doc fun D σ H h => by
  obtain ⟨m, hb, fr, r, hb', s, e, c⟩ := h
  cases e
  exact c m H σ s Keeps.refl
theorem ss_expr (he : SE X W e ev) (hs : swapsWith e none pos.line X.env = pure false := by rfl) : SS X W G (.Expr e pos) (sDrop ev) := PS.mono (ps_expr he hs) fun D σ H h => by
  obtain ⟨m, hb, fr, r, hb', s, e, c⟩ := h
  unfold sDrop at e
  show tE X.K W ev σ H fun _ H1 => D.nx σ H1
  split at e
  · rename_i d hb1 e1
    cases e
    exact s.ev e1 fun m1 H1 v s1 k1 rv => c m1 H1 σ s1 k1
  · rename_i x hb1 e1
    cases e
    exact s.ev e1 fun m1 H1 C dd s1 k1 rx => c m1 H1 σ fr C dd s1 k1 rx
  · cases e
theorem ss_set {i : Nat} {x : Str} {pos' : Pos} (hN : X.N.Nodup) (hi : X.N[i]? = some x) (hx : Loc X.env.scope x) (he : SE X W e ev) (hs : swapsWith e (some (.Name x pos')) pos.line X.env = pure false := by rfl) (hf : X.fn x = true ∨ X.env.scope.names.lookup x = some .local := by first | exact .inl rfl | exact .inr rfl | assumption) :
    SS X W G (.Assign [.Name x pos'] e pos) (sSet i ev) := PS.mono (ps_set hN hi hx he hs hf) fun D σ H h => by
  obtain ⟨m, hb, fr, r, hb', s, e, c⟩ := h
  unfold sSet at e
  show tE X.K W ev σ H fun x H1 => D.nx (σ.set i (some x)) H1
  split at e
  · rename_i d hb1 e1
    split at e
    · rename_i hv
      cases e
      exact s.ev e1 fun m1 H1 v s1 k1 rv => c m1 H1 _ (s1.setSh (rv.val hv)) (k1.trans (Keeps.shrink fun b z => z.elim (fun z => .inl (Mf.set_sh z)) .inr))
    · cases e
  · rename_i x hb1 e1
    cases e
    exact s.ev e1 fun m1 H1 C dd s1 k1 rx => c m1 H1 σ fr C dd s1 k1 rx
  · cases e
/-- the frame's own object is handed back: nobody has it any more -/
theorem FS.free {K : PySem.W.Frag} {m : List Addr} {H : Hp} {hb : HB} {fr : Fr} {σ : St} (s : FS K G m H hb fr σ) (i : Nat) : FS K G m H hb (fr.set i .un) (σ.set i none) := by
  have sub : ∀ a, Mf G.M0 (fr.set i .un) (σ.set i none) a → Mf G.M0 fr σ a := fun a => Mf.set_un
  have kp : Keeps (Bd (Mf G.M0 fr σ) m) (Bd (Mf G.M0 (fr.set i .un) (σ.set i none)) m) m m H H := Keeps.shrink fun b z => z.elim (fun z => .inl (sub b z)) .inr
  have ne : ∀ (j : Nat) o, (fr.set i .un)[j]? = some (.ow o) → i ≠ j := fun j o h e => by
    subst e
    rw [List.getElem?_set] at h
    simp at h
  refine ⟨⟨s.at_.wd.shrink sub, by rw [List.length_set, List.length_set]; exact s.at_.fr.1, fun j sv e => ?_⟩, s.m0, s.pre, s.new, s.keep, s.pin.un, fun j o a h1 h2 => ?_, fun j k o o' a h1 h2 h3 h4 => ?_⟩
  · by_cases hj : i = j
    · subst hj
      rw [List.getElem?_set] at e
      simp only [if_true] at e
      split at e
      · cases e
        rename_i hl
        exact ⟨none, by rw [List.getElem?_set]; simp; rw [← s.at_.fr.1]; exact hl, trivial⟩
      · cases e
    · rw [List.getElem?_set_ne hj] at e
      obtain ⟨x, e1, r1⟩ := s.at_.fr.2 j sv e
      refine ⟨x, by rw [List.getElem?_set_ne hj]; exact e1, ?_⟩
      cases sv with
      | un => trivial
      | sh d' => obtain ⟨w, e2, r2⟩ := r1; exact ⟨w, e2, r2.keep kp⟩
      | ow o =>
        obtain ⟨a, e2, hM, nm, r2⟩ := r1
        subst e2
        refine ⟨a, rfl, .inr ⟨j, o, by rw [List.getElem?_set_ne hj]; exact e, by rw [List.getElem?_set_ne hj]; exact e1⟩, nm, r2.keep_own kp fun _ q => q⟩
  · have hj := ne j o h1
    rw [List.getElem?_set_ne hj] at h1 h2
    exact s.own j o a h1 h2
  · have hj := ne j o h1
    have hk := ne k o' h2
    rw [List.getElem?_set_ne hj] at h1 h3
    rw [List.getElem?_set_ne hk] at h2 h4
    exact s.dist j k o o' a h1 h2 h3 h4
/-- .. and is then frozen -/
theorem FS.freed {K : PySem.W.Frag} {m : List Addr} {H : Hp} {hb : HB} {fr : Fr} {σ : St} (s : FS K G m H hb fr σ) {i : Nat} {o : O} (ho : fr[i]? = some (.ow o)) {v : V} (hv : σ[i]? = some (some v)) :
    ∃ a, v = .ref a ∧ ¬ Bd (Mf G.M0 (fr.set i .un) (σ.set i none)) m a ∧ RelO K (Bd (Mf G.M0 (fr.set i .un) (σ.set i none)) m) m H o a := by
  obtain ⟨x, e1, a, e2, hM, nm, r⟩ := s.at_.fr.2 i _ ho
  rw [hv] at e1
  cases e1
  cases e2
  refine ⟨a, rfl, fun z => ?_, r.keep_own (Keeps.shrink fun b z => z.elim (fun z => .inl (Mf.set_un z)) .inr) fun _ q => q⟩
  rcases z with z | z
  · rcases z with z | ⟨j, o', h1, h2⟩
    · obtain ⟨u, hu⟩ := s.m0 a z
      have := s.own i o a ho hv
      rw [hu] at this; cases this
    · have hj : i ≠ j := fun e => by
        subst e
        rw [List.getElem?_set] at h1
        simp at h1
      rw [List.getElem?_set_ne hj] at h1 h2
      exact hj (s.dist i j o o' a ho h1 hv h2)
  · exact nm z
theorem ss_ret (he : SE X W e ev) : SS X W G (.Return (some e) pos) (sRet ev) := PS.mono (ps_ret he) fun D σ H h => by
  obtain ⟨m, hb, fr, r, hb', s, e, c⟩ := h
  unfold sRet at e
  show tE X.K W ev σ H D.rt
  split at e
  · rename_i d hb1 e1
    split at e
    · rename_i hv
      cases e
      exact s.ev e1 fun m1 H1 v s1 k1 rv => c m1 H1 σ fr v s1 k1 (rv.val hv)
    · split at e
      · rename_i i hv
        split at e
        · rename_i xs ho
          cases e
          refine s.ev e1 fun m1 H1 v s1 k1 rv => ?_
          obtain ⟨a, rfl, nb, vs, h1, h2⟩ := s1.freed ho rv.2
          exact c m1 H1 _ _ _ (s1.free i) (k1.trans (Keeps.shrink fun b z => z.elim (fun z => .inl (Mf.set_un z)) .inr)) (by unfold RelD; exact ⟨a, vs, rfl, ⟨h1, nb⟩, h2⟩)
        · rename_i ks xs ho
          cases e
          refine s.ev e1 fun m1 H1 v s1 k1 rv => ?_
          obtain ⟨a, rfl, nb, vs, h1, h2⟩ := s1.freed ho rv.2
          refine c m1 H1 _ _ _ (s1.free i) (k1.trans (Keeps.shrink fun b z => z.elim (fun z => .inl (Mf.set_un z)) .inr)) (by
            unfold RelD
            refine ⟨a, vs, rfl, nb, ?_, h2⟩
            rcases h1 with ⟨kvs, f, h3, h4⟩ | ⟨kvs, f, h3, h4⟩
            · exact .inl ⟨kvs, f, h3, h4⟩
            · exact .inr ⟨kvs, f, h3, h4⟩)
        · rename_i cc fs xs ho
          cases e
          refine s.ev e1 fun m1 H1 v s1 k1 rv => ?_
          obtain ⟨a, rfl, nb, dx, vs, h1, h3, h2⟩ := s1.freed ho rv.2
          exact c m1 H1 _ _ _ (s1.free i) (k1.trans (Keeps.shrink fun b z => z.elim (fun z => .inl (Mf.set_un z)) .inr)) (by unfold RelD; exact ⟨a, dx, vs, rfl, nb, h1, h3, h2⟩)
        · cases e
      · cases e
  · rename_i x hb1 e1
    cases e
    exact s.ev e1 fun m1 H1 C dd s1 k1 rx => c m1 H1 σ fr C dd s1 k1 rx
  · cases e
theorem ss_retN : SS X W G (.Return none pos) (sRet (eC .non)) := PS.mono ps_retN fun D σ H h => by
  obtain ⟨m, hb, fr, r, hb', s, e, c⟩ := h
  cases e
  exact c m H σ fr .non s Keeps.refl (by unfold RelD; rfl)
theorem ss_if {t : Expr} {a b : List Stmt} {evt : Ev} {sa sb : Sv} (ht : ST X W t evt) (ha : SSs X W G a sa) (hb : SSs X W G b sb) : SS X W G (.If t a b pos) (sIf evt sa sb) := PS.mono (ps_if ht ha hb) fun D σ H h => by
  obtain ⟨m, hb, fr, r, hb', s, e, c⟩ := h
  unfold sIf at e
  show tT X.K W evt σ H fun b H1 => if b = true then tS X.K W G sa D σ H1 else tS X.K W G sb D σ H1
  split at e
  · rename_i hb1 e1
    exact ⟨_, m, hb, fr, .ok (.bl true), hb1, s.at_.wd, s.at_.fr, e1, fun m1 H1 s1 => ⟨true, rfl, ift (tS_mk (s.step s1) e (c.step s1.keeps))⟩⟩
  · rename_i hb1 e1
    exact ⟨_, m, hb, fr, .ok (.bl false), hb1, s.at_.wd, s.at_.fr, e1, fun m1 H1 s1 => ⟨false, rfl, iff_ (tS_mk (s.step s1) e (c.step s1.keeps))⟩⟩
  · rename_i x hb1 e1
    cases e
    exact ⟨_, m, hb, fr, .exn x, _, s.at_.wd, s.at_.fr, e1, fun m1 H1 s1 C dd rx => c m1 H1 σ fr C dd (s.step s1) s1.keeps rx⟩
  · cases e
end
end DI
set_option Elab.async false
set_option linter.all false
set_option maxRecDepth 100000
namespace DI
open PySem PySem.Spec PyProof.Rows L2

/-! ### targets -/
inductive Tg where
  | nm (i : Nat) | tp (is : List Nat)
def gNames : List Nat → TGs
  | [] => gNil
  | i :: is => gCons (gName i) (gNames is)
def gT (K : PySem.W.Frag) : Tg → TG
  | .nm i => gName i
  | .tp is => gTup K is.length (gNames is)
abbrev SG (X : Cx) (tg : Expr) (t : Tg) : Prop := PG X tg (gT X.K t)
def stAll : List Nat → List D → Fr → Option Fr
  | [], [], fr => some fr
  | i :: is, d :: ds, fr => stAll is ds (fr.set i (.sh d))
  | _, _, _ => none
def stT : Tg → D → Fr → Option Fr
  | .nm i, d, fr => some (fr.set i (.sh d))
  | .tp is, .tup ds, fr => stAll is ds fr
  | _, _, _ => none
section
variable {K : PySem.W.Frag} {G : Gh} {m m' : List Addr} {H H' : Hp} {hb hb' : HB} {fr fr' : Fr} {σ : St}
theorem Kp.sh {i : Nat} {d : D} {x : Option V} : Kp G m H fr σ m H (fr.set i (.sh d)) (σ.set i x) := Keeps.shrink fun b z => z.elim (fun z => .inl (Mf.set_sh z)) .inr
theorem stAll_ok : ∀ {is : List Nat} {ds : List D} {vs : List V} {fr : Fr} {σ : St} {Q : St → Hp → Prop}, FS K G m H hb fr σ → RelDs K (Bd (Mf G.M0 fr σ) m) m H ds vs → stAll is ds fr = some fr' →
    (∀ σ', FS K G m H hb fr' σ' → Kp G m H fr σ m H fr' σ' → Q σ' H) → gNames is vs σ H Q
  | [], [], vs, fr, σ, Q, s, r, e, c => by
    cases e
    exact ⟨RelDs.nil_iff.mp r, c σ s Keeps.refl⟩
  | i :: is, d :: ds, vs, fr, σ, Q, s, r, e, c => by
    obtain ⟨v, w, rfl, r1, r2⟩ := RelDs.cons_inv r
    refine ⟨v, w, rfl, ?_⟩
    show gNames is w (σ.set i (some v)) H Q
    have kk : Kp G m H fr σ m H (fr.set i (.sh d)) (σ.set i (some v)) := Kp.sh
    exact stAll_ok (s.setSh r1) (r2.keep kk) e fun σ' s' k' => c σ' s' (kk.trans k')
  | [], _ :: _, _, _, _, _, _, _, e, _ => by cases e
  | _ :: _, [], _, _, _, _, _, _, e, _ => by cases e
theorem stT_ok {t : Tg} {d : D} {v : V} {Q : St → Hp → Prop} (s : FS K G m H hb fr σ) (r : RelD K (Bd (Mf G.M0 fr σ) m) m H d v) (e : stT t d fr = some fr')
    (c : ∀ σ', FS K G m H hb fr' σ' → Kp G m H fr σ m H fr' σ' → Q σ' H) : gT K t v σ H Q := by
  unfold stT at e
  split at e
  · cases e
    exact c _ (s.setSh r) Kp.sh
  · rename_i is ds _
    obtain ⟨p, vs, rfl, f, r'⟩ := vTup_ok (fr := []) (σ := []) r
    refine ⟨p, vs, rfl, f, ?_, stAll_ok s r' e c⟩
    have hl : ∀ {is : List Nat} {ds : List D} {fr : Fr} {fr' : Fr}, stAll is ds fr = some fr' → ds.length = is.length := by
      intro is
      induction is with
      | nil => intro ds fr fr' e; cases ds <;> first | rfl | cases e
      | cons i is ih => intro ds fr fr' e; cases ds with
        | nil => cases e
        | cons d ds => simp [ih (show stAll is ds _ = some fr' from e)]
    rw [← hl e, r'.length]
  · cases e
end
theorem sg_name {X : Cx} {i : Nat} {x : Str} {pos : Pos} (hN : X.N.Nodup) (hi : X.N[i]? = some x) (hx : Loc X.env.scope x) (hf : X.fn x = true ∨ X.env.scope.names.lookup x = some .local := by first | exact .inl rfl | exact .inr rfl | assumption) : SG X (.Name x pos) (.nm i) := pg_name hN hi hx hf
abbrev SGs (X : Cx) (tgs : List Expr) (is : List Nat) : Prop := PGs X tgs (gNames is)
theorem sgs_nil {X : Cx} : SGs X [] [] := pgs_nil
theorem sgs_cons {X : Cx} {e : Expr} {es : List Expr} {i : Nat} {is : List Nat} (h1 : SG X e (.nm i)) (h2 : SGs X es is) (hs : (assignEach (e :: es) X.env).map (·.2) = assign e X.env :: (assignEach es X.env).map (·.2) := by rfl) : SGs X (e :: es) (i :: is) := pgs_cons h1 h2 hs
theorem sg_tup {X : Cx} {es : List Expr} {k : Nat} {is : List Nat} {pos : Pos} (hc : X.calm = true) (h : SGs X es is) (hn : (assignEach es X.env).length = is.length := by rfl) (hst : (assignEach es X.env).findIdx? (·.1) = none := by rfl) : SG X (.Tuple es k pos) (.tp is) := pg_tup hc h hn hst
/-! ### target = value -/
def sAsg (t : Tg) (ev : Ev) : Sv := fun fr hb => match ev fr hb with
  | some (.ok d, hb1) => if d.isVal then (match stT t d fr with
    | some fr1 => some (.nx fr1, hb1)
    | none => none) else none
  | some (.exn x, hb1) => some (.ex x, hb1)
  | none => none
section
variable {X : Cx} {W : WX} {G : Gh} {e : Expr} {ev : Ev} {pos : Pos}
theorem ss_asg {tg : Expr} {t : Tg} (he : SE X W e ev) (hg : SG X tg t) (hs : swapsWithSole [tg] e pos.line X.env = pure false := by rfl) (hw : swappedStores [tg] e X.env = pure none := by rfl)
    (h1 : (assignEach [tg] X.env).map (·.2) = [assign tg X.env] := by rfl) : SS X W G (.Assign [tg] e pos) (sAsg t ev) := PS.mono (ps_asg he hg hs hw h1) fun D σ H h => by
  obtain ⟨m, hb, fr, r, hb', s, e, c⟩ := h
  unfold sAsg at e
  show tE X.K W ev σ H fun x H1 => gT X.K t x σ H1 D.nx
  split at e
  · rename_i d hb1 e1
    split at e
    · rename_i hv
      split at e
      · rename_i fr1 e2
        cases e
        exact s.ev e1 fun m1 H1 v s1 k1 rv => stT_ok s1 (rv.val hv) e2 fun σ' s' k' => c m1 H1 σ' s' (k1.trans k')
      · cases e
    · cases e
  · rename_i x hb1 e1
    cases e
    exact s.ev e1 fun m1 H1 C dd s1 k1 rx => c m1 H1 σ fr C dd s1 k1 rx
  · cases e
end
/-! ### while -/
def sWhileN (t : Ev) (b : Sv) : Nat → Sv
  | 0, _, _ => none
  | n + 1, fr, hb => match t fr hb with
    | some (.ok (.bl true), hb1) => (match b fr hb1 with
      | some (.nx fr2, hb2) => sWhileN t b n fr2 hb2
      | some (.ct fr2, hb2) => sWhileN t b n fr2 hb2
      | some (.bk fr2, hb2) => some (.nx fr2, hb2)
      | r => r)
    | some (.ok (.bl false), hb1) => some (.nx fr, hb1)
    | some (.exn x, hb1) => some (.ex x, hb1)
    | _ => none
def sWhile (t : Ev) (b : Sv) (fr : Fr) (hb : HB) : Option (SR × HB) := match t fr hb with
    | some (.ok (.bl true), hb1) => (match b fr hb1 with
      | some (.nx fr2, hb2) => sWhile t b fr2 hb2
      | some (.ct fr2, hb2) => sWhile t b fr2 hb2
      | some (.bk fr2, hb2) => some (.nx fr2, hb2)
      | some (.rt d, hb2) => some (.rt d, hb2)
      | some (.ex x, hb2) => some (.ex x, hb2)
      | none => none)
    | some (.ok (.bl false), hb1) => some (.nx fr, hb1)
    | some (.exn x, hb1) => some (.ex x, hb1)
    | _ => none
partial_fixpoint
theorem sWhile_n {t : Ev} {b : Sv} : ∀ fr hb r, sWhile t b fr hb = some r → ∃ n, sWhileN t b n fr hb = some r := by
  apply sWhile.partial_correctness
  intro f ih fr hb r h
  split at h
  · rename_i hb1 e1
    split at h
    · rename_i fr2 hb2 e2
      obtain ⟨n, hn⟩ := ih _ _ _ h
      exact ⟨n + 1, by simp [sWhileN, e1, e2, hn]⟩
    · rename_i fr2 hb2 e2
      obtain ⟨n, hn⟩ := ih _ _ _ h
      exact ⟨n + 1, by simp [sWhileN, e1, e2, hn]⟩
    · rename_i fr2 hb2 e2
      exact ⟨1, by simp [sWhileN, e1, e2]; exact Option.some.inj h⟩
    · rename_i fr2 hb2 e2
      exact ⟨1, by simp [sWhileN, e1, e2]; exact Option.some.inj h⟩
    · rename_i fr2 hb2 e2
      exact ⟨1, by simp [sWhileN, e1, e2]; exact Option.some.inj h⟩
    · cases h
  · rename_i hb1 e1
    exact ⟨1, by simp [sWhileN, e1]; exact Option.some.inj h⟩
  · rename_i hb1 e1
    exact ⟨1, by simp [sWhileN, e1]; exact Option.some.inj h⟩
  · cases h
section
variable {X : Cx} {W : WX} {G : Gh} {pos : Pos}
theorem ss_while {t : Expr} {body : List Stmt} {evt : Ev} {sb : Sv} (hp : PassesOwn (model X.prog X.w) X.A X.env X.xe) (ht : ST X W t evt) (hbd : SSs X W G body sb) : SS X W G (.While t body [] pos) (sWhile evt sb) := PS.mono (ps_while hp ht hbd) fun D σ H h => by
  obtain ⟨m, hb, fr, r, hb', s, e, c⟩ := h
  obtain ⟨n, hn⟩ := sWhile_n _ _ _ e
  refine ⟨fun k σ' H' => ∃ m1 hb1 fr1, FS X.K G m1 H' hb1 fr1 σ' ∧ Kp G m H fr σ m1 H' fr1 σ' ∧ sWhileN evt sb k fr1 hb1 = some (r, hb'), ⟨n, m, hb, fr, s, Keeps.refl, hn⟩, ?_⟩
  rintro k σ1 H1 ⟨m1, hb1, fr1, s1, k1, e1⟩
  cases k with
  | zero => simp [sWhileN] at e1
  | succ k =>
    unfold sWhileN at e1
    split at e1
    · rename_i hb2 q1
      refine ⟨_, m1, hb1, fr1, .ok (.bl true), hb2, s1.at_.wd, s1.at_.fr, q1, fun m2 H2 st2 => ⟨true, rfl, ift ?_⟩⟩
      have s2 := s1.step st2
      have k2 := k1.trans st2.keeps
      refine ⟨fun σ' H' => ∃ m3 hb3 fr3, FS X.K G m3 H' hb3 fr3 σ' ∧ Kp G m H fr σ m3 H' fr3 σ' ∧ sWhileN evt sb k fr3 hb3 = some (r, hb'), fun σ' H' hN => ⟨k, Nat.lt_succ_self k, hN⟩, ?_⟩
      split at e1
      · rename_i fr2 hb3 q2
        exact tS_mk s2 q2 fun m' H' σ' s' k' => ⟨m', hb3, fr2, s', k2.trans k', e1⟩
      · rename_i fr2 hb3 q2
        exact tS_mk s2 q2 fun m' H' σ' s' k' => ⟨m', hb3, fr2, s', k2.trans k', e1⟩
      · rename_i fr2 hb3 q2
        cases e1
        exact tS_mk s2 q2 fun m' H' σ' s' k' => c m' H' σ' s' (k2.trans k')
      · rename_i hn1 hn2 hn3
        refine tS_mk s2 e1 ?_
        cases r with
        | nx f => exact absurd e1 (hn1 f hb')
        | ct f => exact absurd e1 (hn2 f hb')
        | bk f => exact absurd e1 (hn3 f hb')
        | rt d => exact fun m' H' σ' fr' v s' k' rv => c m' H' σ' fr' v s' (k2.trans k') rv
        | ex x => exact fun m' H' σ' fr' C dd s' k' rx => c m' H' σ' fr' C dd s' (k2.trans k') rx
    · rename_i hb2 q1
      cases e1
      exact ⟨_, m1, hb1, fr1, .ok (.bl false), _, s1.at_.wd, s1.at_.fr, q1, fun m2 H2 st2 => ⟨false, rfl, iff_ (c m2 H2 σ1 (s1.step st2) (k1.trans st2.keeps))⟩⟩
    · rename_i x hb2 q1
      cases e1
      exact ⟨_, m1, hb1, fr1, .exn x, _, s1.at_.wd, s1.at_.fr, q1, fun m2 H2 st2 C dd rx => c m2 H2 σ1 fr1 C dd (s1.step st2) (k1.trans st2.keeps) rx⟩
    · cases e1
end
/-! ### what is walked: the items, and whether the source is frozen; or a boxed list as it stands at each turn (en: with its places) -/
inductive Src where
  | ls (ds : List D) (fz : Bool) | bx (n : Nat) (en : Bool)
abbrev Iv := Fr → HB → Option ((Src ⊕ Xn) × HB)
structure BxIt (K : PySem.W.Frag) (p : Addr) (en : Bool) (J : It) : Prop where
  go : ∀ (i : Nat) H vs, H p = some (.lst vs) → i < vs.length → J.go i H
  stop : ∀ (i : Nat) H vs, H p = some (.lst vs) → vs.length = i → J.stop i H
  yld : ∀ (i : Nat) H x H' vs, H p = some (.lst vs) → J.yld i H x H' → ∃ v, vs[i]? = some v ∧ ((en = false ∧ x = v ∧ H' = H) ∨ (en = true ∧ ∃ T, x = .ref T ∧ H T = none ∧ H' = upd H T (.tup [.int (i : Nat), v])))
/-- at state (m1, H1): the walk J of n turns gives the items ds -/
structure WalkD (K : PySem.W.Frag) (M : Addr → Prop) (m1 : List Addr) (H1 : Hp) (ds : List D) (fz : Bool) (J : It) (Gd : Hp → Prop) (Y : Nat → Hp → V → Hp → Prop) : Prop where
  walk : Walk J ds.length Gd Y
  stand : ∀ H2, (∀ a o, H1 a = some o → ¬ (if fz then Bd M m1 a else a ∈ m1) → H2 a = some o) → Gd H2
  heap : ∀ i H2 x H2', Y i H2 x H2' → H2' = H2 ∨ ∃ p vs, H2 p = none ∧ H2' = upd H2 p (.tup vs)
  item : ∀ i H2 x H2', i < ds.length → Y i H2 x H2' → ∀ B2 m2, Keeps (Bd M m1) B2 m1 m2 H1 H2 → (∀ p, H2 p = none → ¬ B2 p) → ∃ d, ds[i]? = some d ∧ RelD K B2 m2 H2' d x
def tI (K : PySem.W.Frag) (W : WX) (iv : Iv) : TI := fun σ H R => ∃ (M : Addr → Prop) (m : List Addr) (hb : HB) (fr : Fr) (r : Src ⊕ Xn) (hb' : HB), At K M m H hb fr σ ∧ iv fr hb = some (r, hb') ∧
  ∀ m1 H1, Stp K M m H m1 H1 hb' → match r with
    | .inl (.ls ds fz) => ∀ J Gd Y, WalkD K M m1 H1 ds fz J Gd Y → R J H1
    | .inl (.bx n en) => ∀ p J, m1[n]? = some p → BxIt K p en J → R J H1
    | .inr x => ∀ C dd, RelX K (Bd M m1) m1 H1 x C dd → W C dd σ H1
abbrev SI (X : Cx) (W : WX) (tg iter : Expr) (iv : Iv) : Prop := PI X tg iter (tI X.K W iv)
theorem PI.mono {X : Cx} {tg e : Expr} {t t' : TI} (h : PI X tg e t) (i : ∀ σ H Q, t' σ H Q → t σ H Q) : PI X tg e t' := ⟨fun pins s σ H Q I hq => h.run pins s σ H Q I (i σ H Q hq)⟩
/-- a value: a list, a tuple, a text -/
def iVal (ev : Ev) : Iv := fun fr hb => match ev fr hb with
  | some (.ok (.str s), hb1) => some (.inl (.ls (s.map fun ch => .str [ch]) true), hb1)
  | some (.ok (.tup xs), hb1) => some (.inl (.ls xs true), hb1)
  | some (.ok (.lst xs), hb1) => some (.inl (.ls xs true), hb1)
  | some (.ok (.fz xs), hb1) => some (.inl (.ls xs true), hb1)
  | some (.ok (.loc i), hb1) => (match vLst fr hb1 (.loc i) with
    | some xs => some (.inl (.ls xs false), hb1)
    | none => none)
  | some (.ok (.box n), hb1) => (match hb1[n]? with
    | some (.lst _) => some (.inl (.bx n false), hb1)
    | _ => none)
  | some (.exn x, hb1) => some (.inr x, hb1)
  | _ => none
section
variable {X : Cx} {W : WX} {G : Gh} {pos : Pos} {tg e : Expr} {ev : Ev}
/-- a list at p that stays -/
theorem walkD_list {K : PySem.W.Frag} {M : Addr → Prop} {m1 : List Addr} {H1 : Hp} {ds : List D} {vs : List V} {p : Addr} {fz : Bool} (r : RelDs K (Bd M m1) m1 H1 ds vs)
    (hs : ∀ H2, (∀ a o, H1 a = some o → ¬ (if fz then Bd M m1 a else a ∈ m1) → H2 a = some o) → SqL K H2 p vs) : WalkD K M m1 H1 ds fz (Itl K p) (fun H => SqL K H p vs) (YAt vs) := by
  refine ⟨by rw [r.length]; exact walk_list, hs, fun i H2 x H2' y => .inl y.1, fun i H2 x H2' hi y B2 m2 k nf => ?_⟩
  obtain ⟨rfl, e2⟩ := y
  obtain ⟨d, hd⟩ : ∃ d, ds[i]? = some d := ⟨ds[i], by simp [hi]⟩
  obtain ⟨v, e3, rv⟩ := r.get hd
  rw [e2] at e3
  cases e3
  exact ⟨d, hd, rv.keep k⟩
theorem walkD_tup {K : PySem.W.Frag} {M : Addr → Prop} {m1 : List Addr} {H1 : Hp} {ds : List D} {vs : List V} {p : Addr} {fz : Bool} (r : RelDs K (Bd M m1) m1 H1 ds vs)
    (hs : ∀ H2, (∀ a o, H1 a = some o → ¬ (if fz then Bd M m1 a else a ∈ m1) → H2 a = some o) → SqT K H2 p vs) : WalkD K M m1 H1 ds fz (Itt K p) (fun H => SqT K H p vs) (YAt vs) := by
  refine ⟨by rw [r.length]; exact walk_tup, hs, fun i H2 x H2' y => .inl y.1, fun i H2 x H2' hi y B2 m2 k nf => ?_⟩
  obtain ⟨rfl, e2⟩ := y
  obtain ⟨d, hd⟩ : ∃ d, ds[i]? = some d := ⟨ds[i], by simp [hi]⟩
  obtain ⟨v, e3, rv⟩ := r.get hd
  rw [e2] at e3
  cases e3
  exact ⟨d, hd, rv.keep k⟩
theorem walkD_str {K : PySem.W.Frag} {M : Addr → Prop} {m1 : List Addr} {H1 : Hp} {s : List Char} {fz : Bool} : WalkD K M m1 H1 (s.map fun ch => D.str [ch]) fz (Its (strC s)) (fun _ => True) (fun i H v H' => H' = H ∧ ∃ c, (strC s).cps[i]? = some c ∧ v = .str ⟨#[c]⟩) := by
  have hl : (strC s).cps.size = (s.map fun ch => D.str [ch]).length := by rw [List.length_map]; exact strC_len s
  refine ⟨by rw [← hl]; exact walk_str, fun _ _ => trivial, fun i H2 x H2' y => .inl y.1, fun i H2 x H2' hi y B2 m2 k nf => ?_⟩
  obtain ⟨rfl, c, e2, rfl⟩ := y
  unfold strC at e2
  rw [List.getElem?_toArray, List.getElem?_map] at e2
  cases e3 : s[i]? with
  | none => rw [e3] at e2; cases e2
  | some ch =>
    rw [e3] at e2
    cases e2
    refine ⟨.str [ch], by rw [List.getElem?_map, e3]; rfl, ?_⟩
    unfold RelD
    rfl
theorem bxIt_list {K : PySem.W.Frag} {p : Addr} : BxIt K p false (Itl K p) :=
  ⟨fun i H vs h hi => ⟨vs, vs[i], .of h, by simp [hi]⟩, fun i H vs h hi => ⟨vs, .of h, by omega⟩, fun i H x H' vs h y => ⟨x, y.2 vs (.of h), .inl ⟨rfl, rfl, y.1⟩⟩⟩
theorem si_val (he : SE X W e ev) : SI X W tg e (iVal ev) := by
  refine ⟨fun pins s σ H R I h => ?_⟩
  obtain ⟨M, m, hb, fr, r, hb', at_, e0, c⟩ := h
  unfold iVal at e0
  split at e0
  · rename_i z hb1 e1
    cases e0
    exact (pi_str he).run pins s σ H R I (tE_mk at_ e1 fun m1 H1 s1 v rv => ⟨_, vStr_ok rv, c m1 H1 s1 _ _ _ walkD_str⟩)
  · rename_i xs hb1 e1
    cases e0
    refine (pi_tup he).run pins s σ H R I (tE_mk at_ e1 fun m1 H1 s1 v rv => ?_)
    have rv' : RelD X.K (Bd M m1) m1 H1 (.tup xs) v := rv
    unfold RelD at rv'
    obtain ⟨p, vs, rfl, f, r⟩ := rv'
    exact ⟨p, rfl, ⟨vs, .of f.1⟩, c m1 H1 s1 _ _ _ (walkD_tup (p := p) r fun H2 hk => .of (hk p _ f.1 (by simpa using f.2)))⟩
  · rename_i xs hb1 e1
    cases e0
    refine (pi_list he).run pins s σ H R I (tE_mk at_ e1 fun m1 H1 s1 v rv => ?_)
    have rv' : RelD X.K (Bd M m1) m1 H1 (.lst xs) v := rv
    unfold RelD at rv'
    obtain ⟨p, vs, rfl, ⟨f, nb⟩, r⟩ := rv'
    exact ⟨p, rfl, ⟨vs, .of f⟩, c m1 H1 s1 _ _ _ (walkD_list (p := p) r fun H2 hk => .of (hk p _ f (by simpa using nb)))⟩
  · rename_i xs hb1 e1
    cases e0
    refine (pi_list he).run pins s σ H R I (tE_mk at_ e1 fun m1 H1 s1 v rv => ?_)
    have rv' : RelD X.K (Bd M m1) m1 H1 (.fz xs) v := rv
    unfold RelD at rv'
    obtain ⟨p, vs, rfl, f, r⟩ := rv'
    refine ⟨p, rfl, ⟨vs, ?_⟩, c m1 H1 s1 _ _ _ (walkD_list (p := p) r fun H2 hk => ?_)⟩
    · rcases f with ⟨f, _⟩ | f
      · exact .inl f
      · exact .inr f
    · rcases f with ⟨f, nb⟩ | f
      · exact .inl (Rd.keep f fun o q => hk p o q (by simpa using nb))
      · exact .inr f
  · rename_i i hb1 e1
    split at e0
    · rename_i xs e2
      cases e0
      refine (pi_list he).run pins s σ H R I (tE_mk at_ e1 fun m1 H1 s1 v rv => ?_)
      have a1 := at_.step s1
      obtain ⟨⟨o, ho⟩, h2⟩ := rv
      obtain ⟨x, e3, p, e4, hM, nm, ro⟩ := a1.fr.2 i _ ho
      rw [e3] at h2
      cases h2
      cases e4
      have eo : o = .lst xs := by
        unfold vLst at e2
        dsimp only at e2
        rw [ho] at e2
        cases o with
        | lst ys => cases e2; rfl
        | dct _ _ => cases e2
        | ins _ _ _ => cases e2
      subst eo
      obtain ⟨vs, f, r⟩ := ro
      exact ⟨p, rfl, ⟨vs, .of f⟩, c m1 H1 s1 _ _ _ (walkD_list (p := p) r fun H2 hk => .of (hk p _ f (by simpa using nm)))⟩
    · cases e0
  · rename_i n hb1 e1
    split at e0
    · rename_i xs e2
      cases e0
      refine (pi_list he).run pins s σ H R I (tE_mk at_ e1 fun m1 H1 s1 v rv => ?_)
      have rv' : RelD X.K (Bd M m1) m1 H1 (.box n) v := rv
      unfold RelD at rv'
      obtain ⟨p, rfl, hp⟩ := rv'
      obtain ⟨vs, f, r⟩ := s1.wd.ob n p _ hp e2
      exact ⟨p, rfl, ⟨vs, .of f⟩, c m1 H1 s1 p _ hp bxIt_list⟩
    · cases e0
  · rename_i x hb1 e1
    cases e0
    exact (pi_list he).run pins s σ H R I (tE_mk at_ e1 fun m1 H1 s1 => c m1 H1 s1)
  · cases e0
/-! ### for -/
def sForL (t : Tg) (b : Sv) : List D → Sv
  | [], fr, hb => some (.nx fr, hb)
  | d :: ds, fr, hb => match stT t d fr with
    | none => none
    | some fr1 => match b fr1 hb with
      | some (.nx fr2, hb2) => sForL t b ds fr2 hb2
      | some (.ct fr2, hb2) => sForL t b ds fr2 hb2
      | some (.bk fr2, hb2) => some (.nx fr2, hb2)
      | r => r
def sForB (t : Tg) (b : Sv) (n : Nat) (en : Bool) : Nat → Nat → Sv
  | 0, i, fr, hb => match hb[n]? with
    | some (.lst xs) => if xs.length = i then some (.nx fr, hb) else none
    | _ => none
  | k + 1, i, fr, hb => match hb[n]? with
    | some (.lst xs) => (match xs[i]? with
      | some d => (match stT t (if en then .tup [.int (i : Nat), d] else d) fr with
        | none => none
        | some fr1 => match b fr1 hb with
          | some (.nx fr2, hb2) => sForB t b n en k (i + 1) fr2 hb2
          | some (.ct fr2, hb2) => sForB t b n en k (i + 1) fr2 hb2
          | some (.bk fr2, hb2) => some (.nx fr2, hb2)
          | r => r)
      | none => none)
    | _ => none
def sFor (iv : Iv) (t : Tg) (b : Sv) : Sv := fun fr hb => match iv fr hb with
  | some (.inl (.ls ds true), hb1) => sForL t b ds fr hb1
  | some (.inl (.bx n en), hb1) => (match hb1[n]? with
    | some (.lst xs) => sForB t b n en xs.length 0 fr hb1
    | _ => none)
  | some (.inr x, hb1) => some (.ex x, hb1)
  | _ => none
theorem ss_for {t : Tg} {body : List Stmt} {iv : Iv} {sb : Sv} (hp : PassesOwn (model X.prog X.w) X.A X.env X.xe) (hc : X.calm = true) (hi : SI X W tg e iv) (hg : SG X tg t) (hbd : SSs X W G body sb) (hs : ∀ x, foldedSetIterable e X.env x = pure x := by intro _; rfl) :
    SS X W G (.For tg e body [] pos) (sFor iv t sb) := PS.mono (ps_for hp hc hi hg hbd hs) fun D σ H h => by
  obtain ⟨m, hb, fr, r, hb', s, e0, c⟩ := h
  unfold sFor at e0
  split at e0
  · rename_i ds hb1 e1
    refine ⟨_, m, hb, fr, .inl (.ls ds true), hb1, s.at_, e1, fun m1 H1 st1 J Gd Y wd => ?_⟩
    have s1 := s.step st1
    refine for_it wd.walk (fun i σ2 H2 => ∃ m2 hb2 fr2, FS X.K G m2 H2 hb2 fr2 σ2 ∧ Kp G m1 H1 fr σ m2 H2 fr2 σ2 ∧ sForL t sb (ds.drop i) fr2 hb2 = some (r, hb')) ⟨m1, hb1, fr, s1, Keeps.refl, e0⟩ ?_ ?_ ?_
    · rintro i σ2 H2 hi ⟨m2, hb2, fr2, s2, k2, _⟩
      exact wd.stand H2 fun a o q nb => (k2.fr a o q (by simpa using nb)).1
    · rintro i x σ2 H2 H3 hi ⟨m2, hb2, fr2, s2, k2, e2⟩ y
      obtain ⟨d, hd, rd⟩ := wd.item i H2 x H3 hi y _ m2 k2 fun p hp => fresh_no s2.at_.wd hp
      have st3 : Stp X.K (Mf G.M0 fr2 σ2) m2 H2 m2 H3 hb2 := by
        rcases wd.heap i H2 x H3 y with rfl | ⟨p, vs, hp, rfl⟩
        · exact Stp.refl s2.at_.wd
        · exact s2.at_.wd.laid hp
      have s3 := s2.step st3
      have k3 := k2.trans st3.keeps
      have hdrop : ds.drop i = d :: ds.drop (i + 1) := by
        have hlt := (List.getElem?_eq_some_iff.mp hd).1
        rw [List.drop_eq_getElem_cons hlt]
        rw [(List.getElem?_eq_some_iff.mp hd).2]
      rw [hdrop] at e2
      unfold sForL at e2
      split at e2
      · cases e2
      · rename_i fr3 q3
        refine stT_ok s3 rd q3 fun σ4 s4 k4 => ?_
        have k4' := k3.trans k4
        split at e2
        · rename_i fr5 hb5 q5
          exact tS_mk s4 q5 fun m' H' σ' s' k' => ⟨m', hb5, fr5, s', k4'.trans k', e2⟩
        · rename_i fr5 hb5 q5
          exact tS_mk s4 q5 fun m' H' σ' s' k' => ⟨m', hb5, fr5, s', k4'.trans k', e2⟩
        · rename_i fr5 hb5 q5
          cases e2
          exact tS_mk s4 q5 fun m' H' σ' s' k' => c m' H' σ' s' (st1.keeps.trans (k4'.trans k'))
        · rename_i hn1 hn2 hn3
          refine tS_mk s4 e2 ?_
          cases r with
          | nx f => exact absurd e2 (hn1 f hb')
          | ct f => exact absurd e2 (hn2 f hb')
          | bk f => exact absurd e2 (hn3 f hb')
          | rt d => exact fun m' H' σ' fr' v s' k' rv => c m' H' σ' fr' v s' (st1.keeps.trans (k4'.trans k')) rv
          | ex x => exact fun m' H' σ' fr' C dd s' k' rx => c m' H' σ' fr' C dd s' (st1.keeps.trans (k4'.trans k')) rx
    · rintro σ2 H2 ⟨m2, hb2, fr2, s2, k2, e2⟩
      rw [List.drop_length] at e2
      cases e2
      exact c m2 H2 σ2 s2 (st1.keeps.trans k2)
  · rename_i n en hb1 e1
    split at e0
    · rename_i xs0 e2
      refine ⟨_, m, hb, fr, .inl (.bx n en), hb1, s.at_, e1, fun m1 H1 st1 p J hp bx => ?_⟩
      have s1 := s.step st1
      refine ⟨fun i k σ2 H2 => ∃ m2 hb2 fr2, FS X.K G m2 H2 hb2 fr2 σ2 ∧ Kp G m1 H1 fr σ m2 H2 fr2 σ2 ∧ sForB t sb n en k i fr2 hb2 = some (r, hb'), ⟨xs0.length, m1, hb1, fr, s1, Keeps.refl, e0⟩, ?_⟩
      rintro i k σ2 H2 ⟨m2, hb2, fr2, s2, k2, e3⟩
      have hp2 : m2[n]? = some p := Keeps.box k2 hp
      cases k with
      | zero =>
        unfold sForB at e3
        split at e3
        · rename_i xs e4
          split at e3
          · rename_i hz
            cases e3
            obtain ⟨vs, f, rv⟩ := s2.at_.wd.ob n p _ hp2 e4
            exact .inl ⟨bx.stop i H2 vs f (by rw [← rv.length]; exact hz), c m2 H2 σ2 s2 (st1.keeps.trans k2)⟩
          · cases e3
        · cases e3
      | succ k =>
        unfold sForB at e3
        split at e3
        · rename_i xs e4
          split at e3
          · rename_i d e5
            obtain ⟨vs, f, rv⟩ := s2.at_.wd.ob n p _ hp2 e4
            obtain ⟨v0, e6, rd0⟩ := rv.get e5
            refine .inr ⟨bx.go i H2 vs f (List.getElem?_eq_some_iff.mp e6).1, fun σ' H' => ∃ m2 hb2 fr2, FS X.K G m2 H' hb2 fr2 σ' ∧ Kp G m1 H1 fr σ m2 H' fr2 σ' ∧ sForB t sb n en k (i + 1) fr2 hb2 = some (r, hb'), fun σ' H' hN => ⟨k, Nat.lt_succ_self k, hN⟩, fun x H3 y => ?_⟩
            obtain ⟨v, e7, hy⟩ := bx.yld i H2 x H3 vs f y
            rw [e6] at e7
            cases e7
            have hst : Stp X.K (Mf G.M0 fr2 σ2) m2 H2 m2 H3 hb2 ∧ RelD X.K (Bd (Mf G.M0 fr2 σ2) m2) m2 H3 (if en then .tup [.int (i : Nat), d] else d) x := by
              rcases hy with ⟨rfl, rfl, rfl⟩ | ⟨rfl, T, rfl, hT, rfl⟩
              · exact ⟨Stp.refl s2.at_.wd, rd0⟩
              · refine ⟨s2.at_.wd.laid hT, (new_tup (fr := fr2) (σ := σ2) s2.at_.wd hT ?_)⟩
                exact RelDs.cons (by unfold RelD; rfl) (RelDs.cons rd0 RelDs.nil')
            obtain ⟨st3, rd⟩ := hst
            have s3 := s2.step st3
            have k3 := k2.trans st3.keeps
            split at e3
            · cases e3
            · rename_i fr3 q3
              refine stT_ok s3 rd q3 fun σ4 s4 k4 => ?_
              have k4' := k3.trans k4
              split at e3
              · rename_i fr5 hb5 q5
                exact tS_mk s4 q5 fun m' H' σ' s' k' => ⟨m', hb5, fr5, s', k4'.trans k', e3⟩
              · rename_i fr5 hb5 q5
                exact tS_mk s4 q5 fun m' H' σ' s' k' => ⟨m', hb5, fr5, s', k4'.trans k', e3⟩
              · rename_i fr5 hb5 q5
                cases e3
                exact tS_mk s4 q5 fun m' H' σ' s' k' => c m' H' σ' s' (st1.keeps.trans (k4'.trans k'))
              · rename_i hn1 hn2 hn3
                refine tS_mk s4 e3 ?_
                cases r with
                | nx f => exact absurd e3 (hn1 f hb')
                | ct f => exact absurd e3 (hn2 f hb')
                | bk f => exact absurd e3 (hn3 f hb')
                | rt d => exact fun m' H' σ' fr' v s' k' rv => c m' H' σ' fr' v s' (st1.keeps.trans (k4'.trans k')) rv
                | ex x => exact fun m' H' σ' fr' C dd s' k' rx => c m' H' σ' fr' C dd s' (st1.keeps.trans (k4'.trans k')) rx
          · cases e3
        · cases e3
    · cases e0
  · rename_i x hb1 e1
    cases e0
    exact ⟨_, m, hb, fr, .inr x, _, s.at_, e1, fun m1 H1 st1 C dd rx => c m1 H1 σ fr C dd (s.step st1) st1.keeps rx⟩
  · cases e0
end
end DI
set_option Elab.async false
set_option linter.all false
set_option maxRecDepth 100000
namespace DI
open PySem PySem.Spec PyProof.Rows L2

/-- what a def does: the values it is called with, what it hands back or raises -/
def spF (K : PySem.W.Frag) (n : Nat) (ev : FSem) : Sp := fun vs H Q E => ∃ (M0 : Addr → Prop) (ms : List Addr) (hb : HB) (ds : List D) (r : R) (hb' : HB), ds.length = n ∧ Wd K M0 ms H hb ∧ RelDs K (Bd M0 ms) ms H ds vs ∧ ev ds hb = some (r, hb') ∧
  ∀ m' H', Stp K M0 ms H m' H' hb' → match r with
    | .ok d => ∀ v, RelD K (Bd M0 m') m' H' d v → Q v H'
    | .exn x => ∀ C dd, RelX K (Bd M0 m') m' H' x C dd → E C dd H'
/-- a def keeps to ev -/
abbrev FOk (P : Program) (w : World) (K : PySem.W.Frag) (mg : Str → Option Value) (base : Heap) (k : Nat) (f : Addr) (fd : FuncData) (ps : List Str) (ev : FSem) : Prop := FnOk P w K mg base (L2.CX P w) k f fd ps (spF K ps.length ev)
/-- the frame at the entry -/
def fr0 (n : Nat) (ds : List D) : Fr := ds.map .sh ++ List.replicate (n - ds.length) .un
def fnE (n : Nat) (body : Sv) : FSem := fun ds hb => match body (fr0 n ds) hb with
  | some (.nx _, hb1) => some (.ok .non, hb1)
  | some (.rt d, hb1) => some (.ok d, hb1)
  | some (.ex x, hb1) => some (.exn x, hb1)
  | _ => none
theorem fr0_ow {n : Nat} {ds : List D} {i : Nat} {o : O} (h : (fr0 n ds)[i]? = some (.ow o)) : False := by
  unfold fr0 at h
  by_cases hi : i < ds.length
  · rw [List.getElem?_append_left (by simpa using hi), List.getElem?_map] at h
    cases e : ds[i]? with
    | none => rw [e] at h; cases h
    | some d => rw [e] at h; cases h
  · rw [List.getElem?_append_right (by simpa using hi), List.getElem?_replicate] at h
    split at h <;> cases h
theorem Mf_fr0 {M0 : Addr → Prop} {n : Nat} {ds : List D} {σ : St} {a : Addr} : Mf M0 (fr0 n ds) σ a ↔ M0 a := by
  constructor
  · rintro (h | ⟨i, o, h, _⟩)
    · exact h
    · exact (fr0_ow h).elim
  · exact .inl
section
variable {P : Program} {w : World} {K : PySem.W.Frag} {mg : Str → Option Value} {base : Heap}
theorem FS.start {M0 : Addr → Prop} {ms : List Addr} {H : Hp} {hb : HB} {ds : List D} {vs : List V} {N : List Str} (wd : Wd K M0 ms H hb) (r : RelDs K (Bd M0 ms) ms H ds vs) (hl : ds.length ≤ N.length) :
    FS K ⟨M0, ms, H, none⟩ ms H hb (fr0 N.length ds) (L2.start N vs) := by
  have sub : ∀ a, Mf M0 (fr0 N.length ds) (L2.start N vs) a → M0 a := fun a => Mf_fr0.mp
  have kp : Keeps (Bd M0 ms) (Bd (Mf M0 (fr0 N.length ds) (L2.start N vs)) ms) ms ms H H := Keeps.shrink fun b z => z.elim (fun z => .inl (sub b z)) .inr
  have lv : vs.length = ds.length := r.length.symm
  refine ⟨⟨wd.shrink sub, ?_, fun i sv e => ?_⟩, wd.mt, ⟨[], by simp⟩, fun a h n => absurd h n, fun _ _ h _ => h, (fun p hp => by cases hp), fun i o a h => (fr0_ow h).elim, fun i j o o' a h => (fr0_ow h).elim⟩
  · unfold fr0 L2.start
    simp [lv]
  · unfold fr0 at e
    unfold L2.start
    by_cases hi : i < ds.length
    · rw [List.getElem?_append_left (by simpa using hi), List.getElem?_map] at e
      cases q : ds[i]? with
      | none => rw [q] at e; cases e
      | some d =>
        rw [q] at e
        cases e
        obtain ⟨v, e1, rv⟩ := r.get q
        exact ⟨some v, by rw [List.getElem?_append_left (by simpa [lv] using hi), List.getElem?_map, e1]; rfl, v, rfl, rv.keep kp⟩
    · rw [List.getElem?_append_right (by simpa using hi), List.getElem?_replicate] at e
      split at e
      · rename_i hlt
        cases e
        refine ⟨none, ?_, trivial⟩
        rw [List.getElem?_append_right (by simp [lv]; omega), List.getElem?_replicate]
        simp only [List.length_map, lv] at hlt ⊢
        rw [if_pos hlt]
      · cases e
/-- THE RULE of a def -/
theorem fok {x qual : Str} {params : Arguments} {body : List Stmt} {scope : Scope} {dvs : List V} {kws : List (Str × V)} {f : Addr} {fd : FuncData} {N ps : List Str} {k : Nat} {sv : Sv} (F : FunD K x qual params body scope dvs kws f fd) (S : FnScope N ps scope)
    (hbody : ∀ (X : Cx) (W : WX) (G : Gh), X.prog = P → X.w = w → X.K = K → X.mg = mg → X.base = base → X.N = N → X.calm = true → X.fn = (fun _ => true) → X.env.scope = scope → Room k X.A → PassesOwn (model X.prog X.w) X.A X.env X.xe → Takes X W → X.stack = X.env :: X.outer → X.env.frame = some X.env.locals → G.pin = none → SSs X W G body sv) :
    FOk P w K mg base (k + 1) f fd ps (fnE N.length sv) := by
  refine F.ok (sp := spF K ps.length (fnE N.length sv)) S (fun vs H Q E h => ?_) (fun cdv A outer s H vs Q E hr h => ?_)
  · obtain ⟨M0, ms, hb, ds, r, hb', hl, _, rd, _⟩ := h
    rw [← rd.length, hl]
  · obtain ⟨M0, ms, hb, ds, r, hb', hl, wd, rd, e, c⟩ := h
    have hps : ps.length ≤ N.length := by have := congrArg List.length S.pre; rw [List.length_take] at this; omega
    refine ⟨_, hbody (cxOf (L2.CX P w) P w K mg base N qual scope f cdv A outer s H E) (fun cls d _ H => E cls d H) ⟨M0, ms, H, none⟩ rfl rfl rfl rfl rfl rfl rfl rfl rfl hr (passes_of rfl) (takes_of rfl rfl rfl rfl) rfl rfl rfl, ?_⟩
    have s0 : FS K ⟨M0, ms, H, none⟩ ms H hb (fr0 N.length ds) (L2.start N vs) := FS.start wd rd (by omega)
    have toStp : ∀ {m' H' hb2 fr' σ'}, FS K ⟨M0, ms, H, none⟩ m' H' hb2 fr' σ' → Stp K M0 ms H m' H' hb2 := fun s' => ⟨s'.pre, s'.new, s'.keep, s'.at_.wd.shrink fun a h => .inl h⟩
    have shr : ∀ {m' : List Addr} {H' : Hp} {fr' : Fr} {σ' : St}, Keeps (Bd (Mf M0 fr' σ') m') (Bd M0 m') m' m' H' H' := Keeps.shrink fun b z => z.elim (fun z => .inl (.inl z)) .inr
    unfold fnE at e
    split at e
    · rename_i fr1 hb1 e1
      cases e
      exact tS_mk s0 e1 fun m' H' σ' s' _ => c m' H' (toStp s') .non (by unfold RelD; rfl)
    · rename_i d hb1 e1
      cases e
      exact tS_mk s0 e1 fun m' H' σ' fr' v s' _ rv => c m' H' (toStp s') v (rv.keep shr)
    · rename_i x hb1 e1
      cases e
      refine tS_mk s0 e1 fun m' H' σ' fr' C dd s' _ rx => c m' H' (toStp s') C dd ?_
      obtain ⟨h1, d2, vs2, h2, h3, h4, h5⟩ := rx
      exact ⟨h1, d2, vs2, h2, h3, h4, h5.keep shr⟩
    · cases e
end
/-! ### calls -/
def eCall (ev : FSem) (es : Evs) : Ev := fun fr hb => match es fr hb with
  | some (.inl ds, hb1) => if allVal ds then ev ds hb1 else none
  | some (.inr x, hb1) => some (.exn x, hb1)
  | none => none
section
variable {X : Cx} {W : WX} {pos : Pos}
theorem pst_sp {n : Nat} {ev : FSem} {M : Addr → Prop} {m : List Addr} {H : Hp} {hb hb' : HB} {fr : Fr} {σ : St} {ds : List D} {vs : List V} {r : R} {Q : VK} (a : At X.K M m H hb fr σ) (hl : ds.length = n) (rd : RelDs X.K (Bd M m) m H ds vs) (e : ev ds hb = some (r, hb')) (c : Pst X.K W M m H fr σ r hb' Q) :
    spF X.K n ev vs H Q (WE W σ) := by
  refine ⟨M, m, hb, ds, r, hb', hl, a.wd, rd, e, fun m' H' s' => ?_⟩
  have z := c m' H' s'
  cases r with
  | ok d => exact fun v rv => z v rv.t
  | exn x => exact fun C dd rx => z C dd rx
theorem tEs_un {K : PySem.W.Frag} {W : WX} {evs : Evs} {σ : St} {H : Hp} {g : List D → Ev} {Q : VK} (h : tE K W (eL g evs) σ H Q) {R : List V → Hp → Prop}
    (hR : ∀ {M : Addr → Prop} {m hb fr ds vs H1 r hb'}, At K M m H1 hb fr σ → RelTs K M m H1 fr σ ds vs → g ds fr hb = some (r, hb') → Pst K W M m H1 fr σ r hb' Q → R vs H1) : tEs K W evs σ H R := by
  obtain ⟨M, m, hb, fr, r, hb', at_, e, c⟩ := tE_un h
  unfold eL at e
  split at e
  · rename_i ds hb1 e1
    exact ⟨M, m, hb, fr, .inl ds, _, at_.wd, at_.fr, e1, fun m1 H1 s1 vs rv => hR (at_.step s1) rv e (c.step s1)⟩
  · rename_i x hb1 e1
    cases e
    exact ⟨M, m, hb, fr, .inr x, _, at_.wd, at_.fr, e1, fun m1 H1 s1 => c m1 H1 s1⟩
  · cases e
/-- f(e, ..), every parameter given -/
theorem eCall_eL (n : Nat) (ev : FSem) (evs : Evs) : eCall ev evs = eL (fun ds _ hb => if allVal ds then ev ds hb else none) evs := rfl
def eCallN (n : Nat) (ev : FSem) (es : Evs) : Ev := eL (fun ds _ hb => if allVal ds && ds.length == n then ev ds hb else none) es
theorem se_call {k : Nat} {f : Addr} {fd : FuncData} {ps : List Str} {ev : FSem} {x : Str} {p : Pos} {e : Expr} {es : List Expr} {evs : Evs} (F : FOk X.prog X.w X.K X.mg X.base k f fd ps ev) (tk : Takes X W) (hr : Room k X.A) (hg : Gl X x) (hm : X.mg x = some (.ref f)) (hk : PySem.W.keepIn X.K (.ref f) = true)
    (hb : Binds X.K fd ps []) (ha : SEs X W (e :: es) evs) (hdb : (x == ("__debug__" : Str)) = false := by decide) (he : starEach (e :: es) X.env = (false, eval e X.env) :: starEach es X.env := by rfl) (hpl : (backTo pos (starEach es X.env)).any (·.1) = false := by rfl) :
    SE X W (.Call (.Name x p) (e :: es) [] pos) (eCallN ps.length ev evs) := by
  refine PE.mono (pe_callS F hr hg hm hk hb (fun σ => passAt tk σ) ha hdb he hpl) fun σ H Q h => ?_
  refine tEs_un h fun {M m hb fr ds vs H1 r hb'} a rv e c => ?_
  split at e
  · rename_i hv
    obtain ⟨h1, h2⟩ := Bool.and_eq_true_iff.mp hv
    exact pst_sp a (by simpa using h2) (rv.val h1) e c
  · cases e
end
end DI
set_option Elab.async false
set_option linter.all false
set_option maxRecDepth 100000
namespace DI
open PySem PySem.Spec PyProof.Rows L2

/-! ### new objects -/
def Mp (M : Addr → Prop) (p : Addr) : Addr → Prop := fun a => M a ∨ a = p
/-- from (m, H) to (m1, H1), a new object at p that nobody has -/
structure StpP (K : PySem.W.Frag) (M : Addr → Prop) (m : List Addr) (H : Hp) (m1 : List Addr) (H1 : Hp) (hb1 : HB) (p : Addr) : Prop where
  pre : ∃ l, m1 = m ++ l
  new : ∀ a ∈ m1, a ∉ m → H a = none
  fr : ∀ a o, H a = some o → a ∉ m → H1 a = some o
  wd : Wd K (Mp M p) m1 H1 hb1
  pn : H p = none
abbrev Cv := Fr → HB → Option ((O ⊕ Xn) × HB)
def tC' (K : PySem.W.Frag) (W : WX) (cv : Cv) : TE := fun σ H Q => ∃ (M : Addr → Prop) (m : List Addr) (hb : HB) (fr : Fr) (r : O ⊕ Xn) (hb' : HB), At K M m H hb fr σ ∧ cv fr hb = some (r, hb') ∧ match r with
  | .inl o => ∀ m1 H1 p, StpP K M m H m1 H1 hb' p → RelO K (Bd (Mp M p) m1) m1 H1 o p → Q (.ref p) H1
  | .inr x => ∀ m1 H1, Stp K M m H m1 H1 hb' → ∀ C dd, RelX K (Bd M m1) m1 H1 x C dd → W C dd σ H1
abbrev SC (X : Cx) (W : WX) (e : Expr) (cv : Cv) : Prop := PE X e (tC' X.K W cv)
def O.d : O → D
  | .lst xs => .lst xs
  | .dct ks vs => .dct ks vs
  | .ins c fs vs => .ins c fs vs
section
variable {K : PySem.W.Frag} {M : Addr → Prop} {m m1 : List Addr} {H H1 : Hp} {hb hb1 : HB} {p : Addr}
theorem StpP.stp (s : StpP K M m H m1 H1 hb1 p) : Stp K M m H m1 H1 hb1 := ⟨s.pre, s.new, s.fr, s.wd.shrink fun a h => .inl h⟩
theorem StpP.not (w : Wd K M m H hb) (s : StpP K M m H m1 H1 hb1 p) : ¬ Bd M m1 p := fun z => by
  rcases z with z | z
  · obtain ⟨u, hu⟩ := w.mt p z
    rw [s.pn] at hu; cases hu
  · exact s.wd.no p z (.inr rfl)
theorem RelO.d_of {B B' : Addr → Prop} {o : O} (r : RelO K B m H o p) (hB : ∀ a, B' a → B a) (nb : ¬ B' p) : RelD K B' m H o.d (.ref p) := by
  have kp : Keeps B B' m m H H := Keeps.shrink hB
  cases o with
  | lst xs => obtain ⟨vs, h1, h2⟩ := r; unfold O.d RelD; exact ⟨p, vs, rfl, ⟨h1, nb⟩, h2.keep kp⟩
  | dct ks xs =>
    obtain ⟨vs, h1, h2⟩ := r
    unfold O.d RelD
    refine ⟨p, vs, rfl, nb, ?_, h2.keep kp⟩
    rcases h1 with ⟨kvs, f, h3, h4⟩ | ⟨kvs, f, h3, h4⟩
    · exact .inl ⟨kvs, f, h3, h4⟩
    · exact .inr ⟨kvs, f, h3, h4⟩
  | ins c fs xs => obtain ⟨dx, vs, h1, h3, h2⟩ := r; unfold O.d RelD; exact ⟨p, dx, vs, rfl, nb, h1, h3, h2.keep kp⟩
/-- nothing tracked is at a free place -/
theorem Wd.grow (w : Wd K M m H hb) (hp : H p = none) {o : HO} : Wd K (Mp M p) m (upd H p o) hb := by
  have s := w.laid (o := o) hp
  have nep : ∀ a u, H a = some u → a ≠ p := fun a u h => ne_of_none h hp
  have kp : Keeps (Bd M m) (Bd (Mp M p) m) m m H (upd H p o) := ⟨⟨[], by simp⟩, fun a u h n => ⟨by rw [upd_ne (nep a u h)]; exact h, fun z => by
    rcases z with (z | z) | z
    · exact n (.inl z)
    · exact nep a u h z
    · exact n (.inr z)⟩⟩
  refine ⟨w.nd, fun a ha z => ?_, fun a z => ?_, w.len, fun n a ob h1 h2 => (w.ob n a ob h1 h2).keep_own kp fun u h => by rw [upd_ne (nep a u h)]; exact h⟩
  · rcases z with z | z
    · exact w.no a ha z
    · obtain ⟨u, hu⟩ := w.there ha
      exact nep a u hu z
  · rcases z with z | z
    · obtain ⟨u, hu⟩ := s.wd.mt a z
      exact ⟨u, hu⟩
    · subst z
      exact ⟨o, upd_same⟩
theorem Keeps.grow (hp : H p = none) {o : HO} : Keeps (Bd M m) (Bd (Mp M p) m) m m H (upd H p o) := by
  have nep : ∀ a u, H a = some u → a ≠ p := fun a u h => ne_of_none h hp
  exact ⟨⟨[], by simp⟩, fun a u h n => ⟨by rw [upd_ne (nep a u h)]; exact h, fun z => by
    rcases z with (z | z) | z
    · exact n (.inl z)
    · exact nep a u h z
    · exact n (.inr z)⟩⟩
theorem Stp.free (s : Stp K M m H m1 H1 hb1) (hp : H1 p = none) (w : Wd K M m H hb) : H p = none := by
  cases q : H p with
  | none => rfl
  | some o =>
    by_cases hm : p ∈ m
    · obtain ⟨l, e⟩ := s.pre
      obtain ⟨u, hu⟩ := s.wd.there (a := p) (by rw [e]; exact List.mem_append_left _ hm)
      rw [hp] at hu; cases hu
    · have := s.fr p o q hm
      rw [hp] at this; cases this
/-- laid behind a step -/
theorem Stp.newP (s : Stp K M m H m1 H1 hb1) (w : Wd K M m H hb) (hp : H1 p = none) {o : HO} : StpP K M m H m1 (upd H1 p o) hb1 p :=
  ⟨s.pre, s.new, fun a u h n => by rw [upd_ne (ne_of_none (s.fr a u h n) hp)]; exact s.fr a u h n, s.wd.grow hp, s.free hp w⟩
end
section
variable {X : Cx} {W : WX} {G : Gh} {pos : Pos} {e : Expr}
/-- .. then frozen -/
def eFz (cv : Cv) : Ev := fun fr hb => match cv fr hb with
  | some (.inl o, hb1) => some (.ok o.d, hb1)
  | some (.inr x, hb1) => some (.exn x, hb1)
  | none => none
theorem O.d_val (o : O) : o.d.isVal = true := by cases o <;> rfl
theorem se_fz {cv : Cv} (h : SC X W e cv) : SE X W e (eFz cv) := PE.mono h fun σ H Q hq => by
  obtain ⟨M, m, hb, fr, r, hb', at_, e, c⟩ := tE_un hq
  unfold eFz at e
  split at e
  · rename_i o hb1 e1
    cases e
    refine ⟨M, m, hb, fr, .inl o, _, at_, e1, fun m1 H1 p s r => ?_⟩
    exact c m1 H1 s.stp _ (RelD.t (r.d_of (fun a z => z.elim (fun z => .inl (.inl z)) .inr) (s.not at_.wd)))
  · rename_i x hb1 e1
    cases e
    exact ⟨M, m, hb, fr, .inr x, _, at_, e1, fun m1 H1 s => c m1 H1 s⟩
  · cases e
/-- .. then boxed -/
def eBx (cv : Cv) : Ev := fun fr hb => match cv fr hb with
  | some (.inl o, hb1) => some (.ok (.box hb1.length), hb1 ++ [o])
  | some (.inr x, hb1) => some (.exn x, hb1)
  | none => none
theorem se_bx {cv : Cv} (h : SC X W e cv) : SE X W e (eBx cv) := PE.mono h fun σ H Q hq => by
  obtain ⟨M, m, hb, fr, r, hb', at_, e, c⟩ := tE_un hq
  unfold eBx at e
  split at e
  · rename_i o hb1 e1
    cases e
    refine ⟨M, m, hb, fr, .inl o, hb1, at_, e1, fun m1 H1 p s r => ?_⟩
    have ps : p ∉ m1 := fun z => s.wd.no p z (.inr rfl)
    have np : ¬ M p := fun z => s.not at_.wd (.inl z)
    have kp : Keeps (Bd (Mp M p) m1) (Bd M (m1 ++ [p])) m1 (m1 ++ [p]) H1 H1 := ⟨⟨[p], rfl⟩, fun a u q n => ⟨q, fun z => n (by
      rcases z with z | z
      · exact .inl (.inl z)
      · rcases List.mem_append.mp z with z | z
        · exact .inr z
        · exact .inl (.inr (by simpa using z)))⟩⟩
    obtain ⟨l, hl⟩ := s.pre
    have st : Stp X.K M m H (m1 ++ [p]) H1 (hb1 ++ [o]) := by
      refine ⟨⟨l ++ [p], by rw [hl, List.append_assoc]⟩, fun a ha hn => ?_, s.fr, ⟨?_, fun a ha z => ?_, fun a z => s.wd.mt a (.inl z), by simp [s.wd.len], fun n a ob h1 h2 => ?_⟩⟩
      · rcases List.mem_append.mp ha with z | z
        · exact s.new a z hn
        · have : a = p := by simpa using z
          rw [this]; exact s.pn
      · rw [List.nodup_append]
        refine ⟨s.wd.nd, by simp, fun a ha b hb2 e => ?_⟩
        have : b = p := by simpa using hb2
        subst this
        subst e
        exact ps ha
      · rcases List.mem_append.mp ha with q | q
        · exact s.wd.no a q (.inl z)
        · have : a = p := by simpa using q
          subst this
          exact np z
      · by_cases hn : n < m1.length
        · rw [List.getElem?_append_left hn] at h1
          rw [List.getElem?_append_left (by rw [s.wd.len]; exact hn)] at h2
          exact (s.wd.ob n a ob h1 h2).keep_own kp fun _ q => q
        · rw [List.getElem?_append_right (by omega)] at h1
          rw [List.getElem?_append_right (by rw [s.wd.len]; omega), s.wd.len] at h2
          cases k : n - m1.length with
          | succ j => rw [k] at h1; simp at h1
          | zero =>
            rw [k] at h1 h2
            simp at h1 h2
            subst h1
            subst h2
            exact r.keep_own kp fun _ q => q
    refine c _ _ st _ ?_
    show RelD _ _ _ _ _ _
    unfold RelD
    exact ⟨p, rfl, by rw [s.wd.len, List.getElem?_append_right (Nat.le_refl _)]; simp⟩
  · rename_i x hb1 e1
    cases e
    exact ⟨M, m, hb, fr, .inr x, _, at_, e1, fun m1 H1 s => c m1 H1 s⟩
  · cases e
/-- [a, b, ..] -/
def cLst (es : Evs) : Cv := fun fr hb => match es fr hb with
  | some (.inl ds, hb1) => if allVal ds && decide (ds.length ≤ szL) then some (.inl (.lst ds), hb1) else none
  | some (.inr x, hb1) => some (.inr x, hb1)
  | none => none
theorem sc_lst {es : List Expr} {evs : Evs} (h : SEs X W es evs) : SC X W (.List es pos) (cLst evs) := PE.mono (pe_lst h) fun σ H Q hq => by
  obtain ⟨M, m, hb, fr, r, hb', at_, e, c⟩ := hq
  unfold cLst at e
  split at e
  · rename_i ds hb1 e1
    split at e
    · rename_i hz
      obtain ⟨h1, h2⟩ := Bool.and_eq_true_iff.mp hz
      cases e
      refine ⟨M, m, hb, fr, .inl ds, _, at_.wd, at_.fr, e1, fun m1 H1 s1 vs rv => ⟨?_, fun p hp => ?_⟩⟩
      · rw [rv.len, ← szL_eq]; exact of_decide_eq_true h2
      · exact c m1 _ p (s1.newP at_.wd hp) ⟨vs, upd_same, (rv.val h1).keep (Keeps.grow hp)⟩
    · cases e
  · rename_i x hb1 e1
    cases e
    exact ⟨M, m, hb, fr, .inr x, _, at_.wd, at_.fr, e1, fun m1 H1 s1 => c m1 H1 s1⟩
  · cases e
/-! ### the frame's own -/
theorem FS.setOw {K : PySem.W.Frag} {m m1 : List Addr} {H H1 : Hp} {hb hb1 : HB} {fr : Fr} {σ : St} {i : Nat} {o : O} {p : Addr} (s : FS K G m H hb fr σ) (hpin : G.pin = none ∨ i ≠ 0) (hi : i < fr.length) (t : StpP K (Mf G.M0 fr σ) m H m1 H1 hb1 p) (r : RelO K (Bd (Mp (Mf G.M0 fr σ) p) m1) m1 H1 o p) :
    FS K G m1 H1 hb1 (fr.set i (.ow o)) (σ.set i (some (.ref p))) ∧ Kp G m H fr σ m1 H1 (fr.set i (.ow o)) (σ.set i (some (.ref p))) := by
  have s1 := s.step t.stp
  have sub : ∀ a, Mf G.M0 (fr.set i (.ow o)) (σ.set i (some (.ref p))) a → Mp (Mf G.M0 fr σ) p a := fun a z => by
    rcases z with z | ⟨j, o', h1, h2⟩
    · exact .inl (.inl z)
    · by_cases e : i = j
      · subst e
        rw [List.getElem?_set] at h2
        simp only [if_true] at h2
        split at h2
        · cases h2; exact .inr rfl
        · cases h2
      · rw [List.getElem?_set_ne e] at h1 h2
        exact .inl (.inr ⟨j, o', h1, h2⟩)
  have hiσ : i < σ.length := by rw [← s.at_.fr.1]; exact hi
  have kp : Keeps (Bd (Mp (Mf G.M0 fr σ) p) m1) (Bd (Mf G.M0 (fr.set i (.ow o)) (σ.set i (some (.ref p)))) m1) m1 m1 H1 H1 := Keeps.shrink fun b z => z.elim (fun z => .inl (sub b z)) .inr
  have k0 : Keeps (Bd (Mf G.M0 fr σ) m) (Bd (Mp (Mf G.M0 fr σ) p) m1) m m1 H H1 := ⟨t.pre, fun a u h n => by
    have k := t.stp.keeps.fr a u h n
    refine ⟨k.1, fun z => ?_⟩
    rcases z with (z | z) | z
    · exact k.2 (.inl z)
    · subst z
      rw [t.pn] at h; cases h
    · exact k.2 (.inr z)⟩
  have pfree : ∀ (j : Nat) o', fr[j]? = some (.ow o') → σ[j]? ≠ some (some (.ref p)) := fun j o' h1 h2 => by
    obtain ⟨x, e1, a, e2, hM, nm, r2⟩ := s.at_.fr.2 j _ h1
    rw [e1] at h2
    cases h2
    cases e2
    obtain ⟨u, hu⟩ := r2.there
    rw [t.pn] at hu; cases hu
  have hsp : G.Hs p = none := by
    cases q : G.Hs p with
    | none => rfl
    | some u =>
      by_cases hm : p ∈ G.ms
      · obtain ⟨l, e⟩ := s.pre
        obtain ⟨v, hv⟩ := s.at_.wd.there (a := p) (by rw [e]; exact List.mem_append_left _ hm)
        rw [t.pn] at hv; cases hv
      · have := s.keep p u q hm
        rw [t.pn] at this; cases this
  refine ⟨⟨⟨t.wd.shrink sub, by rw [List.length_set, List.length_set]; exact s.at_.fr.1, fun j sv e => ?_⟩, s.m0, s1.pre, s1.new, s1.keep, s.pin.ow hpin, fun j o' a h1 h2 => ?_, fun j k o1 o2 a h1 h2 h3 h4 => ?_⟩, k0.trans kp⟩
  · by_cases hj : i = j
    · subst hj
      rw [List.getElem?_set] at e
      simp only [if_true, hi] at e
      cases e
      refine ⟨some (.ref p), by rw [List.getElem?_set]; simp [hiσ], p, rfl, .inr ⟨i, o, by rw [List.getElem?_set]; simp [hi], by rw [List.getElem?_set]; simp [hiσ]⟩, fun z => t.wd.no p z (.inr rfl), r.keep_own kp fun _ q => q⟩
    · rw [List.getElem?_set_ne hj] at e
      obtain ⟨x, e1, r1⟩ := s.at_.fr.2 j sv e
      refine ⟨x, by rw [List.getElem?_set_ne hj]; exact e1, ?_⟩
      cases sv with
      | un => trivial
      | sh d' => obtain ⟨w, e2, r2⟩ := r1; exact ⟨w, e2, (r2.keep k0).keep kp⟩
      | ow o' =>
        obtain ⟨a, e2, hM, nm, r2⟩ := r1
        subst e2
        refine ⟨a, rfl, .inr ⟨j, o', by rw [List.getElem?_set_ne hj]; exact e, by rw [List.getElem?_set_ne hj]; exact e1⟩, fun z => t.wd.no a z (.inl hM), (r2.keep_own k0 fun u q => t.fr a u q nm).keep_own kp fun _ q => q⟩
  · by_cases hj : i = j
    · subst hj
      rw [List.getElem?_set] at h2
      simp only [if_true, hiσ] at h2
      cases h2
      exact hsp
    · rw [List.getElem?_set_ne hj] at h1 h2
      exact s.own j o' a h1 h2
  · by_cases hj : i = j
    · by_cases hk : i = k
      · exact hj.symm.trans hk
      · subst hj
        rw [List.getElem?_set] at h3
        simp only [if_true, hiσ] at h3
        cases h3
        rw [List.getElem?_set_ne hk] at h2 h4
        exact absurd h4 (pfree k o2 h2)
    · by_cases hk : i = k
      · subst hk
        rw [List.getElem?_set] at h4
        simp only [if_true, hiσ] at h4
        cases h4
        rw [List.getElem?_set_ne hj] at h1 h3
        exact absurd h3 (pfree j o1 h1)
      · rw [List.getElem?_set_ne hj] at h1 h3
        rw [List.getElem?_set_ne hk] at h2 h4
        exact s.dist j k o1 o2 a h1 h2 h3 h4
def sOwn (i : Nat) (cv : Cv) : Sv := fun fr hb => match cv fr hb with
  | some (.inl o, hb1) => if i < fr.length then some (.nx (fr.set i (.ow o)), hb1) else none
  | some (.inr x, hb1) => some (.ex x, hb1)
  | none => none
theorem tS_own {K : PySem.W.Frag} {cv : Cv} {i : Nat} {D : Ends} {σ : St} {H : Hp} (hpin : G.pin = none ∨ i ≠ 0) (h : tS K W G (sOwn i cv) D σ H) : tAsg (tC' K W cv) (gName i) D σ H := by
  obtain ⟨m, hb, fr, r, hb', s, e, c⟩ := h
  unfold sOwn at e
  split at e
  · rename_i o hb1 e1
    split at e
    · rename_i hi
      cases e
      refine ⟨_, m, hb, fr, .inl o, _, s.at_, e1, fun m1 H1 p t r => ?_⟩
      obtain ⟨s2, k2⟩ := s.setOw hpin hi t r
      exact c m1 H1 _ s2 k2
    · cases e
  · rename_i x hb1 e1
    cases e
    exact ⟨_, m, hb, fr, .inr x, _, s.at_, e1, fun m1 H1 t C dd rx => c m1 H1 σ fr C dd (s.step t) t.keeps rx⟩
  · cases e
theorem ss_own {cv : Cv} {i : Nat} {x : Str} {pos' : Pos} (hpin : G.pin = none ∨ i ≠ 0) (he : SC X W e cv) (hN : X.N.Nodup) (hi : X.N[i]? = some x) (hx : Loc X.env.scope x) (hs : swapsWith e (some (.Name x pos')) pos.line X.env = pure false := by rfl) (hf : X.fn x = true ∨ X.env.scope.names.lookup x = some .local := by first | exact .inl rfl | exact .inr rfl | assumption) :
    SS X W G (.Assign [.Name x pos'] e pos) (sOwn i cv) := PS.mono (ps_set hN hi hx he hs hf) fun D σ H h => tS_own hpin h
end
end DI
set_option Elab.async false
set_option linter.all false
set_option maxRecDepth 100000
namespace DI
open PySem PySem.Spec PyProof.Rows L2

/-! ### comprehensions -/
def wipeF (fr : Fr) : List Nat → Fr
  | [] => fr
  | v :: vs => (wipeF fr vs).set v .un
/-- nothing is raised within -/
abbrev W0 : WX := fun _ _ _ _ => False
def lcL (t : Tg) (c el : Ev) : List D → List D → Fr → HB → Option (List D × HB)
  | [], acc, _, hb => some (acc, hb)
  | d :: ds, acc, fr, hb => match stT t d fr with
    | none => none
    | some fr1 => match c fr1 hb with
      | some (.ok (.bl true), hb1) => (match el fr1 hb1 with
        | some (.ok y, hb2) => if y.isVal && decide (acc.length < szL) then lcL t c el ds (acc ++ [y]) fr hb2 else none
        | _ => none)
      | some (.ok (.bl false), hb1) => lcL t c el ds acc fr hb1
      | _ => none
def cLc (iv : Iv) (t : Tg) (vs : List Nat) (c el : Ev) : Cv := fun fr hb => match iv fr hb with
  | some (.inl (.ls ds _), hb1) => (match lcL t c el ds [] (wipeF fr vs) hb1 with
    | some (ys, hb2) => some (.inl (.lst ys), hb2)
    | none => none)
  | some (.inr x, hb1) => some (.inr x, hb1)
  | _ => none
def Tg.slots : Tg → List Nat
  | .nm i => [i]
  | .tp is => is
section
variable {K : PySem.W.Frag} {M : Addr → Prop} {m m1 : List Addr} {H H1 : Hp} {hb hb1 : HB} {fr fr' : Fr} {σ : St}
theorem At.wipe (a : At K M m H hb fr σ) : ∀ vs : List Nat, At K M m H hb (wipeF fr vs) (wipe σ vs)
  | [] => a
  | v :: vs => by
    have ih := At.wipe a vs
    refine ⟨a.wd, ?_, fun i sv e => ?_⟩
    · show ((wipeF fr vs).set v .un).length = ((L2.wipe σ vs).set v none).length
      rw [List.length_set, List.length_set]; exact ih.fr.1
    · have e' : ((wipeF fr vs).set v .un)[i]? = some sv := e
      show ∃ x, ((L2.wipe σ vs).set v none)[i]? = some x ∧ RelS K M m H sv x
      by_cases hi : v = i
      · subst hi
        rw [List.getElem?_set] at e'
        simp only [if_true] at e'
        split at e'
        · rename_i hl
          cases e'
          exact ⟨none, by rw [List.getElem?_set]; simp; rw [← ih.fr.1]; exact hl, trivial⟩
        · cases e'
      · rw [List.getElem?_set_ne hi] at e' ⊢
        exact ih.fr.2 i sv e'
theorem At.set (a : At K M m H hb fr σ) {i : Nat} {d : D} {v : V} (r : RelD K (Bd M m) m H d v) : At K M m H hb (fr.set i (.sh d)) (σ.set i (some v)) := by
  refine ⟨a.wd, by rw [List.length_set, List.length_set]; exact a.fr.1, fun j sv e => ?_⟩
  by_cases hj : i = j
  · subst hj
    rw [List.getElem?_set] at e
    simp only [if_true] at e
    split at e
    · rename_i hl
      cases e
      exact ⟨some v, by rw [List.getElem?_set]; simp; rw [← a.fr.1]; exact hl, v, rfl, r⟩
    · cases e
  · rw [List.getElem?_set_ne hj] at e ⊢
    exact a.fr.2 j sv e
theorem wipe_set {σ : St} {i : Nat} {x : Option V} : ∀ {vs : List Nat}, i ∈ vs → wipe (σ.set i x) vs = wipe σ vs
  | [], h => by simp at h
  | v :: vs, h => by
    show (wipe (σ.set i x) vs).set v none = (wipe σ vs).set v none
    by_cases hv : i ∈ vs
    · rw [wipe_set hv]
    · have e : v = i := by
        rcases List.mem_cons.mp h with q | q
        · exact q.symm
        · exact absurd q hv
      subst e
      have out : ∀ {ws : List Nat}, v ∉ ws → wipe (σ.set v x) ws = (wipe σ ws).set v x := by
        intro ws
        induction ws with
        | nil => intro _; rfl
        | cons w ws ih =>
          intro hn
          show (wipe (σ.set v x) ws).set w none = ((wipe σ ws).set w none).set v x
          rw [ih fun z => hn (List.mem_cons_of_mem _ z)]
          exact List.set_comm _ _ fun z => hn (by rw [z]; exact List.mem_cons_self)
      rw [out hv, List.set_set]
theorem wipe_wipe (σ : St) (vs : List Nat) : wipe (wipe σ vs) vs = wipe σ vs := by
  have gen : ∀ (ws us : List Nat), (∀ w ∈ ws, w ∈ us) → ∀ σ : St, wipe (wipe σ ws) us = wipe σ us := by
    intro ws
    induction ws with
    | nil => intro us _ σ; rfl
    | cons w ws ih =>
      intro us h σ
      show wipe ((wipe σ ws).set w none) us = _
      rw [wipe_set (h w List.mem_cons_self)]
      exact ih us (fun x hx => h x (List.mem_cons_of_mem _ hx)) σ
  exact gen vs vs (fun _ h => h) σ
theorem stAll_at : ∀ {is : List Nat} {ds : List D} {ws : List V} {fr : Fr} {σ : St} {vs : List Nat} {Q : St → Hp → Prop}, At K M m H hb fr σ → RelDs K (Bd M m) m H ds ws → stAll is ds fr = some fr' → (∀ i ∈ is, i ∈ vs) →
    (∀ σ', At K M m H hb fr' σ' → wipe σ' vs = wipe σ vs → Q σ' H) → gNames is ws σ H Q
  | [], [], ws, fr, σ, vs, Q, s, r, e, hv, c => by
    cases e
    exact ⟨RelDs.nil_iff.mp r, c σ s rfl⟩
  | i :: is, d :: ds, ws, fr, σ, vs, Q, s, r, e, hv, c => by
    obtain ⟨v, w, rfl, r1, r2⟩ := RelDs.cons_inv r
    refine ⟨v, w, rfl, ?_⟩
    show gNames is w (σ.set i (some v)) H Q
    exact stAll_at (s.set r1) r2 e (fun j hj => hv j (List.mem_cons_of_mem _ hj)) fun σ' s' k' => c σ' s' (k'.trans (wipe_set (hv i List.mem_cons_self)))
  | [], _ :: _, _, _, _, _, _, _, _, e, _, _ => by cases e
  | _ :: _, [], _, _, _, _, _, _, _, e, _, _ => by cases e
theorem stAll_len : ∀ {is : List Nat} {ds : List D} {fr : Fr}, stAll is ds fr = some fr' → ds.length = is.length
  | [], [], _, _ => rfl
  | [], _ :: _, _, e => by cases e
  | _ :: _, [], _, e => by cases e
  | i :: is, d :: ds, fr, e => by simp [stAll_len (show stAll is ds _ = some fr' from e)]
theorem stT_at {t : Tg} {d : D} {v : V} {vs : List Nat} {Q : St → Hp → Prop} (s : At K M m H hb fr σ) (r : RelD K (Bd M m) m H d v) (e : stT t d fr = some fr') (hv : ∀ i ∈ t.slots, i ∈ vs)
    (c : ∀ σ', At K M m H hb fr' σ' → wipe σ' vs = wipe σ vs → Q σ' H) : gT K t v σ H Q := by
  unfold stT at e
  split at e
  · cases e
    exact c _ (s.set r) (wipe_set (hv _ (by simp [Tg.slots])))
  · rename_i is ds _
    obtain ⟨p, ws, rfl, f, r'⟩ := vTup_ok (fr := []) (σ := []) r
    exact ⟨p, ws, rfl, f, by rw [← stAll_len e, r'.length], stAll_at s r' e hv c⟩
  · cases e
end
section
variable {X : Cx} {W : WX} {pos : Pos} {tg iter elt : Expr} {ifs : List Expr} {scope : Scope} {own : List (Str × Nat)} {iv : Iv} {t : Tg} {c el : Ev}
/-- what a comprehension's loop keeps -/
theorem lc_reads {K : PySem.W.Frag} {σ : St} {H : Hp} {vs : List Nat} {Q : VK} (hv : ∀ i ∈ t.slots, i ∈ vs) (h : tC' K W (cLc iv t vs c el) σ H Q) : tLc (tI K W iv) (gT K t) (tT K W0 c) (tE K W0 el) vs σ H Q := by
  obtain ⟨M, m, hb, fr, r, hb', at_, e, cc⟩ := h
  unfold cLc at e
  split at e
  · rename_i ds fz hb1 e1
    split at e
    · rename_i ys hb2 e2
      cases e
      refine ⟨M, m, hb, fr, .inl (.ls ds fz), hb1, at_, e1, fun m1 H1 s1 J Gd Y wd p hp => ?_⟩
      have a1 := at_.step s1
      have w1 := a1.wd.grow (o := .lst []) hp
      have hk0 : ∀ a o, H1 a = some o → upd H1 p (.lst []) a = some o := fun a o q => by rw [upd_ne (ne_of_none q hp)]; exact q
      have f1 : FrR K (Mp M p) m1 (upd H1 p (.lst [])) fr σ := ⟨a1.fr.1, fun i sv q => by
        obtain ⟨x, q1, r1⟩ := a1.fr.2 i sv q
        refine ⟨x, q1, ?_⟩
        cases sv with
        | un => trivial
        | sh d => obtain ⟨v, q2, r2⟩ := r1; exact ⟨v, q2, r2.keep (Keeps.grow hp)⟩
        | ow o => obtain ⟨a, q2, hM, nm, r2⟩ := r1; exact ⟨a, q2, .inl hM, nm, r2.keep_own (Keeps.grow hp) fun u q => hk0 a u q⟩⟩
      refine lc_it wd.walk (fun i H2 => ∃ m2 hb2' acc accV, H2 p = some (.lst accV) ∧ RelDs K (Bd (Mp M p) m2) m2 H2 acc accV ∧ At K (Mp M p) m2 H2 hb2' fr σ ∧ (∃ l, m2 = m1 ++ l) ∧ (∀ a ∈ m2, a ∉ m1 → H1 a = none) ∧ (∀ a o, H1 a = some o → a ∉ m1 → H2 a = some o) ∧
        lcL t c el (ds.drop i) acc (wipeF fr vs) hb2' = some (ys, hb')) ⟨m1, hb1, [], [], upd_same, RelDs.nil', ⟨w1, f1⟩, ⟨[], by simp⟩, fun a h n => absurd h n, fun a o q _ => hk0 a o q, e2⟩ ?_ ?_ ?_
      · rintro i H2 hi ⟨m2, hb3, acc, accV, q1, q2, q3, q4, q5, q6, q7⟩
        refine wd.stand H2 fun a o q nb => q6 a o q fun z => nb ?_
        cases fz with
        | true => exact .inr z
        | false => exact z
      · rintro i x H2 H3 hi ⟨m2, hb3, acc, accV, q1, q2, q3, q4, q5, q6, q7⟩ y
        have kk : Keeps (Bd M m1) (Bd (Mp M p) m2) m1 m2 H1 H2 := ⟨q4, fun a o q n => by
          have n1 : a ∉ m1 := fun z => n (.inr z)
          refine ⟨q6 a o q n1, fun z => ?_⟩
          rcases z with (z | z) | z
          · exact n (.inl z)
          · subst z; rw [hp] at q; cases q
          · have := q5 a z n1
            rw [q] at this; cases this⟩
        obtain ⟨d, hd, rd⟩ := wd.item i H2 x H3 hi y _ m2 kk fun a ha => fresh_no q3.wd ha
        have st3 : Stp K (Mp M p) m2 H2 m2 H3 hb3 := by
          rcases wd.heap i H2 x H3 y with rfl | ⟨a, ws, ha, rfl⟩
          · exact Stp.refl q3.wd
          · exact q3.wd.laid ha
        have a3 := q3.step st3
        have pn3 : p ∉ m2 := fun z => q3.wd.no p z (.inr rfl)
        have q1' : H3 p = some (.lst accV) := st3.fr p _ q1 pn3
        have q2' := q2.keep st3.keeps
        have hdrop : ds.drop i = d :: ds.drop (i + 1) := by
          have hlt := (List.getElem?_eq_some_iff.mp hd).1
          rw [List.drop_eq_getElem_cons hlt, (List.getElem?_eq_some_iff.mp hd).2]
        rw [hdrop] at q7
        unfold lcL at q7
        split at q7
        · cases q7
        · rename_i fr1 z1
          refine stT_at (a3.wipe vs) rd z1 hv fun σ4 a4 ws => ⟨ws.trans (wipe_wipe σ vs), ?_⟩
          -- back to the frame ahead
          have back : ∀ {m4 : List Addr} {H4 : Hp} {hb4 : HB}, Stp K (Mp M p) m2 H3 m4 H4 hb4 → At K (Mp M p) m4 H4 hb4 fr σ := fun s4 => a3.step s4
          have pre4 : ∀ {m4 : List Addr} {H4 : Hp} {hb4 : HB}, Stp K (Mp M p) m2 H3 m4 H4 hb4 → (∃ l, m4 = m1 ++ l) ∧ (∀ a ∈ m4, a ∉ m1 → H1 a = none) ∧ (∀ a o, H1 a = some o → a ∉ m1 → H4 a = some o) := fun s4 => by
            have st := st3.trans s4
            obtain ⟨l, hl⟩ := q4
            obtain ⟨l2, hl2⟩ := st.pre
            refine ⟨⟨l ++ l2, by rw [hl2, hl, List.append_assoc]⟩, fun a ha hn => ?_, fun a o q hn => ?_⟩
            · by_cases h2 : a ∈ m2
              · exact q5 a h2 hn
              · have := st.new a ha h2
                cases q : H1 a with
                | none => rfl
                | some o => have z := q6 a o q hn; rw [this] at z; cases z
            · refine st.fr a o (q6 a o q hn) fun z => ?_
              have := q5 a z hn
              rw [q] at this; cases this
          split at q7
          · rename_i hb4 z2
            refine ⟨Mp M p, m2, hb3, fr1, .ok (.bl true), hb4, a4.wd, a4.fr, z2, fun m4 H4 s4 => ⟨true, rfl, ift ?_⟩⟩
            split at q7
            · rename_i yd hb5 z3
              split at q7
              · rename_i hz
                obtain ⟨hz1, hz2⟩ := Bool.and_eq_true_iff.mp hz
                refine tE_mk (a4.step s4) z3 fun m5 H5 s5 yv ry => ?_
                have s45 := s4.trans s5
                have p5 : p ∉ m5 := fun z => s5.wd.no p z (.inr rfl)
                have q5' : H5 p = some (.lst accV) := s45.fr p _ q1' pn3
                have acc5 := q2'.keep s45.keeps
                have a5 := back s45
                obtain ⟨g1, g2, g3⟩ := pre4 s45
                have ryv := ry.val hz1
                -- p is written
                have kw : Keeps (Bd (Mp M p) m5) (Bd (Mp M p) m5) m5 m5 H5 (upd H5 p (.lst (accV ++ [yv]))) := ⟨⟨[], by simp⟩, fun a o q n => ⟨by
                  have : a ≠ p := fun z => n (.inl (.inr z))
                  rw [upd_ne this]; exact q, n⟩⟩
                have nep : ∀ a ∈ m5, a ≠ p := fun a ha z => p5 (by rw [← z]; exact ha)
                have wdw : Wd K (Mp M p) m5 (upd H5 p (.lst (accV ++ [yv]))) hb5 := by
                  refine ⟨s5.wd.nd, s5.wd.no, fun a ha => ?_, s5.wd.len, fun n a ob h1 h2 => (s5.wd.ob n a ob h1 h2).keep_own kw fun u q => ?_⟩
                  · by_cases hap : a = p
                    · subst hap; exact ⟨_, upd_same⟩
                    · rw [upd_ne hap]; exact s5.wd.mt a ha
                  · rw [upd_ne (nep a (List.mem_of_getElem? h1))]; exact q
                refine ⟨accV, q5', ?_, m5, hb5, acc ++ [yd], accV ++ [yv], upd_same, (acc5.append (RelDs.cons ryv RelDs.nil')).keep kw, ⟨wdw, a5.fr.1, fun j sv q => ?_⟩, g1, g2, fun a o q hn => ?_, q7⟩
                · rw [← acc5.length, ← szL_eq]; exact of_decide_eq_true hz2
                · obtain ⟨x', q8, r8⟩ := a5.fr.2 j sv q
                  refine ⟨x', q8, ?_⟩
                  cases sv with
                  | un => trivial
                  | sh d' => obtain ⟨v', q9, r9⟩ := r8; exact ⟨v', q9, r9.keep kw⟩
                  | ow o =>
                    obtain ⟨a, q9, hM, nm, r9⟩ := r8
                    refine ⟨a, q9, hM, nm, r9.keep_own kw fun u q => ?_⟩
                    by_cases hap : a = p
                    · -- the frame's own objects are older than p
                      subst hap
                      obtain ⟨x0, c1, r0⟩ := a1.fr.2 j _ (by assumption)
                      obtain ⟨b, c2, _, _, r0'⟩ := r0
                      rw [q8] at c1
                      cases c1
                      rw [q9] at c2
                      cases c2
                      obtain ⟨u0, hu0⟩ := r0'.there
                      rw [hp] at hu0; cases hu0
                    · rw [upd_ne hap]; exact q
                · have hap : a ≠ p := ne_of_none q hp
                  rw [upd_ne hap]
                  exact g3 a o q hn
              · cases q7
            · cases q7
          · rename_i hb4 z2
            refine ⟨Mp M p, m2, hb3, fr1, .ok (.bl false), hb4, a4.wd, a4.fr, z2, fun m4 H4 s4 => ⟨false, rfl, iff_ ?_⟩⟩
            obtain ⟨g1, g2, g3⟩ := pre4 s4
            exact ⟨m4, hb4, acc, accV, s4.fr p _ q1' pn3, q2'.keep s4.keeps, back s4, g1, g2, g3, q7⟩
          · cases q7
      · rintro H2 ⟨m2, hb3, acc, accV, q1, q2, q3, ⟨l2, hl2⟩, q5, q6, q7⟩
        rw [List.drop_length] at q7
        cases q7
        obtain ⟨l1, hl1⟩ := s1.pre
        refine cc m2 H2 p ⟨⟨l1 ++ l2, by rw [hl2, hl1, List.append_assoc]⟩, fun a ha hn => ?_, fun a o q hn => ?_, q3.wd, s1.free hp at_.wd⟩ ⟨accV, q1, q2⟩
        · by_cases h1 : a ∈ m1
          · exact s1.new a h1 hn
          · have := q5 a ha h1
            cases q : H a with
            | none => rfl
            | some o => have z := s1.fr a o q hn; rw [this] at z; cases z
        · refine q6 a o (s1.fr a o q hn) fun z => ?_
          have := s1.new a z hn
          rw [q] at this; cases this
    · cases e
  · rename_i x hb1 e1
    cases e
    exact ⟨M, m, hb, fr, .inr x, _, at_, e1, fun m1 H1 s1 => cc m1 H1 s1⟩
  · cases e
/-- the judgement of what stands within -/
abbrev Blk (X : Cx) (scope : Scope) (R : Cx → Prop) : Prop := ∀ (s : Shared) (H : Hp) (C : Addr) (cl : List (Str × Addr)) (fp : List Addr), R (X.blk s H scope (compEnvC scope cl C X.env) fp)
abbrev STs (X : Cx) (W : WX) (es : List Expr) (ev : Ev) : Prop := PTs X es (tT X.K W ev)
theorem sts_nil {X : Cx} {W : WX} : STs X W [] (eC (.bl true)) := ⟨fun pins s σ H Q I h => by
  obtain ⟨M, m, hb, fr, r, hb', w, f, e, c⟩ := h
  cases e
  obtain ⟨b, q1, q2⟩ := c m H (Stp.refl w)
  cases q1
  exact pts_nil.run pins s σ H Q I q2⟩
theorem sts_one {X : Cx} {W : WX} {e : Expr} {ev : Ev} (h : ST X W e ev) : STs X W [e] ev := pts_one h
theorem sc_lc (hc : X.calm = true) (hN : X.N.Nodup) (hi : SI X W tg iter iv) (ok : BlkOk X.N X.env.scope scope own) (hv : ∀ i ∈ t.slots, i ∈ own.map (·.2)) (hg : Blk X scope fun Y => SG Y tg t) (ht : Blk X scope fun Y => STs Y W0 ifs c) (he : Blk X scope fun Y => SE Y W0 elt el)
    (hs : ∀ x, foldedSetIterable iter X.env x = pure x := by intro _; rfl) : SC X W (.ListComp elt [⟨tg, iter, ifs, 0⟩] scope pos) (cLc iv t (own.map (·.2)) c el) :=
  PE.mono (pe_lc hc hN hi ok hg ht he hs) fun _ _ _ h => lc_reads hv h
theorem ss_ownLc {G : Gh} {i : Nat} {y : Str} {py spos : Pos} (hpin : G.pin = none ∨ i ≠ 0) (hc : X.calm = true) (hN : X.N.Nodup) (hy : X.N[i]? = some y) (hyl : X.env.scope.names.lookup y = some .local) (hsw : swapsWith (.ListComp elt [⟨tg, iter, ifs, 0⟩] scope pos) (some (.Name y py)) spos.line X.env = pure true)
    (hi : SI X W tg iter iv) (ok : BlkOk X.N X.env.scope scope own) (hv : ∀ i ∈ t.slots, i ∈ own.map (·.2)) (hg : Blk X scope fun Y => SG Y tg t) (ht : Blk X scope fun Y => STs Y W0 ifs c) (he : Blk X scope fun Y => SE Y W0 elt el)
    (hs : ∀ x, foldedSetIterable iter X.env x = pure x := by intro _; rfl) : SS X W G (.Assign [.Name y py] (.ListComp elt [⟨tg, iter, ifs, 0⟩] scope pos) spos) (sOwn i (cLc iv t (own.map (·.2)) c el)) :=
  PS.mono (ps_setLc hc hN hy hyl hsw hi ok hg ht he hs) fun D σ H h => by
    have z := tS_own hpin h
    show tLc (tI X.K W iv) (gT X.K t) (tT X.K W0 c) (tE X.K W0 el) (own.map (·.2)) σ H (fun x H1 => gName i x σ H1 D.nx)
    exact lc_reads hv z
end
end DI
set_option Elab.async false
set_option linter.all false
set_option maxRecDepth 100000
namespace DI
open PySem PySem.Spec PyProof.Rows L2

/-! ### a state with new objects ps that nobody has yet -/
def Mx' (M0 : Addr → Prop) (fr : Fr) (σ : St) (ps : List Addr) : Addr → Prop := fun a => Mf M0 fr σ a ∨ a ∈ ps
structure FSx (K : PySem.W.Frag) (G : Gh) (ps : List Addr) (m : List Addr) (H : Hp) (hb : HB) (fr : Fr) (σ : St) : Prop where
  at_ : At K (Mx' G.M0 fr σ ps) m H hb fr σ
  m0 : ∀ a, G.M0 a → ∃ o, G.Hs a = some o
  pre : ∃ l, m = G.ms ++ l
  new : ∀ a ∈ m, a ∉ G.ms → G.Hs a = none
  keep : ∀ a o, G.Hs a = some o → a ∉ G.ms → H a = some o
  pin : PinOk G.pin fr σ
  own : ∀ (i : Nat) o a, fr[i]? = some (.ow o) → σ[i]? = some (some (.ref a)) → G.Hs a = none
  dist : ∀ (i j : Nat) o o' a, fr[i]? = some (.ow o) → fr[j]? = some (.ow o') → σ[i]? = some (some (.ref a)) → σ[j]? = some (some (.ref a)) → i = j
  psn : ps.Nodup
  psh : ∀ p ∈ ps, G.Hs p = none
  pso : ∀ p ∈ ps, ∀ (i : Nat) o, fr[i]? = some (.ow o) → σ[i]? ≠ some (some (.ref p))
section
variable {K : PySem.W.Frag} {W : WX} {G : Gh} {ps : List Addr} {m m1 : List Addr} {H H1 : Hp} {hb hb1 : HB} {fr : Fr} {σ : St}
theorem At.shrink {M M' : Addr → Prop} (a : At K M m H hb fr σ) (h : ∀ x, M' x → M x) (hk : ∀ (i : Nat) o x, fr[i]? = some (.ow o) → σ[i]? = some (some (.ref x)) → M' x) : At K M' m H hb fr σ := by
  have kp : Keeps (Bd M m) (Bd M' m) m m H H := Keeps.shrink fun b z => z.elim (fun z => .inl (h b z)) .inr
  refine ⟨a.wd.shrink h, a.fr.1, fun i sv e => ?_⟩
  obtain ⟨x, e1, r⟩ := a.fr.2 i sv e
  refine ⟨x, e1, ?_⟩
  cases sv with
  | un => trivial
  | sh d => obtain ⟨v, e2, r2⟩ := r; exact ⟨v, e2, r2.keep kp⟩
  | ow o =>
    obtain ⟨b, e2, hM, nm, r2⟩ := r
    subst e2
    exact ⟨b, rfl, hk i o b e e1, nm, r2.keep_own kp fun _ q => q⟩
theorem FS.x (s : FS K G m H hb fr σ) : FSx K G [] m H hb fr σ :=
  ⟨s.at_.shrink (fun x h => h.elim id fun z => by simp at z) (fun i o x h1 h2 => .inl (.inr ⟨i, o, h1, h2⟩)), s.m0, s.pre, s.new, s.keep, s.pin, s.own, s.dist, List.nodup_nil, fun p h => by simp at h, fun p h => by simp at h⟩
theorem FSx.fs (s : FSx K G [] m H hb fr σ) : FS K G m H hb fr σ :=
  ⟨s.at_.shrink (fun x h => .inl h) (fun i o x h1 h2 => .inr ⟨i, o, h1, h2⟩), s.m0, s.pre, s.new, s.keep, s.pin, s.own, s.dist⟩
theorem FSx.step (s : FSx K G ps m H hb fr σ) (t : Stp K (Mx' G.M0 fr σ ps) m H m1 H1 hb1) : FSx K G ps m1 H1 hb1 fr σ := by
  obtain ⟨l, hl⟩ := s.pre
  obtain ⟨l2, hl2⟩ := t.pre
  refine ⟨s.at_.step t, s.m0, ⟨l ++ l2, by rw [hl2, hl, List.append_assoc]⟩, fun a ha hn => ?_, fun a o h hn => ?_, s.pin, s.own, s.dist, s.psn, s.psh, s.pso⟩
  · by_cases h1 : a ∈ m
    · exact s.new a h1 hn
    · have z := t.new a ha h1
      cases q : G.Hs a with
      | none => rfl
      | some o => have := s.keep a o q hn; rw [z] at this; cases this
  · refine t.fr a o (s.keep a o h hn) fun z => ?_
    have := s.new a z hn
    rw [h] at this; cases this
/-- what is not tracked was not at the entry -/
theorem FSx.hs (s : FSx K G ps m H hb fr σ) {p : Addr} (hp : H p = none) : G.Hs p = none := by
  cases q : G.Hs p with
  | none => rfl
  | some u =>
    by_cases hm : p ∈ G.ms
    · obtain ⟨l, e⟩ := s.pre
      obtain ⟨v, hv⟩ := s.at_.wd.there (a := p) (by rw [e]; exact List.mem_append_left _ hm)
      rw [hp] at hv; cases hv
    · have := s.keep p u q hm
      rw [hp] at this; cases this
/-- one more new object -/
theorem FSx.more (s : FSx K G ps m H hb fr σ) {p : Addr} (t : StpP K (Mx' G.M0 fr σ ps) m H m1 H1 hb1 p) : FSx K G (p :: ps) m1 H1 hb1 fr σ := by
  have s1 := s.step t.stp
  have eq : ∀ a, Mx' G.M0 fr σ (p :: ps) a → Mp (Mx' G.M0 fr σ ps) p a := fun a z => by
    rcases z with z | z
    · exact .inl (.inl z)
    · rcases List.mem_cons.mp z with z | z
      · exact .inr z
      · exact .inl (.inr z)
  have ptr : ∀ q ∈ ps, ∃ u, H q = some u := fun q hq => s.at_.wd.mt q (.inr hq)
  have k0 : Keeps (Bd (Mx' G.M0 fr σ ps) m) (Bd (Mp (Mx' G.M0 fr σ ps) p) m1) m m1 H H1 := ⟨t.pre, fun a u h n => by
    have k := t.stp.keeps.fr a u h n
    refine ⟨k.1, fun z => ?_⟩
    rcases z with (z | z) | z
    · exact k.2 (.inl z)
    · subst z
      rw [t.pn] at h; cases h
    · exact k.2 (.inr z)⟩
  have a1 : At K (Mp (Mx' G.M0 fr σ ps) p) m1 H1 hb1 fr σ := by
    refine ⟨t.wd, s.at_.fr.1, fun i sv e => ?_⟩
    obtain ⟨x, e1, r⟩ := s.at_.fr.2 i sv e
    refine ⟨x, e1, ?_⟩
    cases sv with
    | un => trivial
    | sh d => obtain ⟨v, e2, r2⟩ := r; exact ⟨v, e2, r2.keep k0⟩
    | ow o =>
      obtain ⟨b, e2, hM, nm, r2⟩ := r
      exact ⟨b, e2, .inl hM, fun z => t.wd.no b z (.inl hM), r2.keep_own k0 fun u q => t.fr b u q nm⟩
  refine ⟨a1.shrink eq fun i o x h1 h2 => .inl (.inr ⟨i, o, h1, h2⟩), s1.m0, s1.pre, s1.new, s1.keep, s1.pin, s1.own, s1.dist, List.nodup_cons.mpr ⟨fun hq => ?_, s.psn⟩, fun q hq => ?_, fun q hq i o h1 h2 => ?_⟩
  · obtain ⟨u, hu⟩ := ptr p hq
    rw [t.pn] at hu; cases hu
  · rcases List.mem_cons.mp hq with e | e
    · rw [e]; exact s.hs t.pn
    · exact s.psh q e
  · rcases List.mem_cons.mp hq with e | e
    · subst e
      obtain ⟨x, e1, b, e2, hM, nm, r2⟩ := s.at_.fr.2 i _ h1
      rw [e1] at h2
      cases h2
      cases e2
      obtain ⟨u, hu⟩ := r2.there
      rw [t.pn] at hu; cases hu
    · exact s.pso q e i o h1 h2
/-! ### stores -/
theorem FSx.setSh (s : FSx K G ps m H hb fr σ) {i : Nat} {d : D} {v : V} (r : RelD K (Bd (Mx' G.M0 fr σ ps) m) m H d v) : FSx K G ps m H hb (fr.set i (.sh d)) (σ.set i (some v)) := by
  have sub : ∀ a, Mx' G.M0 (fr.set i (.sh d)) (σ.set i (some v)) ps a → Mx' G.M0 fr σ ps a := fun a z => z.elim (fun z => .inl (Mf.set_sh z)) .inr
  have ne : ∀ (j : Nat) o, (fr.set i (.sh d))[j]? = some (.ow o) → i ≠ j := fun j o h e => by
    subst e
    rw [List.getElem?_set] at h
    simp at h
  refine ⟨(s.at_.set r).shrink sub fun j o x h1 h2 => .inl (.inr ⟨j, o, h1, h2⟩), s.m0, s.pre, s.new, s.keep, s.pin.sh, fun j o a h1 h2 => ?_, fun j k o o' a h1 h2 h3 h4 => ?_, s.psn, s.psh, fun p hp j o h1 h2 => ?_⟩
  · have hj := ne j o h1
    rw [List.getElem?_set_ne hj] at h1 h2
    exact s.own j o a h1 h2
  · have hj := ne j o h1
    have hk := ne k o' h2
    rw [List.getElem?_set_ne hj] at h1 h3
    rw [List.getElem?_set_ne hk] at h2 h4
    exact s.dist j k o o' a h1 h2 h3 h4
  · have hj := ne j o h1
    rw [List.getElem?_set_ne hj] at h1 h2
    exact s.pso p hp j o h1 h2
theorem Kp.x {i : Nat} {d : D} {x : Option V} : Keeps (Bd (Mx' G.M0 fr σ ps) m) (Bd (Mx' G.M0 (fr.set i (.sh d)) (σ.set i x) ps) m) m m H H :=
  Keeps.shrink fun b z => z.elim (fun z => .inl (z.elim (fun z => .inl (Mf.set_sh z)) .inr)) .inr
/-- the new object p becomes the slot's -/
theorem FSx.setOw (s : FSx K G (ps ++ p :: qs) m H hb fr σ) {i : Nat} (hpin : G.pin = none ∨ i ≠ 0) (hi : i < fr.length) {o : O} (r : RelO K (Bd (Mx' G.M0 fr σ (ps ++ p :: qs)) m) m H o p) :
    FSx K G (ps ++ qs) m H hb (fr.set i (.ow o)) (σ.set i (some (.ref p))) ∧ Keeps (Bd (Mx' G.M0 fr σ (ps ++ p :: qs)) m) (Bd (Mx' G.M0 (fr.set i (.ow o)) (σ.set i (some (.ref p))) (ps ++ qs)) m) m m H H := by
  have hiσ : i < σ.length := by rw [← s.at_.fr.1]; exact hi
  have pin : p ∈ ps ++ p :: qs := by simp
  have sub : ∀ a, Mx' G.M0 (fr.set i (.ow o)) (σ.set i (some (.ref p))) (ps ++ qs) a → Mx' G.M0 fr σ (ps ++ p :: qs) a := fun a z => by
    rcases z with (z | ⟨j, o', h1, h2⟩) | z
    · exact .inl (.inl z)
    · by_cases e : i = j
      · subst e
        rw [List.getElem?_set] at h2
        simp only [if_true, hiσ] at h2
        cases h2
        exact .inr pin
      · rw [List.getElem?_set_ne e] at h1 h2
        exact .inl (.inr ⟨j, o', h1, h2⟩)
    · refine .inr ?_
      rcases List.mem_append.mp z with z | z
      · exact List.mem_append_left _ z
      · exact List.mem_append_right _ (List.mem_cons_of_mem _ z)
  have nd := s.psn
  rw [List.nodup_append] at nd
  obtain ⟨nd1, nd2, nd3⟩ := nd
  have nd2' := List.nodup_cons.mp nd2
  have pnew : ∀ q ∈ ps ++ qs, q ≠ p := fun q hq e => by
    subst e
    rcases List.mem_append.mp hq with h | h
    · exact nd3 q h q List.mem_cons_self rfl
    · exact nd2'.1 h
  have a1 : At K (Mx' G.M0 fr σ (ps ++ p :: qs)) m H hb (fr.set i (.ow o)) (σ.set i (some (.ref p))) := by
    refine ⟨s.at_.wd, by rw [List.length_set, List.length_set]; exact s.at_.fr.1, fun j sv e => ?_⟩
    by_cases hj : i = j
    · subst hj
      rw [List.getElem?_set] at e
      simp only [if_true, hi] at e
      cases e
      exact ⟨some (.ref p), by rw [List.getElem?_set]; simp [hiσ], p, rfl, .inr pin, fun z => s.at_.wd.no p z (.inr pin), r⟩
    · rw [List.getElem?_set_ne hj] at e ⊢
      exact s.at_.fr.2 j sv e
  refine ⟨⟨a1.shrink sub fun j o' x h1 h2 => .inl (.inr ⟨j, o', h1, h2⟩), s.m0, s.pre, s.new, s.keep, s.pin.ow hpin, fun j o' a h1 h2 => ?_, fun j k o1 o2 a h1 h2 h3 h4 => ?_, ?_, fun q hq => s.psh q ?_, fun q hq j o' h1 h2 => ?_⟩, Keeps.shrink fun b z => z.elim (fun z => .inl (sub b z)) .inr⟩
  · by_cases hj : i = j
    · subst hj
      rw [List.getElem?_set] at h2
      simp only [if_true, hiσ] at h2
      cases h2
      exact s.psh p pin
    · rw [List.getElem?_set_ne hj] at h1 h2
      exact s.own j o' a h1 h2
  · by_cases hj : i = j
    · by_cases hk : i = k
      · exact hj.symm.trans hk
      · subst hj
        rw [List.getElem?_set] at h3
        simp only [if_true, hiσ] at h3
        cases h3
        rw [List.getElem?_set_ne hk] at h2 h4
        exact absurd h4 (s.pso p pin k o2 h2)
    · by_cases hk : i = k
      · subst hk
        rw [List.getElem?_set] at h4
        simp only [if_true, hiσ] at h4
        cases h4
        rw [List.getElem?_set_ne hj] at h1 h3
        exact absurd h3 (s.pso p pin j o1 h1)
      · rw [List.getElem?_set_ne hj] at h1 h3
        rw [List.getElem?_set_ne hk] at h2 h4
        exact s.dist j k o1 o2 a h1 h2 h3 h4
  · rw [List.nodup_append]
    exact ⟨nd1, nd2'.2, fun a ha b hb' => nd3 a ha b (List.mem_cons_of_mem _ hb')⟩
  · rcases List.mem_append.mp hq with z | z
    · exact List.mem_append_left _ z
    · exact List.mem_append_right _ (List.mem_cons_of_mem _ z)
  · by_cases hj : i = j
    · subst hj
      rw [List.getElem?_set] at h2
      simp only [if_true, hiσ] at h2
      cases h2
      exact pnew p hq rfl
    · rw [List.getElem?_set_ne hj] at h1 h2
      refine s.pso q ?_ j o' h1 h2
      rcases List.mem_append.mp hq with z | z
      · exact List.mem_append_left _ z
      · exact List.mem_append_right _ (List.mem_cons_of_mem _ z)
end
end DI
set_option Elab.async false
set_option linter.all false
set_option maxRecDepth 100000
namespace DI
open PySem PySem.Spec PyProof.Rows L2

inductive Mx where
  | v (ev : Ev) | o (cv : Cv)
inductive MI where
  | v (d : D) | o (o : O)
def eMs : List Mx → Fr → HB → Option ((List MI ⊕ Xn) × HB)
  | [], _, hb => some (.inl [], hb)
  | .v ev :: r, fr, hb => match ev fr hb with
    | some (.ok d, hb1) => if d.isVal then (match eMs r fr hb1 with
      | some (.inl is, hb2) => some (.inl (.v d :: is), hb2)
      | some (.inr x, hb2) => some (.inr x, hb2)
      | none => none) else none
    | some (.exn x, hb1) => some (.inr x, hb1)
    | none => none
  | .o cv :: r, fr, hb => match cv fr hb with
    | some (.inl o, hb1) => (match eMs r fr hb1 with
      | some (.inl is, hb2) => some (.inl (.o o :: is), hb2)
      | some (.inr x, hb2) => some (.inr x, hb2)
      | none => none)
    | some (.inr x, hb1) => some (.inr x, hb1)
    | none => none
def SMx (X : Cx) (W : WX) (e : Expr) : Mx → Prop
  | .v ev => SE X W e ev
  | .o cv => SC X W e cv
/-- the items by their values, ps the new objects among them -/
inductive RelMI (K : PySem.W.Frag) (M : Addr → Prop) (m : List Addr) (H : Hp) : List MI → List V → List Addr → Prop
  | nil : RelMI K M m H [] [] []
  | v {d v is vs ps} : RelD K (Bd M m) m H d v → RelMI K M m H is vs ps → RelMI K M m H (.v d :: is) (v :: vs) ps
  | o {o p is vs ps} : RelO K (Bd M m) m H o p → RelMI K M m H is vs ps → RelMI K M m H (.o o :: is) (.ref p :: vs) (p :: ps)
def tMs (K : PySem.W.Frag) (W : WX) (G : Gh) (mxs : List Mx) : TA := fun σ H Q => ∃ (ps0 m : List Addr) (hb : HB) (fr : Fr) (r : List MI ⊕ Xn) (hb' : HB), FSx K G ps0 m H hb fr σ ∧ eMs mxs fr hb = some (r, hb') ∧ match r with
  | .inl is => ∀ ps m1 H1 vs, FSx K G (ps ++ ps0) m1 H1 hb' fr σ → Keeps (Bd (Mx' G.M0 fr σ ps0) m) (Bd (Mx' G.M0 fr σ (ps ++ ps0)) m1) m m1 H H1 → (∀ p ∈ ps0, ∀ o, H p = some o → H1 p = some o) → RelMI K (Mx' G.M0 fr σ (ps ++ ps0)) m1 H1 is vs ps → Q vs H1
  | .inr x => ∀ m1 H1 C dd, FS K G m1 H1 hb' fr σ → Kp G m H fr σ m1 H1 fr σ → RelX K (Bd (Mf G.M0 fr σ) m1) m1 H1 x C dd → W C dd σ H1
section
variable {K : PySem.W.Frag} {W : WX} {G : Gh} {ps qs : List Addr} {m m1 : List Addr} {H H1 : Hp} {hb hb1 : HB} {fr fr' : Fr} {σ : St}
theorem FSx.sub (s : FSx K G ps m H hb fr σ) (h : ∀ p ∈ qs, p ∈ ps) (nd : qs.Nodup) : FSx K G qs m H hb fr σ :=
  ⟨s.at_.shrink (fun x z => z.elim .inl fun z => .inr (h x z)) (fun i o x h1 h2 => .inl (.inr ⟨i, o, h1, h2⟩)), s.m0, s.pre, s.new, s.keep, s.pin, s.own, s.dist, nd, fun p hp => s.psh p (h p hp), fun p hp => s.pso p (h p hp)⟩
theorem FSx.drop (s : FSx K G ps m H hb fr σ) : FS K G m H hb fr σ := (s.sub (qs := []) (fun p h => by simp at h) List.nodup_nil).fs
theorem Keeps.subX (h : ∀ p ∈ qs, p ∈ ps) : Keeps (Bd (Mx' G.M0 fr σ ps) m) (Bd (Mx' G.M0 fr σ qs) m) m m H H := Keeps.shrink fun b z => z.elim (fun z => .inl (z.elim .inl fun z => .inr (h b z))) .inr
theorem RelMI.keep {M M' : Addr → Prop} (k : Keeps (Bd M m) (Bd M' m1) m m1 H H1) : ∀ {is : List MI} {vs : List V} {ps : List Addr}, RelMI K M m H is vs ps → (∀ p ∈ ps, ∀ o, H p = some o → H1 p = some o) → RelMI K M' m1 H1 is vs ps
  | _, _, _, .nil, _ => .nil
  | _, _, _, .v r t, h => .v (r.keep k) (RelMI.keep k t h)
  | _, _, _, .o r t, h => .o (r.keep_own k (h _ List.mem_cons_self)) (RelMI.keep k t fun p hp => h p (List.mem_cons_of_mem _ hp))
end
section
variable {X : Cx} {W : WX} {G : Gh}
theorem sm_nil : PA X [] (tMs X.K W G []) := PA.mono pa_nil fun σ H Q h => by
  obtain ⟨ps0, m, hb, fr, r, hb', s, e, c⟩ := h
  cases e
  exact c [] m H [] s Keeps.refl (fun _ _ _ q => q) .nil
theorem sm_cons {e : Expr} {es : List Expr} {mx : Mx} {mxs : List Mx} (h : SMx X W e mx) (hs : PA X es (tMs X.K W G mxs)) (hst : starEach (e :: es) X.env = (false, eval e X.env) :: starEach es X.env := by rfl) : PA X (e :: es) (tMs X.K W G (mx :: mxs)) := by
  cases mx with
  | v ev =>
    refine PA.mono (pa_cons (te := tE X.K W ev) h hs hst) fun σ H Q hq => ?_
    obtain ⟨ps0, m, hb, fr, r, hb', s, e, c⟩ := hq
    unfold eMs at e
    show tE X.K W ev σ H fun x H1 => tMs X.K W G mxs σ H1 fun xs H2 => Q (x :: xs) H2
    split at e
    · rename_i d hb1 e1
      split at e
      · rename_i hv
        refine tE_mk s.at_ e1 fun m1 H1 t1 v rv => ?_
        have s1 := s.step t1
        have rd := rv.val hv
        split at e
        · rename_i is hb2 e2
          cases e
          refine ⟨ps0, m1, hb1, fr, .inl is, _, s1, e2, fun ps m2 H2 vs s2 k2 o2 r2 => ?_⟩
          exact c ps m2 H2 (v :: vs) s2 (t1.keeps.trans k2) (fun p hp o q => o2 p hp o (t1.fr p o q fun z => s.at_.wd.no p z (.inr hp))) (.v (rd.keep k2) r2)
        · rename_i x hb2 e2
          cases e
          refine ⟨ps0, m1, hb1, fr, .inr x, _, s1, e2, fun m2 H2 C dd s2 k2 rx => ?_⟩
          refine c m2 H2 C dd s2 ?_ rx
          have s0 := s.drop
          have t0 : Stp X.K (Mf G.M0 fr σ) m H m1 H1 hb1 := ⟨t1.pre, t1.new, t1.fr, t1.wd.shrink fun a z => .inl z⟩
          exact t0.keeps.trans k2
        · cases e
      · cases e
    · rename_i x hb1 e1
      cases e
      refine tE_mk s.at_ e1 fun m1 H1 t1 C dd rx => ?_
      have t0 : Stp X.K (Mf G.M0 fr σ) m H m1 H1 hb' := ⟨t1.pre, t1.new, t1.fr, t1.wd.shrink fun a z => .inl z⟩
      refine c m1 H1 C dd (s.step t1).drop t0.keeps ?_
      obtain ⟨g1, d2, vs2, g2, g3, g4, g5⟩ := rx
      exact ⟨g1, d2, vs2, g2, g3, g4, g5.keep (Keeps.shrink fun b z => z.elim (fun z => .inl (.inl z)) .inr)⟩
    · cases e
  | o cv =>
    refine PA.mono (pa_cons (te := tC' X.K W cv) h hs hst) fun σ H Q hq => ?_
    obtain ⟨ps0, m, hb, fr, r, hb', s, e, c⟩ := hq
    unfold eMs at e
    show tC' X.K W cv σ H fun x H1 => tMs X.K W G mxs σ H1 fun xs H2 => Q (x :: xs) H2
    split at e
    · rename_i o hb1 e1
      refine ⟨_, m, hb, fr, .inl o, hb1, s.at_, e1, fun m1 H1 p t1 ro => ?_⟩
      have s1 := s.more t1
      have k01 : Keeps (Bd (Mx' G.M0 fr σ ps0) m) (Bd (Mx' G.M0 fr σ (p :: ps0)) m1) m m1 H H1 := ⟨t1.pre, fun a u q n => by
        have k := t1.stp.keeps.fr a u q n
        refine ⟨k.1, fun z => ?_⟩
        rcases z with (z | z) | z
        · exact k.2 (.inl (.inl z))
        · rcases List.mem_cons.mp z with z | z
          · subst z; rw [t1.pn] at q; cases q
          · exact k.2 (.inl (.inr z))
        · exact k.2 (.inr z)⟩
      have ro' : RelO X.K (Bd (Mx' G.M0 fr σ (p :: ps0)) m1) m1 H1 o p := ro.keep_own (Keeps.shrink fun b z => by
        rcases z with (z | z) | z
        · exact .inl (.inl (.inl z))
        · rcases List.mem_cons.mp z with z | z
          · exact .inl (.inr z)
          · exact .inl (.inl (.inr z))
        · exact .inr z) fun _ q => q
      split at e
      · rename_i is hb2 e2
        cases e
        refine ⟨p :: ps0, m1, hb1, fr, .inl is, _, s1, e2, fun ps m2 H2 vs s2 k2 o2 r2 => ?_⟩
        have memEq : ∀ a, a ∈ ps ++ p :: ps0 ↔ a ∈ (p :: ps) ++ ps0 := fun a => by simp [or_left_comm, or_assoc]
        have nd2 : ((p :: ps) ++ ps0).Nodup := by
          have h0 := s2.psn
          rw [List.nodup_append] at h0
          obtain ⟨n1, n2, n3⟩ := h0
          have n2' := List.nodup_cons.mp n2
          show (p :: (ps ++ ps0)).Nodup
          refine List.nodup_cons.mpr ⟨fun z => ?_, List.nodup_append.mpr ⟨n1, n2'.2, fun a ha b hb' => n3 a ha b (List.mem_cons_of_mem _ hb')⟩⟩
          rcases List.mem_append.mp z with z | z
          · exact n3 p z p List.mem_cons_self rfl
          · exact n2'.1 z
        have s2' : FSx X.K G ((p :: ps) ++ ps0) m2 H2 hb' fr σ := s2.sub (fun a ha => (memEq a).mpr ha) nd2
        have ks : Keeps (Bd (Mx' G.M0 fr σ (ps ++ p :: ps0)) m2) (Bd (Mx' G.M0 fr σ ((p :: ps) ++ ps0)) m2) m2 m2 H2 H2 := Keeps.subX fun a ha => (memEq a).mpr ha
        refine c (p :: ps) m2 H2 (.ref p :: vs) s2' (k01.trans (k2.trans ks)) (fun q hq u z => o2 q (List.mem_cons_of_mem _ hq) u (t1.fr q u z fun w => s.at_.wd.no q w (.inr hq))) (.o ?_ (r2.keep ks fun _ _ _ q => q))
        exact (ro'.keep_own k2 fun u q => o2 p List.mem_cons_self u q).keep_own ks fun _ q => q
      · rename_i x hb2 e2
        cases e
        refine ⟨p :: ps0, m1, hb1, fr, .inr x, _, s1, e2, fun m2 H2 C dd s2 k2 rx => ?_⟩
        have t0 : Stp X.K (Mf G.M0 fr σ) m H m1 H1 hb1 := ⟨t1.pre, t1.new, t1.fr, t1.wd.shrink fun a z => .inl (.inl z)⟩
        exact c m2 H2 C dd s2 (t0.keeps.trans k2) rx
      · cases e
    · rename_i x hb1 e1
      cases e
      refine ⟨_, m, hb, fr, .inr x, _, s.at_, e1, fun m1 H1 t1 C dd rx => ?_⟩
      have t0 : Stp X.K (Mf G.M0 fr σ) m H m1 H1 hb' := ⟨t1.pre, t1.new, t1.fr, t1.wd.shrink fun a z => .inl z⟩
      refine c m1 H1 C dd (s.step t1).drop t0.keeps ?_
      obtain ⟨g1, d2, vs2, g2, g3, g4, g5⟩ := rx
      exact ⟨g1, d2, vs2, g2, g3, g4, g5.keep (Keeps.shrink fun b z => z.elim (fun z => .inl (.inl z)) .inr)⟩
    · cases e
/-! ### a, b = e1, e2 -/
def stMI : List Nat → List MI → Fr → Option Fr
  | [], [], fr => some fr
  | i :: is, .v d :: ds, fr => stMI is ds (fr.set i (.sh d))
  | i :: is, .o o :: ds, fr => if i < fr.length then stMI is ds (fr.set i (.ow o)) else none
  | _, _, _ => none
def setAll : List Nat → List V → St → St
  | i :: is, v :: vs, σ => setAll is vs (σ.set i (some v))
  | _, _, σ => σ
theorem stMI_ok {K : PySem.W.Frag} {m : List Addr} {H : Hp} {hb : HB} {fr' : Fr} : ∀ {is : List Nat} {ds : List MI} {vs : List V} {ps qs : List Addr} {fr : Fr} {σ : St}, (G.pin = none ∨ 0 ∉ is) → FSx K G (ps ++ qs) m H hb fr σ → RelMI K (Mx' G.M0 fr σ (ps ++ qs)) m H ds vs ps → stMI is ds fr = some fr' →
    FS K G m H hb fr' (setAll is vs σ) ∧ Keeps (Bd (Mx' G.M0 fr σ (ps ++ qs)) m) (Bd (Mf G.M0 fr' (setAll is vs σ)) m) m m H H ∧ vs.length = is.length
  | [], [], _, _, qs, fr, σ, hp, s, r, e => by
    cases e
    cases r
    exact ⟨s.drop, Keeps.shrink fun b z => z.elim (fun z => .inl (.inl z)) .inr, rfl⟩
  | i :: is, .v d :: ds, _, ps, qs, fr, σ, hp, s, r, e => by
    cases r with
    | v r1 r2 =>
      rename_i v vs
      have k := Kp.x (G := G) (ps := ps ++ qs) (m := m) (H := H) (fr := fr) (σ := σ) (i := i) (d := d) (x := some v)
      obtain ⟨g1, g2, g3⟩ := stMI_ok (hp.imp id fun z w => z (List.mem_cons_of_mem _ w)) (s.setSh r1) (r2.keep k fun _ _ _ q => q) e
      exact ⟨g1, k.trans g2, by simp [g3]⟩
  | i :: is, .o o :: ds, _, _, qs, fr, σ, hp, s, r, e => by
    cases r with
    | o r1 r2 =>
      rename_i p vs ps
      unfold stMI at e
      split at e
      · rename_i hi
        obtain ⟨s2, k2⟩ := FSx.setOw (ps := []) (qs := ps ++ qs) s (hp.imp id fun z w => z (by rw [w]; exact List.mem_cons_self)) hi r1
        obtain ⟨g1, g2, g3⟩ := stMI_ok (ps := ps) (qs := qs) (hp.imp id fun z w => z (List.mem_cons_of_mem _ w)) s2 (r2.keep k2 fun _ _ _ q => q) e
        exact ⟨g1, k2.trans g2, by simp [g3]⟩
      · cases e
  | [], _ :: _, _, _, _, _, _, _, _, _, e => by cases e
  | _ :: _, [], _, _, _, _, _, _, _, _, e => by cases e
def sMulti (is : List Nat) (mxs : List Mx) : Sv := fun fr hb => match eMs mxs fr hb with
  | some (.inl items, hb1) => (match stMI is items fr with
    | some fr1 => some (.nx fr1, hb1)
    | none => none)
  | some (.inr x, hb1) => some (.ex x, hb1)
  | none => none
/-- the reading of the written items, for the stores' end -/
theorem multi_reads {K : PySem.W.Frag} {is : List Nat} {mxs : List Mx} {D : Ends} {σ : St} {H : Hp} (hpin : G.pin = none ∨ 0 ∉ is) (h : tS K W G (sMulti is mxs) D σ H) {R : List V → Hp → Prop}
    (hR : ∀ {ps m1 H1 hb1 fr fr' items vs}, FSx K G ps m1 H1 hb1 fr σ → RelMI K (Mx' G.M0 fr σ ps) m1 H1 items vs ps → stMI is items fr = some fr' →
      (∀ m2 H2 hb2, FSx K G ps m2 H2 hb2 fr σ → hb2 = hb1 → RelMI K (Mx' G.M0 fr σ ps) m2 H2 items vs ps → Keeps (Bd (Mx' G.M0 fr σ ps) m1) (Bd (Mx' G.M0 fr σ ps) m2) m1 m2 H1 H2 → D.nx (setAll is vs σ) H2 ∧ vs.length = is.length) → R vs H1) : tMs K W G mxs σ H R := by
  obtain ⟨m, hb, fr, r, hb', s, e, c⟩ := h
  unfold sMulti at e
  split at e
  · rename_i items hb1 e1
    split at e
    · rename_i fr1 e2
      cases e
      refine ⟨[], m, hb, fr, .inl items, _, s.x, e1, fun ps m1 H1 vs s1 k1 _ r1 => ?_⟩
      rw [List.append_nil] at s1 k1 r1
      refine hR s1 r1 e2 fun m2 H2 hb2 s2 eh r2 k2 => ?_
      subst eh
      have s2' : FSx K G (ps ++ []) m2 H2 hb2 fr σ := by rw [List.append_nil]; exact s2
      obtain ⟨g1, g2, g3⟩ := stMI_ok (qs := []) hpin s2' (by rw [List.append_nil]; exact r2) e2
      rw [List.append_nil] at g2
      have k0 : Keeps (Bd (Mf G.M0 fr σ) m) (Bd (Mx' G.M0 fr σ []) m) m m H H := Keeps.shrink fun b z => z.elim (fun z => .inl (z.elim id fun z => by simp at z)) .inr
      exact ⟨c m2 H2 _ g1 (k0.trans (k1.trans (k2.trans g2))), g3⟩
    · cases e
  · rename_i x hb1 e1
    cases e
    exact ⟨[], m, hb, fr, .inr x, _, s.x, e1, fun m1 H1 C dd s1 k1 rx => c m1 H1 σ fr C dd s1 k1 rx⟩
  · cases e
theorem ss_par2 {i j : Nat} {x y : Str} {a b : Expr} {ma mb : Mx} {px py pt pos : Pos} {kt k2 pt2} (hpin : G.pin = none ∨ 0 ∉ [i, j]) (hc : X.calm = true) (hN : X.N.Nodup) (hi : X.N[i]? = some x) (hj : X.N[j]? = some y) (hij : i ≠ j)
    (hx : X.env.scope.names.lookup x = some .local) (hy : X.env.scope.names.lookup y = some .local) (ha : PA X [a, b] (tMs X.K W G [ma, mb]))
    (hw : swappedStores [.Tuple [.Name x px, .Name y py] kt pt] (.Tuple [a, b] k2 pt2) X.env = pure (some [x, y]))
    (hs : swapsWithSole [.Tuple [.Name x px, .Name y py] kt pt] (.Tuple [a, b] k2 pt2) pos.line X.env = pure false := by rfl) :
    SS X W G (.Assign [.Tuple [.Name x px, .Name y py] kt pt] (.Tuple [a, b] k2 pt2) pos) (sMulti [i, j] [ma, mb]) := PS.mono (ps_par hc hN hi hj hij hx hy ha hw hs) fun D σ H h => by
  refine multi_reads hpin h fun {ps m1 H1 hb1 fr fr' items vs} s r e c => ?_
  obtain ⟨g1, g2⟩ := c m1 H1 hb1 s rfl r Keeps.refl
  match vs, g2, g1 with
  | [v, w], _, g1 => exact ⟨v, w, rfl, g1⟩
theorem ss_par3 {i j l : Nat} {x y z : Str} {a b c : Expr} {ma mb mc : Mx} {px py pz pt pos : Pos} {kt k2 pt2} (hpin : G.pin = none ∨ 0 ∉ [i, j, l]) (hc : X.calm = true) (hN : X.N.Nodup) (hi : X.N[i]? = some x) (hj : X.N[j]? = some y) (hl : X.N[l]? = some z) (hij : i ≠ j) (hil : i ≠ l) (hjl : j ≠ l)
    (hx : X.env.scope.names.lookup x = some .local) (hy : X.env.scope.names.lookup y = some .local) (hz : X.env.scope.names.lookup z = some .local) (ha : PA X [a, b, c] (tMs X.K W G [ma, mb, mc]))
    (hw : swappedStores [.Tuple [.Name x px, .Name y py, .Name z pz] kt pt] (.Tuple [a, b, c] k2 pt2) X.env = pure (some [x, y, z]))
    (hs : swapsWithSole [.Tuple [.Name x px, .Name y py, .Name z pz] kt pt] (.Tuple [a, b, c] k2 pt2) pos.line X.env = pure false := by rfl) :
    SS X W G (.Assign [.Tuple [.Name x px, .Name y py, .Name z pz] kt pt] (.Tuple [a, b, c] k2 pt2) pos) (sMulti [i, j, l] [ma, mb, mc]) := PS.mono (L2.ps_par3 hc hN hi hj hl hij hil hjl hx hy hz ha hw hs) fun D σ H h => by
  refine multi_reads hpin h fun {ps m1 H1 hb1 fr fr' items vs} s r e c => ?_
  obtain ⟨g1, g2⟩ := c m1 H1 hb1 s rfl r Keeps.refl
  match vs, g2, g1 with
  | [u, v, w], _, g1 => exact ⟨u, v, w, rfl, g1⟩
/-- the same by a tuple -/
theorem gNames_all {is : List Nat} : ∀ {vs : List V} {σ : St} {H : Hp} {Q : St → Hp → Prop}, vs.length = is.length → Q (setAll is vs σ) H → gNames is vs σ H Q := by
  induction is with
  | nil =>
    intro vs σ H Q hl q
    match vs, hl with
    | [], _ => exact ⟨rfl, q⟩
  | cons i is ih =>
    intro vs σ H Q hl q
    match vs, hl with
    | v :: vs, hl =>
      refine ⟨v, vs, rfl, ?_⟩
      show gNames is vs (σ.set i (some v)) H Q
      exact ih (by simpa using hl) q
theorem ss_tupAsg {is : List Nat} {tgs es : List Expr} {mxs : List Mx} {pt pt2 pos : Pos} {kt k2} (hpin : G.pin = none ∨ 0 ∉ is) (hc : X.calm = true) (hz : es.length ≤ szL) (hg : SGs X tgs is) (ha : PA X es (tMs X.K W G mxs)) (hn : (assignEach tgs X.env).length = is.length := by rfl) (hst : (assignEach tgs X.env).findIdx? (·.1) = none := by rfl)
    (hs : swapsWithSole [.Tuple tgs kt pt] (.Tuple es k2 pt2) pos.line X.env = pure false := by rfl) (hw : swappedStores [.Tuple tgs kt pt] (.Tuple es k2 pt2) X.env = pure none := by rfl)
    (h1 : (assignEach [.Tuple tgs kt pt] X.env).map (·.2) = [assign (.Tuple tgs kt pt) X.env] := by rfl) (hlen : is.length ≤ szL := by decide) :
    SS X W G (.Assign [.Tuple tgs kt pt] (.Tuple es k2 pt2) pos) (sMulti is mxs) := PS.mono (ps_asg (pe_tup ha) (pg_tup hc hg hn hst) hs hw h1) fun D σ H h => by
  show tMs X.K W G mxs σ H fun xs H1 => xs.length ≤ sizeLine ∧ ∀ p, H1 p = none → gTup X.K is.length (gNames is) (.ref p) σ (upd H1 p (.tup xs)) D.nx
  refine multi_reads hpin h fun {ps m1 H1 hb1 fr fr' items vs} s r e c => ?_
  have hl := (c m1 H1 hb1 s rfl r Keeps.refl).2
  refine ⟨by rw [hl, ← szL_eq]; exact hlen, fun p hp => ⟨p, vs, rfl, .of upd_same, hl, ?_⟩⟩
  have t := s.at_.wd.laid (o := .tup vs) hp
  have s2 := s.step t
  have r2 := r.keep t.keeps fun q hq u z => by rw [upd_ne (ne_of_none z hp)]; exact z
  exact gNames_all hl (c m1 _ hb1 s2 rfl r2 t.keeps).1
end
end DI
set_option Elab.async false
set_option linter.all false
set_option maxRecDepth 100000
namespace DI
open PySem PySem.Spec PyProof.Rows L2

/-! ### the object behind a box or an owned slot: reading, writing -/
def rdO (fr : Fr) (hb : HB) : D → Option O
  | .loc i => match fr[i]? with
    | some (.ow o) => some o
    | _ => none
  | .box n => hb[n]?
  | _ => none
def wrO (d : D) (o : O) (fr : Fr) (hb : HB) : Fr × HB := match d with
  | .loc i => (fr.set i (.ow o), hb)
  | .box n => (fr, hb.set n o)
  | _ => (fr, hb)
section
variable {K : PySem.W.Frag} {W : WX} {M : Addr → Prop} {m : List Addr} {H : Hp} {hb hb' : HB} {fr : Fr} {σ : St} {G : Gh}
theorem rdO_ok {d : D} {v : V} {o : O} (a : At K M m H hb fr σ) (r : RelT K M m H fr σ d v) (e : rdO fr hb d = some o) : ∃ p, v = .ref p ∧ Bd M m p ∧ RelO K (Bd M m) m H o p := by
  unfold rdO at e
  split at e
  · rename_i i
    split at e
    · rename_i ys e1
      cases e
      obtain ⟨_, e2⟩ := r
      obtain ⟨x, e3, p, e4, hM, _, ro⟩ := a.fr.2 i _ e1
      rw [e3] at e2
      cases e2
      cases e4
      exact ⟨p, rfl, .inl hM, ro⟩
    · cases e
  · rename_i n
    have r' : RelD K (Bd M m) m H (.box n) v := r
    unfold RelD at r'
    obtain ⟨p, e2, e3⟩ := r'
    exact ⟨p, e2, .inr (List.mem_of_getElem? e3), a.wd.ob n p _ e3 e⟩
  · cases e
theorem Keeps.wr {B : Addr → Prop} {p : Addr} {u : HO} (hp : B p) : Keeps B B m m H (upd H p u) := ⟨⟨[], by simp⟩, fun a o q n => ⟨by
  have : a ≠ p := fun z => n (by rw [z]; exact hp)
  rw [upd_ne this]; exact q, n⟩⟩
/-- a box is written -/
theorem At.wrB {n : Nat} {v : V} {o o' : O} {p : Addr} {u : HO} (a : At K M m H hb fr σ) (hm : m[n]? = some p) (h0 : hb[n]? = some o) (r : RelO K (Bd M m) m (upd H p u) o' p) : Stp K M m H m (upd H p u) (hb.set n o') := by
  have hpm : p ∈ m := List.mem_of_getElem? hm
  have kw : Keeps (Bd M m) (Bd M m) m m H (upd H p u) := Keeps.wr (.inr hpm)
  refine ⟨⟨[], by simp⟩, fun x h n => absurd h n, fun x o q n => by rw [upd_ne fun z => n (by rw [z]; exact hpm)]; exact q, ⟨a.wd.nd, a.wd.no, fun x hx => ?_, by rw [List.length_set]; exact a.wd.len, fun j x ob h1 h2 => ?_⟩⟩
  · by_cases q : x = p
    · subst q; exact ⟨_, upd_same⟩
    · rw [upd_ne q]; exact a.wd.mt x hx
  · by_cases hj : n = j
    · subst hj
      rw [hm] at h1
      cases h1
      rw [List.getElem?_set] at h2
      simp only [if_true] at h2
      split at h2
      · cases h2; exact r
      · cases h2
    · rw [List.getElem?_set_ne hj] at h2
      have : x ≠ p := fun z => hj (by
        subst z
        exact (List.getElem?_inj (List.getElem?_eq_some_iff.mp hm).1 a.wd.nd).mp (hm.trans h1.symm))
      exact (a.wd.ob j x ob h1 h2).keep_own kw fun w q => by rw [upd_ne this]; exact q
/-- a box or a slot's own object is written -/
theorem FS.wr {d : D} {v : V} {o o' : O} (s : FS K G m H hb fr σ) (r : RelT K (Mf G.M0 fr σ) m H fr σ d v) (e : rdO fr hb d = some o) : ∃ p, v = .ref p ∧ RelO K (Bd (Mf G.M0 fr σ) m) m H o p ∧ Bd (Mf G.M0 fr σ) m p ∧
    ∀ u, RelO K (Bd (Mf G.M0 fr σ) m) m (upd H p u) o' p → FS K G m (upd H p u) (wrO d o' fr hb).2 (wrO d o' fr hb).1 σ ∧ Kp G m H fr σ m (upd H p u) (wrO d o' fr hb).1 σ := by
  obtain ⟨p, hv, hB, ro⟩ := rdO_ok s.at_ r e
  refine ⟨p, hv, ro, hB, fun u rn => ?_⟩
  have kw : Keeps (Bd (Mf G.M0 fr σ) m) (Bd (Mf G.M0 fr σ) m) m m H (upd H p u) := Keeps.wr hB
  unfold rdO at e
  split at e
  · rename_i i
    split at e
    · rename_i ys e1
      cases e
      obtain ⟨_, e2⟩ := r
      subst hv
      obtain ⟨x, e3, p', e4, hM, nm, _⟩ := s.at_.fr.2 i _ e1
      rw [e3] at e2
      cases e2
      cases e4
      have hi : i < fr.length := (List.getElem?_eq_some_iff.mp e1).1
      have back : ∀ (j : Nat) (o2 : O), (fr.set i (.ow o'))[j]? = some (SV.ow o2) → ∃ o3, fr[j]? = some (SV.ow o3) := fun j o2 h => by
        by_cases hj : i = j
        · subst hj; exact ⟨_, e1⟩
        · rw [List.getElem?_set_ne hj] at h; exact ⟨_, h⟩
      have sub : ∀ a, Mf G.M0 (fr.set i (.ow o')) σ a → Mf G.M0 fr σ a := fun a z => by
        rcases z with z | ⟨j, o2, h1, h2⟩
        · exact .inl z
        · obtain ⟨o3, h3⟩ := back j o2 h1
          exact .inr ⟨j, o3, h3, h2⟩
      have kp : Keeps (Bd (Mf G.M0 fr σ) m) (Bd (Mf G.M0 (fr.set i (.ow o')) σ) m) m m H (upd H p u) := kw.trans (Keeps.shrink fun b z => z.elim (fun z => .inl (sub b z)) .inr)
      have kp2 : Keeps (Bd (Mf G.M0 fr σ) m) (Bd (Mf G.M0 (fr.set i (.ow o')) σ) m) m m (upd H p u) (upd H p u) := Keeps.shrink fun b z => z.elim (fun z => .inl (sub b z)) .inr
      have hHs : G.Hs p = none := s.own i _ p e1 e3
      show FS K G m (upd H p u) hb (fr.set i (.ow o')) σ ∧ Kp G m H fr σ m (upd H p u) (fr.set i (.ow o')) σ
      refine ⟨⟨⟨?_, by rw [List.length_set]; exact s.at_.fr.1, fun j sv q => ?_⟩, s.m0, s.pre, s.new, fun a o q n => ?_, s.pin.wr e1, fun j o2 a h1 h2 => ?_, fun j k o2 o3 a h1 h2 h3 h4 => ?_⟩, kp⟩
      · refine ⟨s.at_.wd.nd, fun a ha z => s.at_.wd.no a ha (sub a z), fun a z => ?_, s.at_.wd.len, fun n a ob h1 h2 => (s.at_.wd.ob n a ob h1 h2).keep_own kp fun w q => ?_⟩
        · by_cases q : a = p
          · subst q; exact ⟨_, upd_same⟩
          · rw [upd_ne q]; exact s.at_.wd.mt a (sub a z)
        · rw [upd_ne fun z => nm (by rw [← z]; exact List.mem_of_getElem? h1)]; exact q
      · by_cases hj : i = j
        · subst hj
          rw [List.getElem?_set] at q
          simp only [if_true, hi] at q
          cases q
          exact ⟨_, e3, p, rfl, .inr ⟨i, o', by rw [List.getElem?_set]; simp [hi], e3⟩, nm, rn.keep_own kp2 fun _ q => q⟩
        · rw [List.getElem?_set_ne hj] at q
          obtain ⟨x, q1, r1⟩ := s.at_.fr.2 j sv q
          refine ⟨x, q1, ?_⟩
          cases sv with
          | un => trivial
          | sh d' => obtain ⟨w, q2, r2⟩ := r1; exact ⟨w, q2, r2.keep kp⟩
          | ow o2 =>
            obtain ⟨a, q2, hM2, nm2, r2⟩ := r1
            subst q2
            have : a ≠ p := fun z => hj (s.dist i j _ o2 p e1 q e3 (by rw [q1, z]))
            exact ⟨a, rfl, .inr ⟨j, o2, by rw [List.getElem?_set_ne hj]; exact q, q1⟩, nm2, r2.keep_own kp fun w q => by rw [upd_ne this]; exact q⟩
      · rw [upd_ne fun z => by subst z; rw [hHs] at q; cases q]; exact s.keep a o q n
      · obtain ⟨o3, h3⟩ := back j o2 h1
        exact s.own j o3 a h3 h2
      · obtain ⟨o4, h5⟩ := back j o2 h1
        obtain ⟨o5, h6⟩ := back k o3 h2
        exact s.dist j k o4 o5 a h5 h6 h3 h4
    · cases e
  · rename_i n
    have r' : RelD K (Bd (Mf G.M0 fr σ) m) m H (.box n) v := r
    unfold RelD at r'
    obtain ⟨p', e2, e3⟩ := r'
    rw [hv] at e2
    cases e2
    have st : Stp K (Mf G.M0 fr σ) m H m (upd H p u) (hb.set n o') := s.at_.wrB (v := v) e3 e rn
    exact ⟨s.step st, st.keeps⟩
  · cases e
theorem FS.evs {m : List Addr} {H : Hp} {hb : HB} {fr : Fr} {σ : St} {ev : Evs} {r : List D ⊕ Xn} {hb1 : HB} (s : FS K G m H hb fr σ) (e : ev fr hb = some (r, hb1)) {Q : List V → Hp → Prop}
    (h : match r with
      | .inl ds => ∀ m1 H1 vs, FS K G m1 H1 hb1 fr σ → Kp G m H fr σ m1 H1 fr σ → Stp K (Mf G.M0 fr σ) m H m1 H1 hb1 → RelTs K (Mf G.M0 fr σ) m1 H1 fr σ ds vs → Q vs H1
      | .inr x => ∀ m1 H1 C dd, FS K G m1 H1 hb1 fr σ → Kp G m H fr σ m1 H1 fr σ → RelX K (Bd (Mf G.M0 fr σ) m1) m1 H1 x C dd → W C dd σ H1) : tEs K W ev σ H Q := by
  refine ⟨_, m, hb, fr, r, hb1, s.at_.wd, s.at_.fr, e, fun m1 H1 s1 => ?_⟩
  cases r with
  | inl ds => exact fun vs rv => h m1 H1 vs (s.step s1) s1.keeps s1 rv
  | inr x => exact fun C dd rx => h m1 H1 C dd (s.step s1) s1.keeps rx
theorem FS.ev' {ev : Ev} {r : R} {hb1 : HB} (s : FS K G m H hb fr σ) (e : ev fr hb = some (r, hb1)) {Q : VK}
    (h : match r with
      | .ok d => ∀ m1 H1 v, FS K G m1 H1 hb1 fr σ → Kp G m H fr σ m1 H1 fr σ → Stp K (Mf G.M0 fr σ) m H m1 H1 hb1 → RelT K (Mf G.M0 fr σ) m1 H1 fr σ d v → Q v H1
      | .exn x => ∀ m1 H1 C dd, FS K G m1 H1 hb1 fr σ → Kp G m H fr σ m1 H1 fr σ → RelX K (Bd (Mf G.M0 fr σ) m1) m1 H1 x C dd → W C dd σ H1) : tE K W ev σ H Q := by
  refine tE_mk s.at_ e fun m1 H1 s1 => ?_
  cases r with
  | ok d => exact fun v rv => h m1 H1 v (s.step s1) s1.keeps s1 rv
  | exn x => exact fun C dd rx => h m1 H1 C dd (s.step s1) s1.keeps rx
end
/-! ### methods that write: as statements, on a box or a slot's own -/
/-- what a method of an object does: the object ahead, the arguments; the object behind, the value -/
abbrev OM := O → List D → Option (O × D)
def omAppend : OM := fun o ds => match o, ds with
  | .lst xs, [d] => if xs.length < szL then some (.lst (xs ++ [d]), .non) else none
  | _, _ => none
def omPop : OM := fun o ds => match o, ds with
  | .lst xs, [] => match xs[xs.length - 1]? with
    | some d => some (.lst xs.dropLast, d)
    | none => none
  | _, _ => none
def omPopAt : OM := fun o ds => match o, ds with
  | .lst xs, [.int i] => if -(2 ^ 63) ≤ i ∧ i < 2 ^ 63 then (match seqIndex? i xs.length with
    | some k => (match xs[k]? with
      | some d => some (.lst (xs.eraseIdx k), d)
      | none => none)
    | none => none) else none
  | _, _ => none
def omClear : OM := fun o ds => match o, ds with
  | .lst xs, [] => some (.lst [], .non)
  | _, _ => none
/-- soundness of such a method -/
def SndO (K : PySem.W.Frag) (r : V → List V → Hp → VK → Prop) (om : OM) : Prop := ∀ {B : Addr → Prop} {m : List Addr} {H : Hp} {o o' : O} {ds : List D} {d : D} {vs : List V} {p : Addr} {Q : VK},
  RelO K B m H o p → B p → RelDs K B m H ds vs → om o ds = some (o', d) → (∀ u v, RelO K B m (upd H p u) o' p → RelD K B m (upd H p u) d v → Q v (upd H p u)) → r (.ref p) vs H Q
/-- the kind of an object -/
def O.is (o : O) (T : String) : Bool := match o with
  | .lst _ => T == "list"
  | .dct _ _ => T == "dict"
  | _ => false
theorem RelDs.one {K : PySem.W.Frag} {B : Addr → Prop} {m : List Addr} {H : Hp} {d : D} {vs : List V} (r : RelDs K B m H [d] vs) : ∃ v, vs = [v] ∧ RelD K B m H d v := by
  obtain ⟨v, w, rfl, h1, h2⟩ := RelDs.cons_inv r
  obtain rfl := RelDs.nil_iff.mp h2
  exact ⟨v, rfl, h1⟩
theorem RelDs.dropLast {K : PySem.W.Frag} {B : Addr → Prop} {m : List Addr} {H : Hp} {ds : List D} {vs : List V} (h : RelDs K B m H ds vs) : RelDs K B m H ds.dropLast vs.dropLast := by
  rw [List.dropLast_eq_take, List.dropLast_eq_take, h.length]
  exact h.take _
theorem RelDs.eraseIdx {K : PySem.W.Frag} {B : Addr → Prop} {m : List Addr} {H : Hp} {ds : List D} {vs : List V} (h : RelDs K B m H ds vs) (k : Nat) : RelDs K B m H (ds.eraseIdx k) (vs.eraseIdx k) := by
  rw [List.eraseIdx_eq_take_drop_succ, List.eraseIdx_eq_take_drop_succ]
  exact (h.take _).append (h.drop _)
theorem tyV_lst {K : PySem.W.Frag} {H : Hp} {p : Addr} {vs : List V} (h : H p = some (.lst vs)) : tyV K "list" (.ref p) H := .inl ⟨rfl, vs, .of h⟩
theorem O.ty {K : PySem.W.Frag} {B : Addr → Prop} {m : List Addr} {H : Hp} {o : O} {p : Addr} {T : String} (r : RelO K B m H o p) (h : o.is T = true) : tyV K T (.ref p) H := by
  cases o with
  | lst xs =>
    obtain ⟨vs, h1, _⟩ := r
    have : T = "list" := by simpa [O.is] using h
    subst this
    exact tyV_lst h1
  | dct ks xs =>
    have : T = "dict" := by simpa [O.is] using h
    subst this
    obtain ⟨vs, h1, _⟩ := r
    rcases h1 with ⟨kvs, f, _⟩ | ⟨kvs, f, _⟩
    · exact .inr (.inr (.inl ⟨rfl, .inl ⟨kvs, f⟩⟩))
    · exact .inr (.inr (.inl ⟨rfl, .inr ⟨kvs, f⟩⟩))
  | ins _ _ _ => cases h
theorem RelDs.wr {K : PySem.W.Frag} {B : Addr → Prop} {m : List Addr} {H : Hp} {ds : List D} {vs : List V} {p : Addr} {u : HO} (h : RelDs K B m H ds vs) (hp : B p) : RelDs K B m (upd H p u) ds vs := h.keep (Keeps.wr hp)
theorem RelD.wr {K : PySem.W.Frag} {B : Addr → Prop} {m : List Addr} {H : Hp} {d : D} {v : V} {p : Addr} {u : HO} (h : RelD K B m H d v) (hp : B p) : RelD K B m (upd H p u) d v := h.keep (Keeps.wr hp)
theorem RelO.lstW {K : PySem.W.Frag} {B : Addr → Prop} {m : List Addr} {H : Hp} {ds : List D} {vs : List V} {p : Addr} (h : RelDs K B m H ds vs) (hp : B p) : RelO K B m (upd H p (.lst vs)) (.lst ds) p := ⟨vs, upd_same, h.wr hp⟩
theorem RelD.nonW {K : PySem.W.Frag} {B : Addr → Prop} {m : List Addr} {H : Hp} : RelD K B m H .non .non := by unfold RelD; rfl
theorem RelD.int_inv {K : PySem.W.Frag} {B : Addr → Prop} {m : List Addr} {H : Hp} {i : Int} {v : V} (h : RelD K B m H (.int i) v) : v = .int i := by unfold RelD at h; exact h
theorem so_append {K : PySem.W.Frag} : SndO K rAppend omAppend := by
  intro B m H o o' ds d vs p Q ro hp rv e c
  unfold omAppend at e
  split at e
  · split at e
    · rename_i xs d1 hz
      cases e
      obtain ⟨ws, h1, h2⟩ := ro
      obtain ⟨v, rfl, r1⟩ := rv.one
      exact ⟨p, ws, v, rfl, rfl, h1, by rw [← h2.length, ← szL_eq]; exact hz, c _ _ (RelO.lstW (h2.append (RelDs.cons r1 RelDs.nil')) hp) RelD.nonW⟩
    · cases e
  · cases e
theorem so_pop {K : PySem.W.Frag} : SndO K rPop omPop := by
  intro B m H o o' ds d vs p Q ro hp rv e c
  unfold omPop at e
  split at e
  · split at e
    · rename_i xs d1 e1
      cases e
      obtain ⟨ws, h1, h2⟩ := ro
      obtain rfl := RelDs.nil_iff.mp rv
      obtain ⟨v, e2, r2⟩ := h2.get e1
      rw [h2.length] at e2
      exact ⟨p, ws, v, rfl, rfl, h1, e2, c _ _ (RelO.lstW h2.dropLast hp) (r2.wr hp)⟩
    · cases e
  · cases e
theorem so_popAt {K : PySem.W.Frag} : SndO K rPopAt omPopAt := by
  intro B m H o o' ds d vs p Q ro hp rv e c
  unfold omPopAt at e
  split at e
  · split at e
    · rename_i xs i hz
      split at e
      · rename_i k e0
        split at e
        · rename_i d1 e1
          cases e
          obtain ⟨ws, h1, h2⟩ := ro
          obtain ⟨v0, rfl, r0⟩ := rv.one
          obtain rfl := r0.int_inv
          obtain ⟨v, e2, r2⟩ := h2.get e1
          rw [h2.length] at e0
          exact ⟨p, ws, i, k, v, rfl, rfl, h1, hz.1, hz.2, e0, e2, c _ _ (RelO.lstW (h2.eraseIdx k) hp) (r2.wr hp)⟩
        · cases e
      · cases e
    · cases e
  · cases e
theorem so_clear {K : PySem.W.Frag} : SndO K rClear omClear := by
  intro B m H o o' ds d vs p Q ro hp rv e c
  unfold omClear at e
  split at e
  · cases e
    obtain ⟨ws, h1, h2⟩ := ro
    obtain rfl := RelDs.nil_iff.mp rv
    exact ⟨p, ws, rfl, rfl, h1, c _ _ (RelO.lstW RelDs.nil' hp) RelD.nonW⟩
  · cases e
/-! ### as expressions, on a box -/
def eBMg (om : OM) (d : D) : List D → Ev := fun ds _ hb => match d with
  | .box n => match hb[n]? with
    | some ob => if allVal ds then (match om ob ds with
      | some (ob', x) => some (.ok x, hb.set n ob')
      | none => none) else none
    | none => none
  | _ => none
def isK (T : String) (d : D) (fr : Fr) (hb : HB) : Bool := match rdO fr hb d with
  | some o => o.is T
  | none => false
def eBM (T : String) (om : OM) (o : Ev) (es : Evs) : Ev := eBind o fun d fr hb => if isK T d fr hb then eL (eBMg om d) es fr hb else none
section
variable {X : Cx} {W : WX} {G : Gh} {pos apos cpos : Pos} {o e : Expr} {es : List Expr} {evo : Ev} {evs : Evs} {om : OM} {T : String} {id : String} {name : Str} {r : V → List V → Hp → VK → Prop}
theorem isK_ok {K : PySem.W.Frag} {M : Addr → Prop} {m : List Addr} {H : Hp} {hb : HB} {fr : Fr} {σ : St} {d : D} {v : V} (a : At K M m H hb fr σ) (rx : RelT K M m H fr σ d v) (h : isK T d fr hb = true) : tyV K T v H := by
  unfold isK at h
  split at h
  · rename_i ob e
    obtain ⟨p, rfl, _, ro⟩ := rdO_ok a rx e
    exact O.ty ro h
  · cases h
theorem At.omB {M : Addr → Prop} {m : List Addr} {hb hb' : HB} {fr : Fr} {σ : St} {H : Hp} {d : D} {v : V} {vs : List V} {ds : List D} {res : R} {Q : VK} (ho : SndO X.K r om) (a : At X.K M m H hb fr σ) (rx : RelT X.K M m H fr σ d v) (rs : RelTs X.K M m H fr σ ds vs)
    (e1 : eBMg om d ds fr hb = some (res, hb')) (c : Pst X.K W M m H fr σ res hb' Q) : r v vs H Q := by
  unfold eBMg at e1
  split at e1
  · rename_i n
    split at e1
    · rename_i ob e0
      split at e1
      · rename_i hv
        split at e1
        · rename_i ob' x e2
          cases e1
          have rx' : RelD X.K (Bd M m) m H (.box n) v := rx
          unfold RelD at rx'
          obtain ⟨p, rfl, hp⟩ := rx'
          have ro := a.wd.ob n p _ hp e0
          refine ho ro (.inr (List.mem_of_getElem? hp)) (rs.val hv) e2 fun u v' r1 r2 => ?_
          exact c m _ (a.wrB (v := .ref p) hp e0 r1) v' r2.t
        · cases e1
      · cases e1
    · cases e1
  · cases e1
theorem se_bm (ho : SndO X.K r om) (pa : PlainAttrs T) (slot : Slot T name id) (hty : typeOf (.builtin id) = pure (.type "method_descriptor")) (hm : MtR X id r) (he : SE X W o evo) (ha : SEs X W (e :: es) evs)
    (hbase : attributeBase o name X.env (eval o X.env) = eval o X.env := by rfl)
    (hfew : ((backTo cpos (starEach (e :: es) X.env)).all (fun x => !x.1) && (backToKw cpos (keywordEach [] X.env)).all (fun x => x.1.isSome)
      && decide ((e :: es).length + ([] : List Keyword).length + (if ([] : List Keyword).isEmpty then 0 else 1) < 30)) = true := by rfl)
    (hline : (apos.endLine == cpos.line) = true := by rfl) (hs : starEach (e :: es) X.env = (false, eval e X.env) :: starEach es X.env := by rfl) (hplain : (backTo cpos (starEach es X.env)).any (·.1) = false := by rfl) :
    SE X W (.Call (.Attribute o name apos) (e :: es) [] cpos) (eBM T om evo evs) := by
  refine PE.mono (pe_bm pa slot hty hm he ha hbase hfew hline hs hplain) fun σ H Q h => ?_
  obtain ⟨M, m, hb, fr, r0, hb', a, e0, c⟩ := tE_un h
  show tE X.K W evo σ H fun x H1 => tyV X.K T x H1 ∧ tEs X.K W evs σ H1 fun xs H2 => r x xs H2 Q
  refine tE_then a e0 c fun m1 H1 hb1 d v s1 a1 rx e1 c1 => ?_
  split at e1
  · rename_i hk
    refine ⟨isK_ok a1 rx hk, ?_⟩
    unfold eL at e1
    split at e1
    · rename_i ds hb2 e2
      refine ⟨M, m1, hb1, fr, .inl ds, _, a1.wd, a1.fr, e2, fun m2 H2 s2 vs rv => ?_⟩
      exact At.omB ho (a1.step s2) (rx.keep s2) rv e1 (c1.step s2)
    · rename_i x hb2 e2
      cases e1
      exact ⟨M, m1, hb1, fr, .inr x, _, a1.wd, a1.fr, e2, fun m2 H2 s2 => c1 m2 H2 s2⟩
    · cases e1
  · cases e1
theorem se_bm0 (ho : SndO X.K r om) (pa : PlainAttrs T) (slot : Slot T name id) (hty : typeOf (.builtin id) = pure (.type "method_descriptor")) (hm : MtR X id r) (he : SE X W o evo)
    (hbase : attributeBase o name X.env (eval o X.env) = eval o X.env := by rfl) (hline : (apos.endLine == cpos.line) = true := by rfl) :
    SE X W (.Call (.Attribute o name apos) [] [] cpos) (eBM T om evo eNil) := by
  refine PE.mono (pe_bm0 pa slot hty hm he hbase hline) fun σ H Q h => ?_
  obtain ⟨M, m, hb, fr, r0, hb', a, e0, c⟩ := tE_un h
  show tE X.K W evo σ H fun x H1 => tyV X.K T x H1 ∧ r x [] H1 Q
  refine tE_then a e0 c fun m1 H1 hb1 d v s1 a1 rx e1 c1 => ?_
  split at e1
  · rename_i hk
    exact ⟨isK_ok a1 rx hk, At.omB ho a1 rx (show RelTs X.K M m1 H1 fr σ [] [] from rfl) e1 c1⟩
  · cases e1
/-! ### as statements: on a box or a slot's own; the value goes nowhere, or to a name -/
/-- where the value goes -/
def toN (t : Option Nat) (d : D) (fr : Fr) : Fr := match t with
  | none => fr
  | some i => fr.set i (.sh d)
def sBMg (om : OM) (t : Option Nat) (d : D) (ds : List D) : Sv := fun fr hb => if allVal ds then (match rdO fr hb d with
  | some ob => (match om ob ds with
    | some (ob', x) => some (.nx (toN t x (wrO d ob' fr hb).1), (wrO d ob' fr hb).2)
    | none => none)
  | none => none) else none
def sBM (T : String) (om : OM) (t : Option Nat) (o : Ev) (es : Evs) : Sv := fun fr hb => match o fr hb with
  | some (.ok d, hb1) => if isK T d fr hb1 then (match es fr hb1 with
    | some (.inl ds, hb2) => sBMg om t d ds fr hb2
    | some (.inr x, hb2) => some (.ex x, hb2)
    | none => none) else none
  | some (.exn x, hb1) => some (.ex x, hb1)
  | none => none
def gTo (t : Option Nat) : TG := match t with
  | none => fun _ σ H Q => Q σ H
  | some i => gName i
theorem sbm_end {m : List Addr} {H : Hp} {hb hb' : HB} {fr : Fr} {σ : St} {d : D} {v : V} {ds : List D} {vs : List V} {t : Option Nat} {res : SR} {D' : Ends} (ho : SndO X.K r om) (s : FS X.K G m H hb fr σ) (rx : RelT X.K (Mf G.M0 fr σ) m H fr σ d v) (rs : RelTs X.K (Mf G.M0 fr σ) m H fr σ ds vs)
    (e : sBMg om t d ds fr hb = some (res, hb')) (c : PstS X.K W G m H fr σ res hb' D') : r v vs H fun x H1 => gTo t x σ H1 D'.nx := by
  unfold sBMg at e
  split at e
  · rename_i hv
    split at e
    · rename_i ob e0
      split at e
      · rename_i ob' x e1
        cases e
        obtain ⟨p, rfl, ro, hB, hw⟩ := s.wr (o' := ob') rx e0
        refine ho ro hB (rs.val hv) e1 fun u v' r1 r2 => ?_
        obtain ⟨s2, k2⟩ := hw u r1
        have r3 : RelD X.K (Bd (Mf G.M0 (wrO d ob' fr hb).1 σ) m) m (upd H p u) x v' := by
          refine r2.keep (Keeps.shrink fun b z => ?_)
          rcases z with z | z
          · rcases z with z | ⟨j, o2, h1, h2⟩
            · exact .inl (.inl z)
            · have sl : ∃ o3, fr[j]? = some (SV.ow o3) := by
                unfold wrO at h1
                split at h1
                · rename_i i
                  by_cases hj : i = j
                  · subst hj
                    unfold rdO at e0
                    dsimp only at e0
                    split at e0
                    · rename_i o3 e3; exact ⟨o3, e3⟩
                    · cases e0
                  · rw [List.getElem?_set_ne hj] at h1; exact ⟨_, h1⟩
                · exact ⟨_, h1⟩
                · exact ⟨_, h1⟩
              obtain ⟨o3, h3⟩ := sl
              exact .inl (.inr ⟨j, o3, h3, h2⟩)
          · exact .inr z
        cases t with
        | none => exact c m _ σ s2 k2
        | some i => exact c m _ _ (s2.setSh r3) (k2.trans Kp.sh)
      · cases e
    · cases e
  · cases e
theorem tS_bm {t : Option Nat} {D' : Ends} {σ : St} {H : Hp} (ho : SndO X.K r om) (h : tS X.K W G (sBM T om t evo evs) D' σ H) : tBM X.K T r (tE X.K W evo) (tEs X.K W evs) σ H fun x H1 => gTo t x σ H1 D'.nx := by
  obtain ⟨m, hb, fr, r0, hb', s, e, c⟩ := h
  unfold sBM at e
  show tE X.K W evo σ H fun x H1 => tyV X.K T x H1 ∧ tEs X.K W evs σ H1 fun xs H2 => r x xs H2 _
  split at e
  · rename_i d hb1 e1
    split at e
    · rename_i hk
      refine s.ev' e1 fun m1 H1 v s1 k1 st1 rv => ⟨isK_ok s1.at_ rv hk, ?_⟩
      split at e
      · rename_i ds hb2 e2
        exact s1.evs e2 fun m2 H2 vs s2 k2 st2 rs => sbm_end ho s2 (rv.keep st2) rs e (c.step (k1.trans k2))
      · rename_i x hb2 e2
        cases e
        exact s1.evs e2 fun m2 H2 C dd s2 k2 rx => c m2 H2 σ fr C dd s2 (k1.trans k2) rx
      · cases e
    · cases e
  · rename_i x hb1 e1
    cases e
    exact s.ev' e1 fun m1 H1 C dd s1 k1 rx => c m1 H1 σ fr C dd s1 k1 rx
  · cases e
theorem tS_bm0 {t : Option Nat} {D' : Ends} {σ : St} {H : Hp} (ho : SndO X.K r om) (h : tS X.K W G (sBM T om t evo eNil) D' σ H) : tBM0 X.K T r (tE X.K W evo) σ H fun x H1 => gTo t x σ H1 D'.nx := by
  obtain ⟨m, hb, fr, r0, hb', s, e, c⟩ := h
  unfold sBM eNil at e
  show tE X.K W evo σ H fun x H1 => tyV X.K T x H1 ∧ r x [] H1 _
  split at e
  · rename_i d hb1 e1
    split at e
    · rename_i hk
      exact s.ev' e1 fun m1 H1 v s1 k1 st1 rv => ⟨isK_ok s1.at_ rv hk, sbm_end ho s1 rv (show RelTs X.K _ m1 H1 fr σ [] [] from rfl) e (c.step k1)⟩
    · cases e
  · rename_i x hb1 e1
    cases e
    exact s.ev' e1 fun m1 H1 C dd s1 k1 rx => c m1 H1 σ fr C dd s1 k1 rx
  · cases e
/-- x.m(e, ..) as a statement -/
theorem ss_bm (ho : SndO X.K r om) (pa : PlainAttrs T) (slot : Slot T name id) (hty : typeOf (.builtin id) = pure (.type "method_descriptor")) (hm : MtR X id r) (he : SE X W o evo) (ha : SEs X W (e :: es) evs)
    (hbase : attributeBase o name X.env (eval o X.env) = eval o X.env := by rfl)
    (hfew : ((backTo cpos (starEach (e :: es) X.env)).all (fun x => !x.1) && (backToKw cpos (keywordEach [] X.env)).all (fun x => x.1.isSome)
      && decide ((e :: es).length + ([] : List Keyword).length + (if ([] : List Keyword).isEmpty then 0 else 1) < 30)) = true := by rfl)
    (hline : (apos.endLine == cpos.line) = true := by rfl) (hs : starEach (e :: es) X.env = (false, eval e X.env) :: starEach es X.env := by rfl) (hplain : (backTo cpos (starEach es X.env)).any (·.1) = false := by rfl)
    (hsw : swapsWith (.Call (.Attribute o name apos) (e :: es) [] cpos) none pos.line X.env = pure false := by rfl) :
    SS X W G (.Expr (.Call (.Attribute o name apos) (e :: es) [] cpos) pos) (sBM T om none evo evs) :=
  PS.mono (ps_expr (pe_bm pa slot hty hm he ha hbase hfew hline hs hplain) hsw) fun D σ H h => tS_bm ho h
theorem ss_bm0 (ho : SndO X.K r om) (pa : PlainAttrs T) (slot : Slot T name id) (hty : typeOf (.builtin id) = pure (.type "method_descriptor")) (hm : MtR X id r) (he : SE X W o evo)
    (hbase : attributeBase o name X.env (eval o X.env) = eval o X.env := by rfl) (hline : (apos.endLine == cpos.line) = true := by rfl)
    (hsw : swapsWith (.Call (.Attribute o name apos) [] [] cpos) none pos.line X.env = pure false := by rfl) :
    SS X W G (.Expr (.Call (.Attribute o name apos) [] [] cpos) pos) (sBM T om none evo eNil) :=
  PS.mono (ps_expr (pe_bm0 pa slot hty hm he hbase hline) hsw) fun D σ H h => tS_bm0 ho h
/-- y = x.m() -/
theorem ss_setBm0 {i : Nat} {y : Str} {py : Pos} (ho : SndO X.K r om) (pa : PlainAttrs T) (slot : Slot T name id) (hty : typeOf (.builtin id) = pure (.type "method_descriptor")) (hm : MtR X id r) (he : SE X W o evo)
    (hN : X.N.Nodup) (hi : X.N[i]? = some y) (hx : Loc X.env.scope y)
    (hbase : attributeBase o name X.env (eval o X.env) = eval o X.env := by rfl) (hline : (apos.endLine == cpos.line) = true := by rfl)
    (hsw : swapsWith (.Call (.Attribute o name apos) [] [] cpos) (some (.Name y py)) pos.line X.env = pure false := by rfl)
    (hf : X.fn y = true ∨ X.env.scope.names.lookup y = some .local := by first | exact .inl rfl | exact .inr rfl | assumption) :
    SS X W G (.Assign [.Name y py] (.Call (.Attribute o name apos) [] [] cpos) pos) (sBM T om (some i) evo eNil) :=
  PS.mono (ps_set hN hi hx (pe_bm0 pa slot hty hm he hbase hline) hsw hf) fun D σ H h => tS_bm0 ho h
end
end DI
set_option Elab.async false
set_option linter.all false
set_option maxRecDepth 100000
namespace DI
open PySem PySem.Spec PyProof.Rows L2

section
variable {X : Cx} {W : WX} {G : Gh} {a b c : Expr} {eva evb evc : Ev} {pos pos' : Pos}
/-! ### x * y -/
theorem snd_mul : Snd2 X W (fun x y H Q => rI CMul (fun i j => V.int (i * j)) x y H Q ∨ (∃ (s : List Char) (n : Int), x = V.str (strC s) ∧ y = V.int n ∧ 0 ≤ n ∧ n ≤ szL ∧ s.length * n.toNat ≤ szL ∧ Q (V.str (strC (List.replicate n.toNat s).flatten)) H) ∨ rRep x y H Q) gMul := by
  intro M m hb fr σ H x y vx vy res hb' Q a rx ry e c
  unfold gMul at e
  split at e
  · split at e
    · rename_i h
      cases e
      rw [vInt_ok rx, vInt_ok ry]
      exact .inl ⟨_, _, rfl, rfl, h, c.done a rInt⟩
    · cases e
  · split at e
    · rename_i h
      cases e
      rw [vStr_ok rx, vInt_ok ry]
      exact .inr (.inl ⟨_, _, rfl, rfl, h.1, h.2.1, h.2.2, c.done a rStr⟩)
    · cases e
  · split at e
    · rename_i xs e1
      split at e
      · rename_i h
        cases e
        obtain ⟨p, vs, rfl, f, r⟩ := vLst_ok a rx e1
        rw [vInt_ok ry]
        obtain ⟨h0, h1, h2⟩ := h
        have e2 : (szL : Int) = 16777216 := rfl
        refine .inr (.inr ⟨p, _, vs, rfl, rfl, f, by omega, by omega, by rw [← r.length, ← szL_eq]; exact h2, fun q hq => c.lst a hq ?_⟩)
        have rep : ∀ k : Nat, RelDs X.K (Bd M m) m H (List.replicate k xs).flatten (List.replicate k vs).flatten := fun k => by
          induction k with
          | zero => exact RelDs.nil'
          | succ k ih => rw [List.replicate_succ, List.flatten_cons, List.replicate_succ, List.flatten_cons]; exact r.append ih
        exact rep _
      · cases e
    · cases e
  · cases e
theorem se_mul (ha : SE X W a eva) (hb : SE X W b evb) : SE X W (.BinOp a .Mult b pos) (eOp2 gMul eva evb) := se_op (OpR.or op_mul (OpR.or op_rep_str op_rep)) snd_mul ha hb
/-! ### dicts of ints and texts as keys -/
def kEq : D → D → Bool
  | .int i, .int j => decide (i = j)
  | .str s, .str t => decide (s = t)
  | _, _ => false
/-- a key of a dict; a tuple of such -/
def D.isKey : D → Bool
  | .int _ => true
  | .str _ => true
  | _ => false
def getD (ks vs : List D) (k : D) : Option D := match ks, vs with
  | a :: ks, v :: vs => if kEq a k then some v else getD ks vs k
  | _, _ => none
def putD (ks vs : List D) (k v : D) : List D × List D := if ks.any (kEq · k) then (ks, List.zipWith (fun a w => if kEq a k then v else w) ks vs) else (ks ++ [k], vs ++ [v])
theorem kEq_of {a b : D} {ka kb : Key} (ha : keyD a = some ka) (hb : keyD b = some kb) : kEq a b = decide (ka = kb) := by
  cases a <;> cases b <;> simp [keyD] at ha hb <;> subst ha <;> subst hb <;> simp [kEq]
  exact ⟨fun h => by rw [h], fun h => strC_inj h⟩
theorem getD_ok {k : D} {kk : Key} (hk : keyD k = some kk) : ∀ {ks vs : List D} {kvs : List (Key × V)}, KeysK ks kvs → ks.length = vs.length → ∀ (K : PySem.W.Frag) (B : Addr → Prop) (m : List Addr) (H : Hp), RelDs K B m H vs (kvs.map (·.2)) → (∀ d, getD ks vs k = some d → ∃ v, valV kvs kk = some v ∧ RelD K B m H d v) ∧ (getD ks vs k = none → valV kvs kk = none)
  | [], vs, _, .nil, _, K, B, m, H, _ => ⟨fun d e => by simp [getD] at e, fun _ => rfl⟩
  | a :: ks, [], _, _, hl, _, _, _, _, _ => by simp at hl
  | a :: ks, w :: vs, (ka, v) :: kvs, .cons h1 h2, hl, K, B, m, H, r => by
    obtain ⟨v', r', e, r1, r2⟩ := RelDs.cons_inv r
    have e1 : v = v' ∧ kvs.map (·.2) = r' := by simpa using e
    obtain ⟨rfl, rfl⟩ := e1
    unfold getD
    rw [kEq_of h1 hk]
    by_cases q : ka = kk
    · rw [if_pos (decide_eq_true q)]
      exact ⟨fun d e => by cases e; exact ⟨v, valV_pos q, r1⟩, fun e => by cases e⟩
    · rw [if_neg (by simpa using q), valV_neg (p := (ka, v)) q]
      exact getD_ok hk h2 (by simpa using hl) K B m H r2
def gIxD : D → D → Ev := fun x y fr hb => match vDct fr hb x with
  | some (ks, vs) => if y.isKey && (ks.all D.isKey) && decide (ks.length = vs.length) then (match getD ks vs y with
    | some d => some (.ok d, hb)
    | none => none) else none
  | none => gIx x y fr hb
theorem D.isKey_some {d : D} (h : d.isKey = true) : ∃ k, keyD d = some k := by
  cases d <;> simp [D.isKey] at h <;> exact ⟨_, rfl⟩
theorem keyD_v {K : PySem.W.Frag} {M : Addr → Prop} {m : List Addr} {H : Hp} {fr : Fr} {σ : St} {d : D} {v : V} {k : Key} (r : RelT K M m H fr σ d v) (h : keyD d = some k) : v = kV k := by
  cases d <;> simp [keyD] at h <;> subst h
  · exact vInt_ok r
  · exact vStr_ok r
theorem KeysT.no {ks : List D} {kvs : List (List Key × V)} (h : KeysT ks kvs) (hk : ks.all D.isKey = true) : False := by
  cases h <;> simp [D.isKey] at hk
/-- a dict with no tuple among its keys -/
theorem dct_K {H : Hp} {p : Addr} {ks : List D} {vs : List V} (h : DictIs H p ks vs) (hk : ks.all D.isKey = true) : ∃ kvs, Rd H p (.dK kvs) ∧ KeysK ks kvs ∧ vs = kvs.map (·.2) := by
  rcases h with h | ⟨kvs, f, h1, h2⟩
  · exact h
  · exact (KeysT.no h1 hk).elim
def rIxDc : R2 := fun x y H Q => ∃ a v, x = V.ref a ∧ DGet H a y (some v) ∧ Q v H
theorem ix_dict (hu : X.A.units + 1 < cLine) : IxR X rIxDc := by
  intro value slice pins s σ H x y v u Q I rx ry h hs
  obtain ⟨p, w, rfl, g, q⟩ := h
  obtain rfl : v = Value.ref p := rx
  have hT := dict_typeIs I g
  unfold subscriptTail
  refine wpAny_bind ?_
  rw [getitemInPython_of_ne hT.not_modules]
  refine wpAny_bind (wpAny_specialOf hT PySem.F.slot_dict_getitem.lookup ?_)
  have fin : wpAny (model X.prog X.w) X.A (subscripted slice false (.ref p) u) (fun r s₃ => wpAny (model X.prog X.w) X.A (letTemporaryGo value (.ref p) r >>= fun _ => pure r) (EP X pins σ Q) X.xe s₃) X.xe s := by
    rw [hs]
    refine wpAny_operating (d_getItem hu I g ry fun w' s3 I3 rw' => ?_)
    exact wpAny_bind (wpAny_letTemporaryGo (wpAny_pure ⟨w, H, I3, rw', q⟩))
  first
    | exact wpAny_pure (wpAny_bind fin)
    | exact wpAny_bind (wpAny_pure (wpAny_bind fin))
    | exact wpAny_bind fin
theorem snd_ixD : Snd2 X W (fun x y H Q => rIxDc x y H Q ∨ rIxL X.K x y H Q ∨ rIxT X.K x y H Q ∨ rIxS x y H Q) gIxD := by
  intro M m hb fr σ H x y vx vy res hb' Q a rx ry e c
  unfold gIxD at e
  split at e
  · rename_i ks vs e1
    split at e
    · rename_i hk
      rw [Bool.and_eq_true, Bool.and_eq_true] at hk
      obtain ⟨⟨h1, h2⟩, h3⟩ := hk
      split at e
      · rename_i d e2
        cases e
        obtain ⟨kk, hkk⟩ := D.isKey_some h1
        obtain ⟨p, ws, rfl, f, r⟩ := vDct_ok a rx e1
        obtain ⟨kvs, g1, g2, rfl⟩ := dct_K f h2
        obtain ⟨v, g3, g4⟩ := (getD_ok hkk g2 (of_decide_eq_true h3) _ _ _ _ r).1 d e2
        rw [keyD_v ry hkk]
        exact .inl ⟨p, v, rfl, .inl ⟨kvs, kk, g1, rfl, g3.symm⟩, c.done a g4.t⟩
      · cases e
    · cases e
  · exact .inr (snd_ix (W := W) a rx ry e c)
/-- x[i] -/
theorem se_ixx {k : Nat} (hr : Room k X.A) (ha : SE X W a eva) (hb : SE X W b evb) (hp : PlainIx b := by intro _ _; rfl) : SE X W (.Subscript a b pos) (eOp2 gIxD eva evb) :=
  se_ix (IxR.or (ix_dict (by have := hr.un; omega)) (IxR.or ix_list (IxR.or ix_tup ix_str))) snd_ixD ha hb hp
/-! ### in a dict -/
def rInDc (neg : Bool) : R2 := fun x y H Q => ∃ a o, y = V.ref a ∧ DGet H a x o ∧ Q (.bl (neg != o.isSome)) H
theorem op_inDc (hu : X.A.units + 1 < cLine) : OpR X (compareOp .In) (rInDc false) := by
  intro pins s σ H x y v u Q I rx ry h
  obtain ⟨p, o, rfl, g, q⟩ := h
  obtain rfl : u = Value.ref p := ry
  exact d_in hu I g rx fun s' I' => ⟨.bl o.isSome, H, I', rfl, by simpa using q⟩
theorem op_notInDc (hu : X.A.units + 1 < cLine) : OpR X (compareOp .NotIn) (rInDc true) := by
  intro pins s σ H x y v u Q I rx ry h
  obtain ⟨p, o, rfl, g, q⟩ := h
  obtain rfl : u = Value.ref p := ry
  exact d_notIn hu I g rx fun s' I' => ⟨.bl (!o.isSome), H, I', rfl, by simpa using q⟩
def gInD (neg : Bool) : D → D → Ev := fun x y fr hb => match vDct fr hb y with
  | some (ks, vs) => if x.isKey && (ks.all D.isKey) && decide (ks.length = vs.length) then some (.ok (.bl (neg != (getD ks vs x).isSome)), hb) else none
  | none => gIn neg x y fr hb
theorem snd_inD (neg : Bool) : Snd2 X W (fun x y H Q => rInDc neg x y H Q ∨ rInS neg x y H Q ∨ rInT X.K neg x y H Q) (gInD neg) := by
  intro M m hb fr σ H x y vx vy res hb' Q a rx ry e c
  unfold gInD at e
  split at e
  · rename_i ks vs e1
    split at e
    · rename_i hk
      rw [Bool.and_eq_true, Bool.and_eq_true] at hk
      obtain ⟨⟨h1, h2⟩, h3⟩ := hk
      cases e
      obtain ⟨kk, hkk⟩ := D.isKey_some h1
      obtain ⟨p, ws, rfl, f, r⟩ := vDct_ok a ry e1
      obtain ⟨kvs, g1, g2, rfl⟩ := dct_K f h2
      have gg := getD_ok hkk g2 (of_decide_eq_true h3) _ _ _ _ r
      rw [keyD_v rx hkk]
      refine .inl ⟨p, valV kvs kk, rfl, .inl ⟨kvs, kk, g1, rfl, rfl⟩, ?_⟩
      have e3 : (getD ks vs x).isSome = (valV kvs kk).isSome := by
        cases q : getD ks vs x with
        | none => rw [gg.2 q]; rfl
        | some d => obtain ⟨v, e4, _⟩ := gg.1 d q; rw [e4]; rfl
      rw [← e3]
      exact c.done a rBl
    · cases e
  · exact .inr (snd_in (W := W) neg a rx ry e c)
theorem se_inx {k : Nat} (hr : Room k X.A) (ha : SE X W a eva) (hb : SE X W b evb) (hm : behindInMarks .In b = false := by rfl) : SE X W (.Compare a [.In] [b] pos) (eOp2 (gInD false) eva evb) :=
  se_cmp (OpR.or (op_inDc (by have := hr.un; omega)) (OpR.or op_inS (op_inT (by have := hr.un; omega)))) (snd_inD false) ha hb hm
theorem se_notinx {k : Nat} (hr : Room k X.A) (ha : SE X W a eva) (hb : SE X W b evb) (hm : behindInMarks .NotIn b = false := by rfl) : SE X W (.Compare a [.NotIn] [b] pos) (eOp2 (gInD true) eva evb) :=
  se_cmp (OpR.or (op_notInDc (by have := hr.un; omega)) (OpR.or op_notInS (op_notInT (by have := hr.un; omega)))) (snd_inD true) ha hb hm
theorem st_inx {k : Nat} (hr : Room k X.A) (ha : SE X W a eva) (hb : SE X W b evb) (hm : behindInMarks .In b = false := by rfl) : ST X W (.Compare a [.In] [b] pos) (eOp2 (gInD false) eva evb) :=
  st_cmp (OpR.or (op_inDc (by have := hr.un; omega)) (OpR.or op_inS (op_inT (by have := hr.un; omega)))) (snd_inD false) ha hb hm
theorem st_notinx {k : Nat} (hr : Room k X.A) (ha : SE X W a eva) (hb : SE X W b evb) (hm : behindInMarks .NotIn b = false := by rfl) : ST X W (.Compare a [.NotIn] [b] pos) (eOp2 (gInD true) eva evb) :=
  st_cmp (OpR.or (op_notInDc (by have := hr.un; omega)) (OpR.or op_notInS (op_notInT (by have := hr.un; omega)))) (snd_inD true) ha hb hm
/-! ### o[i] = v -/
def putO (k : D) (v : D) : O → Option O
  | .lst xs => match k with
    | .int i => (match ixN xs.length i with
      | some j => some (.lst (xs.set j v))
      | none => none)
    | _ => none
  | .dct ks vs => if k.isKey && (ks.all D.isKey) && decide (ks.length = vs.length) && decide (ks.length < szL) then some (.dct (putD ks vs k v).1 (putD ks vs k v).2) else none
  | _ => none
def rPut : TSet := fun o i v H Q => rSetL o i v H Q ∨ rSetD o i v H Q
theorem set_or (hu : X.A.units + 1 < cLine) : PSet X rPut := by
  intro pins s σ H o i v ov iv u Q I ro ri rv h
  rcases h with h | h
  · exact set_list pins s σ H o i v ov iv u Q I ro ri rv h
  · exact set_dict hu pins s σ H o i v ov iv u Q I ro ri rv h
theorem putD_keys {k : D} {kk : Key} (hk : keyD k = some kk) : ∀ {ks : List D} {kvs : List (Key × V)}, KeysK ks kvs → ks.any (kEq · k) = kvs.any fun kv => decide (kv.1 = kk)
  | [], _, .nil => rfl
  | a :: ks, (ka, v) :: kvs, .cons h1 h2 => by
    rw [List.any_cons, List.any_cons, putD_keys hk h2, kEq_of h1 hk]
theorem putD_rep {K : PySem.W.Frag} {B : Addr → Prop} {m : List Addr} {H : Hp} {k d : D} {v : V} {kk : Key} (hk : keyD k = some kk) (rd : RelD K B m H d v) : ∀ {ks vs : List D} {kvs : List (Key × V)}, KeysK ks kvs → RelDs K B m H vs (kvs.map (·.2)) →
    KeysK ks (kvs.map fun kv => if kv.1 = kk then (kv.1, v) else kv) ∧ RelDs K B m H (List.zipWith (fun a w => if kEq a k then d else w) ks vs) ((kvs.map fun kv => if kv.1 = kk then (kv.1, v) else kv).map (·.2))
  | [], vs, _, .nil, r => ⟨.nil, RelDs.nil'⟩
  | a :: ks, vs, (ka, w) :: kvs, .cons h1 h2, r => by
    match vs, r with
    | [], r => exact absurd (RelDs.nil_iff.mp r) (by simp)
    | x :: vs, r =>
      obtain ⟨v', r', e, r1, r2⟩ := RelDs.cons_inv r
      have e1 : w = v' ∧ kvs.map (·.2) = r' := by simpa using e
      obtain ⟨rfl, rfl⟩ := e1
      obtain ⟨g1, g2⟩ := putD_rep hk rd h2 r2
      rw [List.map_cons, List.zipWith_cons_cons, List.map_cons, kEq_of h1 hk]
      by_cases q : ka = kk
      · simp only [q, decide_true, if_true]
        exact ⟨.cons (by rw [h1, q]) g1, RelDs.cons rd g2⟩
      · simp only [q, decide_false, if_false]
        exact ⟨.cons h1 g1, RelDs.cons r1 g2⟩
theorem KeysK.snoc {k : D} {kk : Key} {v : V} (hk : keyD k = some kk) : ∀ {ks : List D} {kvs : List (Key × V)}, KeysK ks kvs → KeysK (ks ++ [k]) (kvs ++ [(kk, v)])
  | _, _, .nil => .cons hk .nil
  | _, _, .cons h1 h2 => .cons h1 (KeysK.snoc hk h2)
theorem KeysK.len : ∀ {ks : List D} {kvs : List (Key × V)}, KeysK ks kvs → ks.length = kvs.length
  | _, _, .nil => rfl
  | _, _, .cons h1 h2 => by simp [KeysK.len h2]
theorem putO_ok {K : PySem.W.Frag} {B : Addr → Prop} {m : List Addr} {H : Hp} {k d : D} {vk v : V} {o o' : O} {p : Addr} {Q : Hp → Prop} (ro : RelO K B m H o p) (hp : B p) (rk : RelD K B m H k vk) (rd : RelD K B m H d v) (e : putO k d o = some o')
    (c : ∀ u, RelO K B m (upd H p u) o' p → Q (upd H p u)) : rPut (.ref p) vk v H Q := by
  unfold putO at e
  split at e
  · rename_i xs
    split at e
    · rename_i i
      split at e
      · rename_i j e1
        cases e
        obtain ⟨vs, h1, h2⟩ := ro
        obtain rfl := rk.int_inv
        refine .inl ⟨p, vs, i, j, rfl, rfl, h1, by rw [← h2.length]; exact e1, c _ ⟨_, upd_same, (h2.set rd j).wr hp⟩⟩
      · cases e
    · cases e
  · rename_i ks vs
    split at e
    · rename_i hk
      rw [Bool.and_eq_true, Bool.and_eq_true, Bool.and_eq_true] at hk
      obtain ⟨⟨⟨h1, h2⟩, h3⟩, h4⟩ := hk
      cases e
      obtain ⟨kk, hkk⟩ := D.isKey_some h1
      obtain ⟨ws, f, r⟩ := ro
      have hK : ∃ kvs, H p = some (.dK kvs) ∧ KeysK ks kvs ∧ ws = kvs.map (·.2) := by
        rcases f with f | ⟨kvs, f, g1, g2⟩
        · exact f
        · exact (KeysT.no g1 h2).elim
      obtain ⟨kvs, g1, g2, rfl⟩ := hK
      have ev : vk = kV kk := by
        cases k <;> simp [keyD] at hkk <;> subst hkk <;> unfold RelD at rk <;> exact rk
      subst ev
      refine .inr ⟨p, _, rfl, DPut.k g1 (by rw [← g2.len, ← szL_eq]; exact of_decide_eq_true h4), c _ ?_⟩
      unfold putD putK
      rw [putD_keys hkk g2]
      split
      · obtain ⟨z1, z2⟩ := putD_rep hkk rd g2 r
        exact ⟨_, .inl ⟨_, upd_same, z1, rfl⟩, z2.wr hp⟩
      · exact ⟨_, .inl ⟨_, upd_same, g2.snoc hkk, rfl⟩, by rw [List.map_append]; exact (r.append (RelDs.cons rd RelDs.nil')).wr hp⟩
    · cases e
  · cases e
/-- o[i] = e: the value first -/
def sPut (eve evo evi : Ev) : Sv := fun fr hb => match eve fr hb with
  | some (.ok d, hb1) => if d.isVal then (match evo fr hb1 with
    | some (.ok x, hb2) => (match evi fr hb2 with
      | some (.ok k, hb3) => if k.isVal then (match rdO fr hb3 x with
        | some ob => (match putO k d ob with
          | some ob' => some (.nx (wrO x ob' fr hb3).1, (wrO x ob' fr hb3).2)
          | none => none)
        | none => none) else none
      | some (.exn z, hb3) => some (.ex z, hb3)
      | none => none)
    | some (.exn z, hb2) => some (.ex z, hb2)
    | none => none) else none
  | some (.exn z, hb1) => some (.ex z, hb1)
  | none => none
theorem ss_put {k : Nat} {o i e : Expr} {eve evo evi : Ev} (hr : Room k X.A) (he : SE X W e eve) (ho : SE X W o evo) (hi : SE X W i evi)
    (hs : swapsWithSole [.Subscript o i pos'] e pos.line X.env = pure false := by rfl) (hw : swappedStores [.Subscript o i pos'] e X.env = pure none := by rfl)
    (h1 : (assignEach [.Subscript o i pos'] X.env).map (·.2) = [assign (.Subscript o i pos') X.env] := by rfl)
    (ha : ∀ v, assign (.Subscript o i pos') X.env v = (do
      let ov ← holding [v] (eval o X.env)
      let iv ← holding [v, ov] (eval i X.env)
      standAt pos'
      holding [v, ov, iv] (setItem ov iv v)
      release [v, ov, iv] []) := by intro _; rfl) :
    SS X W G (.Assign [.Subscript o i pos'] e pos) (sPut eve evo evi) := PS.mono (ps_asg he (pg_sub ho hi (set_or (by have := hr.un; omega)) ha) hs hw h1) fun D σ H h => by
  obtain ⟨m, hb, fr, r, hb', s, e, c⟩ := h
  unfold sPut at e
  show tE X.K W eve σ H fun x H1 => tE X.K W evo σ H1 fun o H2 => tE X.K W evi σ H2 fun i H3 => rPut o i x H3 fun H4 => D.nx σ H4
  split at e
  · rename_i d hb1 e1
    split at e
    · rename_i hd
      refine s.ev' e1 fun m1 H1 v s1 k1 t1 rv => ?_
      split at e
      · rename_i x hb2 e2
        refine s1.ev' e2 fun m2 H2 vo s2 k2 t2 ro => ?_
        split at e
        · rename_i kd hb3 e3
          split at e
          · rename_i hkd
            refine s2.ev' e3 fun m3 H3 vi s3 k3 t3 ri => ?_
            split at e
            · rename_i ob e4
              split at e
              · rename_i ob' e5
                cases e
                obtain ⟨p, rfl, rb, hB, hwr⟩ := s3.wr (o' := ob') (ro.keep t3) e4
                refine putO_ok rb hB (ri.val hkd) (((rv.keep t2).keep t3).val hd) e5 fun u ru => ?_
                obtain ⟨s4, k4⟩ := hwr u ru
                exact c m3 _ σ s4 (k1.trans (k2.trans (k3.trans k4)))
              · cases e
            · cases e
          · cases e
        · rename_i z hb3 e3
          cases e
          exact s2.ev' e3 fun m3 H3 C dd s3 k3 rx => c m3 H3 σ fr C dd s3 (k1.trans (k2.trans k3)) rx
        · cases e
      · rename_i z hb2 e2
        cases e
        exact s1.ev' e2 fun m2 H2 C dd s2 k2 rx => c m2 H2 σ fr C dd s2 (k1.trans k2) rx
      · cases e
    · cases e
  · rename_i z hb1 e1
    cases e
    exact s.ev' e1 fun m1 H1 C dd s1 k1 rx => c m1 H1 σ fr C dd s1 k1 rx
  · cases e
/-! ### ranges -/
def rngD (i j : Int) : List D := (List.range (j - i).toNat).map fun n : Nat => D.int (i + (n : Int))
def smI (i : Int) : Bool := decide (-(2 ^ 62) ≤ i) && decide (i < 2 ^ 62)
def iRng1D (es : Evs) : Iv := fun fr hb => match es fr hb with
  | some (.inl [.int j], hb1) => if smI j then some (.inl (.ls (rngD 0 j) true), hb1) else none
  | some (.inr x, hb1) => some (.inr x, hb1)
  | _ => none
def iRng2D (es : Evs) : Iv := fun fr hb => match es fr hb with
  | some (.inl [.int i, .int j], hb1) => if smI i && smI j then some (.inl (.ls (rngD i j) true), hb1) else none
  | some (.inr x, hb1) => some (.inr x, hb1)
  | _ => none
theorem walkD_rng {K : PySem.W.Frag} {M : Addr → Prop} {m1 : List Addr} {H1 : Hp} {i j : Int} {fz : Bool} : WalkD K M m1 H1 (rngD i j) fz (Itr i (j - i).toNat) (fun _ => True) (YFn fun n => .int (i + n)) := by
  have hl : (rngD i j).length = (j - i).toNat := by unfold rngD; rw [List.length_map, List.length_range]
  refine ⟨by rw [hl]; exact walk_range, fun _ _ => trivial, fun n H2 x H2' y => .inl y.1, fun n H2 x H2' hn y B2 m2 k nf => ?_⟩
  obtain ⟨rfl, rfl⟩ := y
  rw [hl] at hn
  refine ⟨.int (i + n), by unfold rngD; rw [List.getElem?_map, List.getElem?_range hn]; rfl, ?_⟩
  unfold RelD
  rfl
theorem smI_ok {i : Int} (h : smI i = true) : -(2 ^ 62) ≤ i ∧ i < 2 ^ 62 := by
  unfold smI at h
  rw [Bool.and_eq_true] at h
  exact ⟨of_decide_eq_true h.1, of_decide_eq_true h.2⟩
theorem si_range1 {tg : Expr} {p : Pos} {evs : Evs} (hg : Gl X "range") (hm : X.mg "range" = none) (ha : SEs X W [a] evs) (hs : starEach [a] X.env = [(false, eval a X.env)] := by rfl) : SI X W tg (.Call (.Name "range" p) [a] [] pos) (iRng1D evs) := by
  refine PI.mono (pi_range1 hg hm ha hs) fun σ H R h => ?_
  obtain ⟨M, m, hb, fr, r, hb', at_, e0, c⟩ := h
  unfold iRng1D at e0
  show tEs X.K W evs σ H fun vs H1 => ∃ j : Int, vs = [.int j] ∧ -(2 ^ 62) ≤ j ∧ j < 2 ^ 62 ∧ R (Itr 0 j.toNat) H1
  split at e0
  · rename_i j hb1 e1
    split at e0
    · rename_i hj
      cases e0
      refine ⟨M, m, hb, fr, .inl _, _, at_.wd, at_.fr, e1, fun m1 H1 s1 vs rv => ?_⟩
      obtain ⟨v, rfl, r1⟩ := rv.one
      have hj' := smI_ok hj
      refine ⟨j, by rw [vInt_ok r1], hj'.1, hj'.2, ?_⟩
      have z := c m1 H1 s1 _ _ _ (walkD_rng (i := 0) (j := j))
      rw [Int.sub_zero] at z
      exact z
    · cases e0
  · rename_i x hb1 e1
    cases e0
    exact ⟨M, m, hb, fr, .inr x, _, at_.wd, at_.fr, e1, fun m1 H1 s1 => c m1 H1 s1⟩
  · cases e0
theorem si_range2 {tg : Expr} {p : Pos} {evs : Evs} (hg : Gl X "range") (hm : X.mg "range" = none) (ha : SEs X W [a, b] evs) (hs : starEach [a, b] X.env = [(false, eval a X.env), (false, eval b X.env)] := by rfl) (hs2 : starEach [b] X.env = [(false, eval b X.env)] := by rfl) : SI X W tg (.Call (.Name "range" p) [a, b] [] pos) (iRng2D evs) := by
  refine PI.mono (pi_range2 hg hm ha hs hs2) fun σ H R h => ?_
  obtain ⟨M, m, hb, fr, r, hb', at_, e0, c⟩ := h
  unfold iRng2D at e0
  show tEs X.K W evs σ H fun vs H1 => ∃ i j : Int, vs = [.int i, .int j] ∧ (-(2 ^ 62) ≤ i ∧ i < 2 ^ 62 ∧ -(2 ^ 62) ≤ j ∧ j < 2 ^ 62) ∧ R (Itr i (j - i).toNat) H1
  split at e0
  · rename_i i j hb1 e1
    split at e0
    · rename_i hj
      cases e0
      refine ⟨M, m, hb, fr, .inl _, _, at_.wd, at_.fr, e1, fun m1 H1 s1 vs rv => ?_⟩
      obtain ⟨v, w, rfl, r1, r2⟩ := rv.two
      rw [Bool.and_eq_true] at hj
      have h1 := smI_ok hj.1
      have h2 := smI_ok hj.2
      exact ⟨i, j, by rw [vInt_ok r1, vInt_ok r2], ⟨h1.1, h1.2, h2.1, h2.2⟩, c m1 H1 s1 _ _ _ walkD_rng⟩
    · cases e0
  · rename_i x hb1 e1
    cases e0
    exact ⟨M, m, hb, fr, .inr x, _, at_.wd, at_.fr, e1, fun m1 H1 s1 => c m1 H1 s1⟩
  · cases e0
end
end DI
set_option Elab.async false
set_option linter.all false
set_option maxRecDepth 100000
namespace DI
open PySem PySem.Spec PyProof.Rows L2

/-! ### x[::-1] of a list, a tuple, a text -/
section
variable {prog : Program} {w : World} {A : Around} {E : Value → Shared → Prop} {s : Shared}
theorem pick_rev (xs : Array Value) : ((List.range xs.size).filterMap fun (k : Nat) => xs[(((xs.size : Int) - 1) + (k : Int) * (-1)).toNat]?).toArray = xs.toList.reverse.toArray := by
  have e : ((List.range xs.size).filterMap fun (k : Nat) => xs[(((xs.size : Int) - 1) + (k : Int) * (-1)).toNat]?) = ((List.range xs.size).map fun k => xs.size - 1 - k).filterMap (xs[·]?) := by
    rw [List.filterMap_map]
    have cg : ∀ (l : List Nat) (f g : Nat → Option Value), (∀ k ∈ l, f k = g k) → l.filterMap f = l.filterMap g := by
      intro l
      induction l with
      | nil => intro _ _ _; rfl
      | cons a l ih =>
        intro f g hh
        rw [List.filterMap_cons, List.filterMap_cons, hh a List.mem_cons_self, ih f g fun k hk => hh k (List.mem_cons_of_mem _ hk)]
    refine cg _ _ _ fun k hk => ?_
    have := List.mem_range.mp hk
    have e2 : (((xs.size : Int) - 1) + (k : Int) * (-1)).toNat = xs.size - 1 - k := by omega
    rw [e2]; rfl
  rw [e, PySem.W.krv_range, List.filterMap_reverse, PySem.W.krv_all]
theorem adjust_rev (n : Nat) : Builtin.Slice.sliceAdjust none none (-1) (n : Int) = ((n : Int) - 1, -1) := by
  unfold Builtin.Slice.sliceAdjust
  have h1 : ((-1 : Int) < 0) := by omega
  simp only [h1, if_true]
theorem places_rev (n : Nat) : Builtin.Slice.slicePlaces ((n : Int) - 1) (-1) (-1) = n := by
  unfold Builtin.Slice.slicePlaces
  have h1 : ¬ ((-1 : Int) > 0) := by omega
  simp only [h1, if_false]
  have e : ((n : Int) - 1 - -1 - 1) / (- -1 : Int) = (n : Int) - 1 := by
    rw [show (- -1 : Int) = 1 by decide, Int.ediv_one]; omega
  rw [e]
  split <;> omega
theorem getItem_tuple_rev {t sl : Addr} {items : Array Value} {tk : Tok} {Q : Value → Shared → Prop} (ht : IsTup s.heap t items) (hs : s.heap.IsSliceOf sl .none .none (.int (-1) tk))
    (h : Q (.ref s.heap.objs.size) { s with heap := s.heap.push { cls := .type "tuple", data := .seq items.toList.reverse.toArray } })
    (hsz : items.size ≤ sizeLine) : wpAny (model prog w) A (getItem (.ref t) (.ref sl)) Q E s := by
  have htake : sizeOk (.seq items.toList.reverse.toArray) := by
    show items.toList.reverse.toArray.size ≤ sizeLine
    rw [List.size_toArray, List.length_reverse, Array.length_toList]
    exact hsz
  obtain ⟨os, hos, hcs, hds⟩ := id hs
  have hTs : s.TypeIs (.ref sl) "slice" := ⟨os, hos, hcs⟩
  unfold getItem
  try with_reducible refine wpAny_holding ?_
  first | refine wpAny_bind (wpAny_pure ?_) | skip
  refine wpAny_bind (wpAny_sequenceKey ht.typeIs (by decide) ?_)
  refine wpAny_bind (wpAny_callSpecial?_slot (name := Str.ofString "__getitem__") ht.typeIs PyProof.Rows.slot_tuple_getitem
    (wpAny_call_entry PyProof.Rows.slot_tuple_getitem ht.typeIs entry_tuple_getitem ?_ (args_tuple_getitem _ _)))
  show wpAny _ _ (Builtin.Tuple.tupleItemsOf (.ref t) >>= _) _ _ s
  refine wpAny_bind (tupleItemsOf_ ht ?_)
  refine wpAny_bind (wpAny_typeOf hTs ?_)
  rw [if_pos (by decide)]
  refine wpAny_bind ?_
  unfold Builtin.Slice.sliceApplied Builtin.Slice.sliceFields
  refine wpAny_bind (wpAny_bind (wpAny_field hos hds (x := .none) rfl (wpAny_bind (wpAny_field hos hds (x := .none) rfl (wpAny_bind (wpAny_field hos hds (x := .int (-1) tk) rfl (wpAny_pure ?_)))))))
  refine wpAny_bind (slicePart_int ?_)
  show wpAny _ _ (if ((-1 : Int) == 0) = true then _ else _) _ _ s
  rw [if_neg (by decide)]
  refine wpAny_bind (slicePart_none (wpAny_bind (slicePart_none (wpAny_bind (wpAny_pure ?_)))))
  show wpAny _ _ (match Builtin.Slice.sliceAdjust none none (-1) (items.size : Int) with | (lo, hi) => pure (lo, (-1 : Int), Builtin.Slice.slicePlaces lo hi (-1))) _ _ s
  rw [adjust_rev items.size]
  show wpAny _ _ (pure ((items.size : Int) - 1, (-1 : Int), Builtin.Slice.slicePlaces ((items.size : Int) - 1) (-1) (-1))) _ _ s
  rw [places_rev]
  refine wpAny_pure ?_
  show wpAny _ _ (if (((items.size : Int) - 1) == 0 && (-1 : Int) == 1 && items.size == items.size) = true then _ else _) _ _ s
  rw [if_neg (by rw [show ((-1 : Int) == 1) = false by decide, Bool.and_false]; simp), pick_rev]
  first
    | exact wpAny_bind (m := Builtin.Tuple.tupleExact _) (wpAny_newObj_type (wpAny_pure ⟨_, rfl, wpAny_pure h⟩) htake)
    | exact wpAny_bind (m := Builtin.Tuple.tupleExact _) (wpAny_newObj_type (wpAny_bind (wpAny_pure (wpAny_pure ⟨_, rfl, wpAny_pure h⟩))) htake)
    | exact wpAny_bind (wpAny_bind (m := Builtin.Tuple.tupleExact _) (wpAny_newObj_type (wpAny_pure (wpAny_pure ⟨_, rfl, wpAny_pure h⟩)) htake))
    | exact wpAny_bind (wpAny_bind (m := Builtin.Tuple.tupleExact _) (wpAny_newObj_type (wpAny_pure ⟨_, rfl, wpAny_pure h⟩) htake))
end
def rRevA (K : PySem.W.Frag) : V → Hp → VK → Prop := fun x H Q => (∃ a xs, x = .ref a ∧ SqL K H a xs ∧ ∀ p, H p = none → Q (.ref p) (upd H p (.lst xs.reverse))) ∨
  (∃ a xs, x = .ref a ∧ SqT K H a xs ∧ ∀ p, H p = none → Q (.ref p) (upd H p (.tup xs.reverse))) ∨
  ∃ z : List Char, x = .str (strC z) ∧ z.length ≤ szL ∧ Q (.str (strC z.reverse)) H
theorem str_pick_rev (z : List Char) : (⟨((Builtin.Str.strSliceIndices none none (-1) (strC z).length).filterMap ((strC z).cps[·]?)).toArray⟩ : Str) = strC z.reverse := by
  have e : Builtin.Str.strSliceIndices none none (-1) (strC z).length = (List.range (strC z).length).map fun k => (strC z).length - 1 - k := by
    unfold Builtin.Str.strSliceIndices
    show sliceRange (((strC z).length : Int) - 1) (-1) (-1) = _
    exact PySem.W.krv_sliceRange _
  rw [e, PySem.W.krv_range, List.filterMap_reverse]
  have e2 := PySem.W.krv_all (strC z).cps
  have e3 : (strC z).cps.size = (strC z).length := rfl
  rw [e3] at e2
  rw [e2]
  unfold strC
  simp
theorem pe_revA {X : Cx} {e : Expr} {te : TE} {k : Nat} {p1 p2 p3 pos : Pos} (he : PE X e te) : PE X (.Subscript e (.Slice none none (some (.UnaryOp .USub (.Constant (.int 1) k p1) p2)) p3) pos) (fun σ H Q => te σ H fun x H1 => rRevA X.K x H1 Q) := by
  refine ⟨fun pins s σ H Q I h => ?_⟩
  refine Subscript_ (thn (he.run pins s σ H _ I h) fun v s1 ⟨x, H1, I1, r1, q1⟩ => ?_)
  have hst : PO X (some (.UnaryOp .USub (.Constant (.int 1) k p1) p2)) (tPart (tUn (rU fun i => .int (-i)) (tC (.int 1)))) := po_some (pe_un un_neg pe_int)
  refine wpAny_Slice (thn (po_none.run pins s1 σ H1 (fun o H2 => o = none ∧ H2 = H1) I1 ⟨rfl, rfl⟩) fun vl s2 ⟨l, H2, I2, pl, el, e2⟩ => ?_)
  subst el e2
  refine thn (po_none.run pins s2 σ H2 (fun o H3 => o = none ∧ H3 = H2) I2 ⟨rfl, rfl⟩) fun vu s3 ⟨u, H3, I3, pu, eu, e3⟩ => ?_
  subst eu e3
  refine thn (hst.run pins s3 σ H3 (fun o H4 => o = some (-1) ∧ H4 = H3) I3 ⟨1, rfl, -1, rfl, rfl, rfl⟩) fun vs s4 ⟨o, H4, I4, ps, eo, e4⟩ => ?_
  subst eo e4
  have I5 : Inv X pins σ H4 { s4 with heap := s4.heap.push { cls := .type "slice", data := .fields #[vl, vu, vs] } } := I4.kept (t' := s4.toks) fun b ob q => Heap.get?_push_of_some _ q
  show wpAny (model X.prog X.w) X.A (subscriptTail e (.Slice none none (some (.UnaryOp .USub (.Constant (.int 1) k p1) p2)) p3) v (.ref s4.heap.objs.size)) (EP X pins σ Q) X.xe { s4 with heap := s4.heap.push { cls := .type "slice", data := .fields #[vl, vu, vs] } }
  rcases q1 with ⟨a, xs, rfl, hx, q⟩ | ⟨a, xs, rfl, hx, q⟩ | ⟨z, rfl, hz, q⟩
  · cases r1
    obtain ⟨its, r, ht, hz⟩ := I5.list hx
    have hlen := r.length
    refine tail_any (ops := [.ref a, .ref s4.heap.objs.size]) ht.isList.typeIs (PySem.slot_list_getitem.lookup) ?_ (by with_unfolding_all rfl)
    refine wpAny_getItem_list_slice ht.isList (Heap.IsSliceOf.new _ vl vu vs) pl pu ps (by decide) ?_ (by rw [List.size_toArray]; omega)
    rw [PySem.W.krv_pick]
    refine ⟨.ref _, _, I5.laid (t' := s4.toks) (o := .lst xs.reverse) (fun b ob q => Heap.get?_push_of_some _ q) (Nat.le_refl _) ?_, rfl, q _ (I5.hok.fresh (Nat.le_refl _))⟩
    exact ⟨by rw [List.length_reverse]; exact hz, _, 0, r.reverse, Heap.get?_push_size _ rfl⟩
  · cases r1
    obtain ⟨its, r, ht, hz⟩ := I5.tuple hx
    have hlen := r.length
    cases pl
    cases pu
    cases ps with
    | int i tk =>
      refine tail_any (ops := [.ref a, .ref s4.heap.objs.size]) ht.typeIs (PyProof.Rows.slot_tuple_getitem.lookup) ?_ (by with_unfolding_all rfl)
      refine getItem_tuple_rev ht (Heap.IsSliceOf.new _ .none .none (.int (-1) tk)) ?_ (by rw [List.size_toArray]; omega)
      refine ⟨.ref _, _, I5.laid (t' := s4.toks) (o := .tup xs.reverse) (fun b ob q => Heap.get?_push_of_some _ q) (Nat.le_refl _) ?_, rfl, q _ (I5.hok.fresh (Nat.le_refl _))⟩
      exact ⟨by rw [List.length_reverse]; exact hz, _, r.reverse, _, Heap.get?_push_size _ rfl, rfl, 0, by simp⟩
  · obtain ⟨t, rfl⟩ := r1
    cases pl
    cases pu
    cases ps with
    | int i tk =>
      refine tail_any (ops := [.str (strC z) t, .ref s4.heap.objs.size]) (typeIs_str _ _ _) (F.slot_str_getitem.lookup) ?_ (by with_unfolding_all rfl)
      refine wpAny_getItem_str_slice (l := none) (u := none) (st := some (-1, tk)) ⟨_, Heap.get?_push_size _ rfl, rfl, rfl⟩ rfl ?_
      have e9 := str_pick_rev z
      have mk : sliceMade (strC z) t none none (some (-1, tk)) = .str (strC z.reverse) := by
        unfold sliceMade slicePicked
        show (if ((-1 : Int) == 1 && _) = true then _ else Made.str _) = _
        rw [if_neg (by rw [show ((-1 : Int) == 1) = false by decide, Bool.false_and]; simp)]
        exact congrArg Made.str e9
      rw [mk]
      exact ⟨by rw [strC_len, List.length_reverse, ← szL_eq]; exact hz, .str (strC z.reverse), H4, I5.tok _, ⟨_, rfl⟩, q⟩
def gRev : D → Ev := fun x fr hb => match x with
  | .str s => if s.length ≤ szL then some (.ok (.str s.reverse), hb) else none
  | .tup xs => some (.ok (.tup xs.reverse), hb)
  | .fz xs => some (.ok (.lst xs.reverse), hb)
  | x => match vLst fr hb x with
    | some xs => some (.ok (.lst xs.reverse), hb)
    | none => none
theorem se_rev {X : Cx} {W : WX} {e : Expr} {ev : Ev} {k : Nat} {p1 p2 p3 pos : Pos} (he : SE X W e ev) : SE X W (.Subscript e (.Slice none none (some (.UnaryOp .USub (.Constant (.int 1) k p1) p2)) p3) pos) (eBind ev gRev) :=
  PE.mono (pe_revA he) fun _ _ _ h => tE_bind1 h fun {M m hb fr x vx H2 r hb'} a rx e c => by
    unfold gRev at e
    split at e
    · split at e
      · rename_i hz
        cases e
        rw [vStr_ok rx]
        exact .inr (.inr ⟨_, rfl, hz, c.done a rStr⟩)
      · cases e
    · cases e
      obtain ⟨p, vs, rfl, f, r⟩ := vTup_ok rx
      exact .inr (.inl ⟨p, vs, rfl, f, fun q hq => c.tup a hq r.reverse⟩)
    · cases e
      obtain ⟨p, vs, rfl, f, r⟩ := vFz_ok rx
      exact .inl ⟨p, vs, rfl, f, fun q hq => c.lst a hq r.reverse⟩
    · split at e
      · rename_i xs e1
        cases e
        obtain ⟨p, vs, rfl, f, r⟩ := vLst_ok a rx e1
        exact .inl ⟨p, vs, rfl, .of f, fun q hq => c.lst a hq r.reverse⟩
      · cases e
end DI
set_option Elab.async false
set_option linter.all false
set_option maxRecDepth 100000
namespace DI
open PySem PySem.Spec PyProof.Rows L2

/-! ### min, max of two tDs -/
section
variable {prog : Program} {w : World} {A : Around} {E : Value → Shared → Prop} {s : Shared}
theorem cmpOf_strs_lt {P : Nat → Value → Prop} (val : Nat → Str) (hval : ∀ i v, P i v → ∃ t, v = .str (val i) t) :
    CmpOf prog w A .Lt P (fun i j => decide ((val i).cps.toList < (val j).cps.toList)) := fun i j vi vj s Q E hi hj h => by
  obtain ⟨t, rfl⟩ := hval i vi hi
  obtain ⟨u, rfl⟩ := hval j vj hj
  exact richCompare_gives (op := .Lt) (typeIs_str s _ t) (typeIs_str s _ u) F.slot_str_lt F.entry_str_lt (F.args_str_lt_2 _ _) (gives_str_lt _ _ t u) (fun x => nomatch x) h
theorem cmpOf_strs_gt {P : Nat → Value → Prop} (val : Nat → Str) (hval : ∀ i v, P i v → ∃ t, v = .str (val i) t) :
    CmpOf prog w A .Gt P (fun i j => decide ((val j).cps.toList < (val i).cps.toList)) := fun i j vi vj s Q E hi hj h => by
  obtain ⟨t, rfl⟩ := hval i vi hi
  obtain ⟨u, rfl⟩ := hval j vj hj
  exact richCompare_gives (op := .Gt) (typeIs_str s _ t) (typeIs_str s _ u) F.slot_str_gt F.entry_str_gt (F.args_str_gt_2 _ _) (gives_str_gt _ _ t u) (fun x => nomatch x) h
def two (a b : Str) : Nat → Str
  | 0 => a
  | _ => b
theorem two_items {a b : Str} {t u : Tok} {i : Nat} {v : Value} (h : (#[Value.str a t, .str b u] : Array Value)[i]? = some v) : ∃ t, v = .str (two a b i) t := by
  match i with
  | 0 => simp at h; exact ⟨t, h.symm⟩
  | 1 => simp at h; exact ⟨u, h.symm⟩
  | n + 2 => simp at h
theorem min_two_strs {a b : Str} {t u : Tok} {Q : Value → Shared → Prop} (hh : A.handled = none)
    (h : ∀ h' tk, (∀ c o, s.heap.get? c = some o → h'.get? c = some o) → Q (if b.cps.toList < a.cps.toList then .str b u else .str a t) { s with heap := h', toks := tk }) :
    wpAny (model prog w) A (call (.builtin "min") [.str a t, .str b u]) Q E s := by
  have hT : (s.heap.push { cls := .type "tuple", data := .seq #[.str a t, .str b u] }).IsTuple s.heap.objs.size #[.str a t, .str b u] := ⟨_, Heap.get?_push_size _ rfl, rfl, 0, by simp⟩
  refine call_min_two (wpAny_pyIter_tuple hT ?_)
  have hsz : (s.heap.push { cls := .type "tuple", data := .seq #[.str a t, .str b u] }).objs.size = s.heap.objs.size + 1 := Heap.size_push ..
  refine ⟨_, [_, s.heap.objs.size], [_], _, _, _, _, rfl, Walks.tuple (A := A.in1) hh _ s.heap.objs.size (by rw [hsz]; exact Nat.ne_of_lt (Nat.lt_succ_self _)) #[.str a t, .str b u],
    ⟨⟨_, Heap.get?_push_size _ rfl, rfl, rfl⟩, hT.push _⟩, fun c hc => ?_, by simp, cmpOf_strs_lt (two a b) (fun _ _ => two_items), fun v h' tk hP hk => ?_⟩
  · show c < ((s.heap.push _).push _).objs.size
    rw [Heap.size_push, hsz]
    rcases List.mem_cons.mp hc with rfl | hc
    · rw [hsz]; exact Nat.lt_succ_self _
    · rcases List.mem_cons.mp hc with rfl | hc
      · exact Nat.lt_succ_of_lt (Nat.lt_succ_self _)
      · cases hc
  · have hold : ∀ c o, s.heap.get? c = some o → h'.get? c = some o := fun c o e => by
      refine hk c o (fun hm => ?_) (Heap.get?_push_of_some _ (Heap.get?_push_of_some _ e))
      rcases List.mem_cons.mp hm with e1 | hm
      · have := Heap.lt_size e; rw [e1, hsz] at this; exact Nat.lt_irrefl _ (Nat.lt_of_succ_lt this)
      · cases hm
    have := h h' tk hold
    have hv : v = if b.cps.toList < a.cps.toList then Value.str b u else Value.str a t := by
      by_cases hba : b.cps.toList < a.cps.toList
      · have e : argBest (fun i j => decide ((two a b i).cps.toList < (two a b j).cps.toList)) 1 = 1 := by simp [argBest, two, hba]
        have hP' : (#[Value.str a t, .str b u] : Array Value)[argBest (fun i j => decide ((two a b i).cps.toList < (two a b j).cps.toList)) 1]? = some v := hP
        rw [e] at hP'
        rw [if_pos hba]
        simpa using hP'.symm
      · have e : argBest (fun i j => decide ((two a b i).cps.toList < (two a b j).cps.toList)) 1 = 0 := by simp [argBest, two, hba]
        have hP' : (#[Value.str a t, .str b u] : Array Value)[argBest (fun i j => decide ((two a b i).cps.toList < (two a b j).cps.toList)) 1]? = some v := hP
        rw [e] at hP'
        rw [if_neg hba]
        simpa using hP'.symm
    rw [hv]; exact this
theorem max_two_strs {a b : Str} {t u : Tok} {Q : Value → Shared → Prop} (hh : A.handled = none)
    (h : ∀ h' tk, (∀ c o, s.heap.get? c = some o → h'.get? c = some o) → Q (if a.cps.toList < b.cps.toList then .str b u else .str a t) { s with heap := h', toks := tk }) :
    wpAny (model prog w) A (call (.builtin "max") [.str a t, .str b u]) Q E s := by
  have hT : (s.heap.push { cls := .type "tuple", data := .seq #[.str a t, .str b u] }).IsTuple s.heap.objs.size #[.str a t, .str b u] := ⟨_, Heap.get?_push_size _ rfl, rfl, 0, by simp⟩
  refine call_max_two (wpAny_pyIter_tuple hT ?_)
  have hsz : (s.heap.push { cls := .type "tuple", data := .seq #[.str a t, .str b u] }).objs.size = s.heap.objs.size + 1 := Heap.size_push ..
  refine ⟨_, [_, s.heap.objs.size], [_], _, _, _, _, rfl, Walks.tuple (A := A.in1) hh _ s.heap.objs.size (by rw [hsz]; exact Nat.ne_of_lt (Nat.lt_succ_self _)) #[.str a t, .str b u],
    ⟨⟨_, Heap.get?_push_size _ rfl, rfl, rfl⟩, hT.push _⟩, fun c hc => ?_, by simp, cmpOf_strs_gt (two a b) (fun _ _ => two_items), fun v h' tk hP hk => ?_⟩
  · show c < ((s.heap.push _).push _).objs.size
    rw [Heap.size_push, hsz]
    rcases List.mem_cons.mp hc with rfl | hc
    · rw [hsz]; exact Nat.lt_succ_self _
    · rcases List.mem_cons.mp hc with rfl | hc
      · exact Nat.lt_succ_of_lt (Nat.lt_succ_self _)
      · cases hc
  · have hold : ∀ c o, s.heap.get? c = some o → h'.get? c = some o := fun c o e => by
      refine hk c o (fun hm => ?_) (Heap.get?_push_of_some _ (Heap.get?_push_of_some _ e))
      rcases List.mem_cons.mp hm with e1 | hm
      · have := Heap.lt_size e; rw [e1, hsz] at this; exact Nat.lt_irrefl _ (Nat.lt_of_succ_lt this)
      · cases hm
    have := h h' tk hold
    have hv : v = if a.cps.toList < b.cps.toList then Value.str b u else Value.str a t := by
      by_cases hba : a.cps.toList < b.cps.toList
      · have e : argBest (fun i j => decide ((two a b j).cps.toList < (two a b i).cps.toList)) 1 = 1 := by simp [argBest, two, hba]
        have hP' : (#[Value.str a t, .str b u] : Array Value)[argBest (fun i j => decide ((two a b j).cps.toList < (two a b i).cps.toList)) 1]? = some v := hP
        rw [e] at hP'
        rw [if_pos hba]
        simpa using hP'.symm
      · have e : argBest (fun i j => decide ((two a b j).cps.toList < (two a b i).cps.toList)) 1 = 0 := by simp [argBest, two, hba]
        have hP' : (#[Value.str a t, .str b u] : Array Value)[argBest (fun i j => decide ((two a b j).cps.toList < (two a b i).cps.toList)) 1]? = some v := hP
        rw [e] at hP'
        rw [if_neg hba]
        simpa using hP'.symm
    rw [hv]; exact this
end
section
variable {X : Cx} {W : WX}
theorem call_min2S (hc : X.calm = true) : CallR X (.builtin "min") (fun xs H Q => ∃ i j, xs = [.str i, .str j] ∧ Q (.str (if j.cps.toList < i.cps.toList then j else i)) H) := by
  intro pins s σ H xs us Q I r h
  obtain ⟨i, j, rfl, q⟩ := h
  obtain ⟨u, w', rfl, ⟨t, rfl⟩, ⟨t', rfl⟩⟩ := L2.vals2 r
  refine min_two_strs (I.ok.hd hc) fun h' tk k => ⟨_, H, I.kept k, ?_, q⟩
  by_cases hj : j.cps.toList < i.cps.toList
  · rw [if_pos hj, if_pos hj]; exact ⟨_, rfl⟩
  · rw [if_neg hj, if_neg hj]; exact ⟨_, rfl⟩
theorem call_max2S (hc : X.calm = true) : CallR X (.builtin "max") (fun xs H Q => ∃ i j, xs = [.str i, .str j] ∧ Q (.str (if i.cps.toList < j.cps.toList then j else i)) H) := by
  intro pins s σ H xs us Q I r h
  obtain ⟨i, j, rfl, q⟩ := h
  obtain ⟨u, w', rfl, ⟨t, rfl⟩, ⟨t', rfl⟩⟩ := L2.vals2 r
  refine max_two_strs (I.ok.hd hc) fun h' tk k => ⟨_, H, I.kept k, ?_, q⟩
  by_cases hj : i.cps.toList < j.cps.toList
  · rw [if_pos hj, if_pos hj]; exact ⟨_, rfl⟩
  · rw [if_neg hj, if_neg hj]; exact ⟨_, rfl⟩
theorem strC_lt (a b : List Char) : ((strC a).cps.toList < (strC b).cps.toList) ↔ ltC a b = true := by
  unfold ltC strC
  rw [decide_eq_true_iff, List.toList_toArray, List.toList_toArray]
/-- min(a, b), max(a, b) -/
def gMin2 : List D → Ev := fun ds fr hb => match ds with
  | [.int i, .int j] => some (.ok (.int (if j < i then j else i)), hb)
  | [.str a, .str b] => some (.ok (.str (if ltC b a then b else a)), hb)
  | _ => none
def gMax2 : List D → Ev := fun ds fr hb => match ds with
  | [.int i, .int j] => some (.ok (.int (if j > i then j else i)), hb)
  | [.str a, .str b] => some (.ok (.str (if ltC a b then b else a)), hb)
  | _ => none
theorem snd_min2 : SndL X W (fun xs H Q => (∃ i j, xs = [V.int i, .int j] ∧ Q (V.int (if j < i then j else i)) H) ∨ ∃ i j, xs = [V.str i, .str j] ∧ Q (V.str (if j.cps.toList < i.cps.toList then j else i)) H) gMin2 := by
  intro M m hb fr σ H ds vs res hb' Q at_ rv e c
  unfold gMin2 at e
  split at e
  · cases e
    obtain ⟨v, w, rfl, r1, r2⟩ := rv.two
    rw [vInt_ok r1, vInt_ok r2]
    exact .inl ⟨_, _, rfl, c.done at_ rInt⟩
  · rename_i a b
    cases e
    obtain ⟨v, w, rfl, r1, r2⟩ := rv.two
    rw [vStr_ok r1, vStr_ok r2]
    refine .inr ⟨_, _, rfl, ?_⟩
    have z := c.done at_ rStr
    by_cases h : ltC b a = true
    · rw [if_pos h] at z; rw [if_pos ((strC_lt b a).mpr h)]; exact z
    · rw [if_neg h] at z; rw [if_neg fun q => h ((strC_lt b a).mp q)]; exact z
  · cases e
theorem snd_max2 : SndL X W (fun xs H Q => (∃ i j, xs = [V.int i, .int j] ∧ Q (V.int (if j > i then j else i)) H) ∨ ∃ i j, xs = [V.str i, .str j] ∧ Q (V.str (if i.cps.toList < j.cps.toList then j else i)) H) gMax2 := by
  intro M m hb fr σ H ds vs res hb' Q at_ rv e c
  unfold gMax2 at e
  split at e
  · cases e
    obtain ⟨v, w, rfl, r1, r2⟩ := rv.two
    rw [vInt_ok r1, vInt_ok r2]
    exact .inl ⟨_, _, rfl, c.done at_ rInt⟩
  · rename_i a b
    cases e
    obtain ⟨v, w, rfl, r1, r2⟩ := rv.two
    rw [vStr_ok r1, vStr_ok r2]
    refine .inr ⟨_, _, rfl, ?_⟩
    have z := c.done at_ rStr
    by_cases h : ltC a b = true
    · rw [if_pos h] at z; rw [if_pos ((strC_lt a b).mpr h)]; exact z
    · rw [if_neg h] at z; rw [if_neg fun q => h ((strC_lt a b).mp q)]; exact z
  · cases e
/-! ### lists of iDs, of bDs, of tDs -/
def iDs : List D → Option (List Int)
  | [] => some []
  | .int i :: r => match iDs r with
    | some is => some (i :: is)
    | none => none
  | _ => none
def bDs : List D → Option (List Bool)
  | [] => some []
  | .bl i :: r => match bDs r with
    | some is => some (i :: is)
    | none => none
  | _ => none
def tDs : List D → Option (List (List Char))
  | [] => some []
  | .str i :: r => match tDs r with
    | some is => some (i :: is)
    | none => none
  | _ => none
theorem iDs_ok {K : PySem.W.Frag} {B : Addr → Prop} {m : List Addr} {H : Hp} : ∀ {ds : List D} {is : List Int} {vs : List V}, iDs ds = some is → RelDs K B m H ds vs → vs = is.map V.int ∧ ds = is.map D.int
  | [], is, vs, e, r => by
    cases e
    exact ⟨RelDs.nil_iff.mp r, rfl⟩
  | d :: ds, is, vs, e, r => by
    obtain ⟨v, w, rfl, r1, r2⟩ := RelDs.cons_inv r
    unfold iDs at e
    split at e
    · cases e; rename_i h; cases h
    · rename_i i r' h
      cases h
      split at e
      · rename_i js e1
        cases e
        obtain ⟨e2, e3⟩ := iDs_ok e1 r2
        subst e2
        exact ⟨by rw [RelD.int_inv r1]; rfl, by rw [e3]; rfl⟩
      · cases e
    · cases e
theorem bDs_ok {K : PySem.W.Frag} {B : Addr → Prop} {m : List Addr} {H : Hp} : ∀ {ds : List D} {is : List Bool} {vs : List V}, bDs ds = some is → RelDs K B m H ds vs → vs = is.map V.bl
  | [], is, vs, e, r => by
    cases e
    exact RelDs.nil_iff.mp r
  | d :: ds, is, vs, e, r => by
    obtain ⟨v, w, rfl, r1, r2⟩ := RelDs.cons_inv r
    unfold bDs at e
    split at e
    · cases e; rename_i h; cases h
    · rename_i i r' h
      cases h
      split at e
      · rename_i js e1
        cases e
        have e2 := bDs_ok e1 r2
        subst e2
        unfold RelD at r1
        rw [r1]; rfl
      · cases e
    · cases e
theorem tDs_ok {K : PySem.W.Frag} {B : Addr → Prop} {m : List Addr} {H : Hp} : ∀ {ds : List D} {is : List (List Char)} {vs : List V}, tDs ds = some is → RelDs K B m H ds vs → vs = is.map fun s => V.str (strC s)
  | [], is, vs, e, r => by
    cases e
    exact RelDs.nil_iff.mp r
  | d :: ds, is, vs, e, r => by
    obtain ⟨v, w, rfl, r1, r2⟩ := RelDs.cons_inv r
    unfold tDs at e
    split at e
    · cases e; rename_i h; cases h
    · rename_i i r' h
      cases h
      split at e
      · rename_i js e1
        cases e
        have e2 := tDs_ok e1 r2
        subst e2
        unfold RelD at r1
        rw [r1]; rfl
      · cases e
    · cases e
theorem RelDs.ofInts {K : PySem.W.Frag} {B : Addr → Prop} {m : List Addr} {H : Hp} : ∀ is : List Int, RelDs K B m H (is.map D.int) (is.map V.int)
  | [] => RelDs.nil'
  | i :: is => RelDs.cons (by unfold RelD; rfl) (RelDs.ofInts is)
theorem RelDs.ofTexts {K : PySem.W.Frag} {B : Addr → Prop} {m : List Addr} {H : Hp} : ∀ is : List (List Char), RelDs K B m H (is.map D.str) (is.map fun s => V.str (strC s))
  | [] => RelDs.nil'
  | i :: is => RelDs.cons (by unfold RelD; rfl) (RelDs.ofTexts is)
/-- sum, all, any -/
def gSum : List D → Ev := fun ds fr hb => match ds with
  | [.tup _] => none
  | [d] => match vSeq fr hb d with
    | some xs => (match iDs xs with
      | some is => some (.ok (.int is.sum), hb)
      | none => none)
    | none => none
  | _ => none
def gAll (any : Bool) : List D → Ev := fun ds fr hb => match ds with
  | [.tup _] => none
  | [d] => match vSeq fr hb d with
    | some xs => (match bDs xs with
      | some bs => some (.ok (.bl (if any then bs.any id else bs.all id)), hb)
      | none => none)
    | none => none
  | _ => none
theorem vSeq_list {K : PySem.W.Frag} {M : Addr → Prop} {m : List Addr} {H : Hp} {hb : HB} {fr : Fr} {σ : St} {d : D} {v : V} {xs : List D} (a : At K M m H hb fr σ) (r : RelT K M m H fr σ d v) (e : vSeq fr hb d = some xs) (hn : ∀ ys, d ≠ .tup ys) : ∃ p vs, v = .ref p ∧ SqL K H p vs ∧ RelDs K (Bd M m) m H xs vs := by
  unfold vSeq at e
  split at e
  · exact absurd rfl (hn _)
  · cases e
    obtain ⟨p, vs, rfl, f, r⟩ := vFz_ok r
    exact ⟨p, vs, rfl, f, r⟩
  · obtain ⟨p, vs, rfl, f, r⟩ := vLst_ok a r e
    exact ⟨p, vs, rfl, .of f, r⟩
theorem snd_all (any : Bool) : SndL X W (fun xs H Q => ∃ (a : Addr) (bs : List Bool), xs = [V.ref a] ∧ SqL X.K H a (bs.map V.bl) ∧ Q (.bl (if any then bs.any id else bs.all id)) H) (gAll any) := by
  intro M m hb fr σ H ds vs res hb' Q at_ rv e c
  unfold gAll at e
  split at e
  · cases e
  · rename_i d hn
    split at e
    · rename_i xs e1
      split at e
      · rename_i bs e2
        cases e
        obtain ⟨v, rfl, r1⟩ := rv.one
        obtain ⟨p, ws, rfl, f, r⟩ := vSeq_list at_ r1 e1 fun ys q => hn ys (by rw [q])
        have := bDs_ok e2 r
        subst this
        exact ⟨p, bs, rfl, f, c.done at_ rBl⟩
      · cases e
    · cases e
  · cases e
theorem snd_sumL : SndL X W (rSum X.K) gSum := by
  intro M m hb fr σ H ds vs res hb' Q at_ rv e c
  unfold gSum at e
  split at e
  · cases e
  · rename_i d hn
    split at e
    · rename_i xs e1
      split at e
      · rename_i bs e2
        cases e
        obtain ⟨v, rfl, r1⟩ := rv.one
        obtain ⟨p, ws, rfl, f, r⟩ := vSeq_list at_ r1 e1 fun ys q => hn ys (by rw [q])
        have := (iDs_ok e2 r).1
        subst this
        exact ⟨p, bs, rfl, f, c.done at_ rInt⟩
      · cases e
    · cases e
  · cases e
/-! ### sorted -/
def sortT (xs : List (List Char)) : List (List Char) := xs.mergeSort fun a b => !ltC b a
def sortI (xs : List Int) : List Int := xs.mergeSort fun a b => decide (a ≤ b)
theorem ltC_irrefl (a : List Char) : ltC a a = false := by
  unfold ltC
  rw [decide_eq_false_iff_not]
  exact List.lt_irrefl _
theorem ltC_trans {a b c : List Char} (h1 : ltC b a = false) (h2 : ltC c b = false) : ltC c a = false := by
  unfold ltC at *
  rw [decide_eq_false_iff_not] at *
  exact List.le_trans h1 h2
theorem ltC_total (a b : List Char) : ltC b a = false ∨ ltC a b = false := by
  unfold ltC
  rw [decide_eq_false_iff_not, decide_eq_false_iff_not]
  exact List.le_total _ _
theorem ltC_anti {a b : List Char} (h1 : ltC b a = false) (h2 : ltC a b = false) : a = b := by
  unfold ltC at *
  rw [decide_eq_false_iff_not] at *
  exact map_toNat_inj (List.le_antisymm h1 h2)
theorem sorted_uniq {α : Type} (r : α → α → Prop) (anti : ∀ a b, r a b → r b a → a = b) : ∀ {l m : List α}, l.Perm m → l.Pairwise r → m.Pairwise r → l = m
  | [], m, p, _, _ => (List.Perm.nil_eq p).symm ▸ rfl
  | a :: l, [], p, _, _ => absurd p.length_eq (by simp)
  | a :: l, b :: m, p, h1, h2 => by
    have e : a = b := by
      have ha : a ∈ b :: m := p.subset List.mem_cons_self
      have hb : b ∈ a :: l := p.symm.subset List.mem_cons_self
      rcases List.mem_cons.mp ha with q | ha
      · exact q
      · rcases List.mem_cons.mp hb with q | hb
        · exact q.symm
        · exact anti a b ((List.pairwise_cons.mp h1).1 b hb) ((List.pairwise_cons.mp h2).1 a ha)
    subst e
    rw [sorted_uniq r anti (List.Perm.cons_inv p) (List.pairwise_cons.mp h1).2 (List.pairwise_cons.mp h2).2]
theorem ltCps_eq : ∀ a b : List Nat, ltCps a b = decide (a < b)
  | [], [] => by simp [ltCps]
  | [], b :: t => by simp [ltCps]
  | a :: r, [] => by simp [ltCps]
  | a :: r, b :: t => by
    unfold ltCps
    rw [ltCps_eq r t]
    by_cases h1 : a < b
    · simp [h1, List.cons_lt_cons_iff]
    · by_cases h2 : a = b
      · subst h2
        simp [List.cons_lt_cons_iff]
      · have : ¬ (a :: r < b :: t) := fun q => by
          rcases List.cons_lt_cons_iff.mp q with q | q
          · exact h1 q
          · exact h2 q.1
        simp [h1, h2, this]
theorem rising_pw : ∀ (p : List Char) (ss : List (List Char)), risingS (strC p) (ss.map strC) = true → (p :: ss).Pairwise fun a b => ltC b a = false
  | p, [], _ => by simp
  | p, x :: r, h => by
    have h' : (!ltCps (strC x).cps.toList (strC p).cps.toList && risingS (strC x) (r.map strC)) = true := h
    rw [Bool.and_eq_true, Bool.not_eq_true', ltCps_eq] at h'
    have ih := rising_pw x r h'.2
    have h1 : ltC x p = false := by
      cases q : ltC x p with
      | false => rfl
      | true => exact absurd ((strC_lt x p).mpr q) (of_decide_eq_false h'.1)
    refine List.pairwise_cons.mpr ⟨fun y hy => ?_, ih⟩
    rcases List.mem_cons.mp hy with rfl | hy
    · exact h1
    · exact ltC_trans h1 ((List.pairwise_cons.mp ih).1 y hy)
theorem sortT_pw (xs : List (List Char)) : (sortT xs).Pairwise fun a b => ltC b a = false := by
  have := List.pairwise_mergeSort (le := fun a b => !ltC b a) (fun a b c h1 h2 => by
    rw [Bool.not_eq_true'] at *
    exact ltC_trans h1 h2) (fun a b => by
    rcases ltC_total a b with h | h
    · simp [h]
    · simp [h]) xs
  exact this.imp fun h => by simpa using h
theorem sortI_pw (xs : List Int) : (sortI xs).Pairwise fun a b => a ≤ b := by
  have := List.pairwise_mergeSort (le := fun a b : Int => decide (a ≤ b)) (fun a b c h1 h2 => by
    have := of_decide_eq_true h1
    have := of_decide_eq_true h2
    exact decide_eq_true (by omega)) (fun a b => by
    rcases Int.le_total a b with h | h
    · simp [h]
    · simp [h]) xs
  exact this.imp fun h => by simpa using h
theorem map_strC_of {xs : List (List Char)} : ∀ {ys : List Str}, ys.Perm (xs.map strC) → ∃ zs : List (List Char), ys = zs.map strC ∧ zs.Perm xs := by
  intro ys p
  have hm : ∀ y ∈ ys, ∃ z, y = strC z := fun y hy => by
    obtain ⟨z, _, e⟩ := List.mem_map.mp (p.subset hy)
    exact ⟨z, e.symm⟩
  have : ∃ zs : List (List Char), ys = zs.map strC := by
    clear p
    induction ys with
    | nil => exact ⟨[], rfl⟩
    | cons y ys ih =>
      obtain ⟨zs, e⟩ := ih fun y hy => hm y (List.mem_cons_of_mem _ hy)
      obtain ⟨z, e2⟩ := hm y List.mem_cons_self
      exact ⟨z :: zs, by rw [e, e2]; rfl⟩
  obtain ⟨zs, rfl⟩ := this
  refine ⟨zs, rfl, ?_⟩
  have inj : ∀ {a b : List (List Char)}, (a.map strC).Perm (b.map strC) → a.Perm b := by
    intro a b q
    have q2 := q.map fun s : Str => s.cps.toList.map fun n => Char.ofNat n
    have e : ∀ l : List (List Char), (l.map strC).map (fun s : Str => s.cps.toList.map fun n => Char.ofNat n) = l := fun l => by
      rw [List.map_map]
      conv => rhs; rw [← List.map_id l]
      apply List.map_congr_left
      intro x _
      show (strC x).cps.toList.map _ = x
      unfold strC
      rw [List.toList_toArray, List.map_map]
      conv => rhs; rw [← List.map_id x]
      apply List.map_congr_left
      intro c _
      exact Char.ofNat_toNat c
    rw [e, e] at q2
    exact q2
  exact inj p
/-- pairs of ints -/
def pDs : List D → Option (List (Int × Int))
  | [] => some []
  | .tup [.int i, .int j] :: r => match pDs r with
    | some ps => some ((i, j) :: ps)
    | none => none
  | _ => none
def dP (p : Int × Int) : D := .tup [.int p.1, .int p.2]
def sortP (xs : List (Int × Int)) : List (Int × Int) := xs.mergeSort fun a b => !SrtO.lexB b a
theorem lexB_anti {a b : Int × Int} (h1 : SrtO.lexB b a = false) (h2 : SrtO.lexB a b = false) : a = b := by
  have e1 := SrtO.lexB_no.mp h1
  have e2 := SrtO.lexB_no.mp h2
  refine Prod.ext ?_ ?_ <;> omega
theorem sortP_pw (xs : List (Int × Int)) : (sortP xs).Pairwise fun a b => SrtO.lexB b a = false := by
  have := List.pairwise_mergeSort (le := fun a b => !SrtO.lexB b a) (fun a b c h1 h2 => by
    rw [Bool.not_eq_true'] at *
    have e1 := SrtO.lexB_no.mp h1
    have e2 := SrtO.lexB_no.mp h2
    refine SrtO.lexB_no.mpr ?_
    omega) (fun a b => by
    have e1 := (SrtO.lexB_no (p := a) (q := b))
    have e2 := (SrtO.lexB_no (p := b) (q := a))
    cases h1 : SrtO.lexB a b with
    | false => simp
    | true =>
      have := SrtO.lexB_iff.mp h1
      have : SrtO.lexB b a = false := SrtO.lexB_no.mpr (by omega)
      simp [this]) xs
  exact this.imp fun h => by simpa using h
/-- the pair at a value -/
def kP (H : Hp) : V → Int × Int
  | .ref t => match H t with
    | some (.tup [.int i, .int j]) => (i, j)
    | _ => (0, 0)
  | _ => (0, 0)
theorem pDs_ok {K : PySem.W.Frag} {B : Addr → Prop} {m : List Addr} {H : Hp} : ∀ {ds : List D} {ps : List (Int × Int)} {vs : List V}, pDs ds = some ps → RelDs K B m H ds vs → ds = ps.map dP ∧ vs.map (kP H) = ps ∧ (∀ x ∈ vs, RelD K B m H (dP (kP H x)) x ∧ ∃ t, x = V.ref t ∧ H t = some (.tup [.int (kP H x).1, .int (kP H x).2]))
  | [], ps, vs, e, r => by
    cases e
    obtain rfl := RelDs.nil_iff.mp r
    exact ⟨rfl, rfl, fun _ h => by simp at h⟩
  | d :: ds, ps, vs, e, r => by
    obtain ⟨v, w, rfl, r1, r2⟩ := RelDs.cons_inv r
    unfold pDs at e
    split at e
    · cases e; rename_i h; cases h
    · rename_i i j r' h
      cases h
      split at e
      · rename_i qs e1
        cases e
        obtain ⟨g1, g2, g3⟩ := pDs_ok e1 r2
        have r1' := r1
        unfold RelD at r1
        obtain ⟨t, ws, rfl, ⟨f, nb⟩, rr⟩ := r1
        obtain ⟨a, ws1, rfl, ra, rr⟩ := RelDs.cons_inv rr
        obtain ⟨b, ws2, rfl, rb, rr⟩ := RelDs.cons_inv rr
        obtain rfl := RelDs.nil_iff.mp rr
        obtain rfl := ra.int_inv
        obtain rfl := rb.int_inv
        have ek : kP H (.ref t) = (i, j) := by simp [kP, f]
        refine ⟨by rw [g1]; rfl, by rw [List.map_cons, ek, g2], fun x hx => ?_⟩
        rcases List.mem_cons.mp hx with rfl | hx
        · rw [ek]
          exact ⟨r1', t, rfl, f⟩
        · exact g3 x hx
      · cases e
    · cases e
theorem RelDs.ofMap {K : PySem.W.Frag} {B : Addr → Prop} {m : List Addr} {H : Hp} {f : V → D} : ∀ {vs : List V}, (∀ x ∈ vs, RelD K B m H (f x) x) → RelDs K B m H (vs.map f) vs
  | [], _ => RelDs.nil'
  | v :: vs, h => RelDs.cons (h v List.mem_cons_self) (RelDs.ofMap fun x hx => h x (List.mem_cons_of_mem _ hx))
def srtD (xs : List D) : Option (List D) := match iDs xs with
  | some is => some ((sortI is).map .int)
  | none => match tDs xs with
    | some ts => if ts.length < 64 then some ((sortT ts).map .str) else none
    | none => match pDs xs with
      | some ps => some ((sortP ps).map dP)
      | none => none
def gSort : List D → Ev := fun ds fr hb => match ds with
  | [.tup _] => none
  | [d] => match vSeq fr hb d with
    | some xs => (match srtD xs with
      | some ys => some (.ok (.lst ys), hb)
      | none => none)
    | none => none
  | _ => none
def rSortAny (K : PySem.W.Frag) : List V → Hp → VK → Prop := fun xs H Q => rSortedI K xs H Q ∨ rSortedS K xs H Q ∨ rSortedPO K xs H Q
theorem snd_sort : SndL X W (rSortAny X.K) gSort := by
  intro M m hb fr σ H ds vs res hb' Q at_ rv e c
  unfold gSort at e
  split at e
  · cases e
  · rename_i d hn
    split at e
    · rename_i xs e1
      split at e
      · rename_i ys e2
        cases e
        obtain ⟨v, rfl, r1⟩ := rv.one
        obtain ⟨p, ws, rfl, f, r⟩ := vSeq_list at_ r1 e1 fun ys q => hn ys (by rw [q])
        unfold srtD at e2
        split at e2
        · rename_i is e3
          cases e2
          obtain rfl := (iDs_ok e3 r).1
          refine .inl ⟨p, is, rfl, f, fun ns q pm pw hq => ?_⟩
          have : ns = sortI is := sorted_uniq _ (fun a b h1 h2 => by omega) (pm.trans (List.mergeSort_perm _ _).symm) pw (sortI_pw is)
          subst this
          exact c.lst at_ hq (RelDs.ofInts _)
        · split at e2
          · rename_i ts e3
            split at e2
            · rename_i hz
              cases e2
              obtain rfl := tDs_ok e3 r
              have em : (ts.map fun s => V.str (strC s)) = (ts.map strC).map V.str := by rw [List.map_map]; rfl
              rw [em] at f
              refine .inr (.inl ⟨p, ts.map strC, rfl, f, by rw [List.length_map]; exact hz, fun zs q pm pw hq => ?_⟩)
              obtain ⟨us, rfl, pm2⟩ := map_strC_of pm
              have pw2 : us.Pairwise fun a b => ltC b a = false := by
                cases us with
                | nil => exact .nil
                | cons u us => exact rising_pw u us pw
              have : us = sortT ts := sorted_uniq _ (fun a b h1 h2 => ltC_anti h1 h2) (pm2.trans (List.mergeSort_perm _ _).symm) pw2 (sortT_pw ts)
              subst this
              have em2 : ((sortT ts).map strC).map V.str = (sortT ts).map fun s => V.str (strC s) := by rw [List.map_map]; rfl
              rw [em2]
              exact c.lst at_ hq (RelDs.ofTexts _)
            · cases e2
          · split at e2
            · rename_i ps e3
              cases e2
              obtain ⟨g1, g2, g3⟩ := pDs_ok e3 r
              refine .inr (.inr ⟨p, ws, kP H, rfl, f, fun x hx => (g3 x hx).2, fun zs q pw st hq => ?_⟩)
              have e9 : zs.map (kP H) = sortP ps := by
                refine sorted_uniq _ (fun a b h1 h2 => lexB_anti h1 h2) ?_ (List.pairwise_map.mpr pw) (sortP_pw ps)
                exact ((st.perm.map (kP H)).trans (by rw [g2])).trans (List.mergeSort_perm _ _).symm
              have e10 : (sortP ps).map dP = zs.map fun x => dP (kP H x) := by rw [← e9, List.map_map]; rfl
              rw [e10] at c
              exact c.lst at_ hq (RelDs.ofMap fun x hx => (g3 x (st.perm.subset hx)).1)
            · cases e2
      · cases e
    · cases e
  · cases e
theorem cr_sortAny : CallR X (.builtin "sorted") (rSortAny X.K) := CallR.or cr_sortedI (CallR.or cr_sortedS cr_sortedPO)
end
end DI
set_option Elab.async false
set_option linter.all false
set_option maxRecDepth 100000
namespace DI
open PySem PySem.Spec PyProof.Rows L2
open PySem.W (Holds HoldAll min_tuple_datum max_tuple_datum minOf maxOf holds_int)

section
variable {X : Cx} {W : WX}
/-! ### min, max of ints in a list or a tuple -/
def minI (i : Int) (is : List Int) : Int := is.foldl (fun a y => if y < a then y else a) i
def maxI (i : Int) (is : List Int) : Int := is.foldl (fun a y => if a < y then y else a) i
theorem minI_ok : ∀ (is : List Int) (i : Int), minI i is ∈ i :: is ∧ ∀ y ∈ i :: is, minI i is ≤ y
  | [], i => by simp [minI]
  | j :: is, i => by
    have e : minI i (j :: is) = minI (if j < i then j else i) is := rfl
    obtain ⟨h1, h2⟩ := minI_ok is (if j < i then j else i)
    rw [e]
    have h3 := h2 _ List.mem_cons_self
    refine ⟨?_, fun y hy => ?_⟩
    · rcases List.mem_cons.mp h1 with q | q
      · rw [q]; split <;> simp
      · exact List.mem_cons_of_mem _ (List.mem_cons_of_mem _ q)
    · rcases List.mem_cons.mp hy with rfl | hy
      · split at h3 <;> split <;> omega
      · rcases List.mem_cons.mp hy with rfl | hy
        · split at h3 <;> split <;> omega
        · exact h2 y (List.mem_cons_of_mem _ hy)
theorem maxI_ok : ∀ (is : List Int) (i : Int), maxI i is ∈ i :: is ∧ ∀ y ∈ i :: is, y ≤ maxI i is
  | [], i => by simp [maxI]
  | j :: is, i => by
    have e : maxI i (j :: is) = maxI (if i < j then j else i) is := rfl
    obtain ⟨h1, h2⟩ := maxI_ok is (if i < j then j else i)
    rw [e]
    have h3 := h2 _ List.mem_cons_self
    refine ⟨?_, fun y hy => ?_⟩
    · rcases List.mem_cons.mp h1 with q | q
      · rw [q]; split <;> simp
      · exact List.mem_cons_of_mem _ (List.mem_cons_of_mem _ q)
    · rcases List.mem_cons.mp hy with rfl | hy
      · split at h3 <;> split <;> omega
      · rcases List.mem_cons.mp hy with rfl | hy
        · split at h3 <;> split <;> omega
        · exact h2 y (List.mem_cons_of_mem _ hy)
def rMinT (K : PySem.W.Frag) (mx : Bool) : List V → Hp → VK → Prop := fun vs H Q => ∃ (a : Addr) (i : Int) (is : List Int), vs = [V.ref a] ∧ SqT K H a ((i :: is).map V.int) ∧ Q (.int (if mx then maxI i is else minI i is)) H
theorem holdInts : ∀ {ns : List Int} {us : List Value} {h : Heap}, Vals (ns.map V.int) us → HoldAll h us ns
  | [], us, h, r => by cases r; exact PySem.W.HoldAll.nil
  | n :: ns, us, h, r => by
    cases r with
    | cons r1 r2 =>
      obtain ⟨t, rfl⟩ := r1
      exact PySem.W.HoldAll.cons (holds_int n t) (holdInts r2)
theorem hold_int_inv {h : Heap} {n m : Int} {t : Tok} (H : Holds h (.int n t) m) : n = m := by
  obtain ⟨as, r⟩ := H
  cases r
  rfl
theorem cr_minT (hc : X.calm = true) (hu : X.A.units + 2 < cLine) : CallR X (.builtin "min") (rMinT X.K false) := by
  intro pins s σ H vs us Q I r h
  obtain ⟨a, i, is, rfl, hs, q⟩ := h
  obtain ⟨its, rv, ht, _⟩ := I.tuple hs
  rw [Vals.ref1 r]
  have hi : HoldAll s.heap its.toArray.toList (i :: is) := by simpa using holdInts rv
  refine min_tuple_datum (I.ok.hd hc) (show s.heap.IsTuple a its.toArray from ht) hi (by show X.A.units + 1 + 0 < cLine; omega) fun j v h' tk hv ho hk => ?_
  obtain ⟨n, t, rfl⟩ : ∃ n t, v = .int n t := by
    have hv' : its[j]? = some v := by simpa using hv
    have hj := (List.getElem?_eq_some_iff.mp hv').1
    rw [← rv.length] at hj
    obtain ⟨u, hu, ru⟩ := rv.get (i := j) (x := ((i :: is).map V.int)[j]) (by simp)
    rw [hv'] at hu
    cases hu
    rw [List.getElem_map] at ru
    obtain ⟨t, e⟩ := ru
    exact ⟨_, t, e⟩
  have e := hold_int_inv ho
  refine ⟨.int n, H, I.kept hk, ⟨_, rfl⟩, ?_⟩
  have e3 : minI i is = n := by
    rw [e]
    unfold minI minOf
    have : (fun (a y : Int) => if y < a then y else a) = fun a y => if PySem.W.DatumOrd.lt y a = true then y else a := by
      funext a y
      show _ = if decide (y < a) = true then y else a
      simp
    rw [this]
  rw [← e3]
  exact q
theorem cr_maxT (hc : X.calm = true) (hu : X.A.units + 2 < cLine) : CallR X (.builtin "max") (rMinT X.K true) := by
  intro pins s σ H vs us Q I r h
  obtain ⟨a, i, is, rfl, hs, q⟩ := h
  obtain ⟨its, rv, ht, _⟩ := I.tuple hs
  rw [Vals.ref1 r]
  have hi : HoldAll s.heap its.toArray.toList (i :: is) := by simpa using holdInts rv
  refine max_tuple_datum (I.ok.hd hc) (show s.heap.IsTuple a its.toArray from ht) hi (by show X.A.units + 1 + 0 < cLine; omega) fun j v h' tk hv ho hk => ?_
  obtain ⟨n, t, rfl⟩ : ∃ n t, v = .int n t := by
    have hv' : its[j]? = some v := by simpa using hv
    have hj := (List.getElem?_eq_some_iff.mp hv').1
    rw [← rv.length] at hj
    obtain ⟨u, hu, ru⟩ := rv.get (i := j) (x := ((i :: is).map V.int)[j]) (by simp)
    rw [hv'] at hu
    cases hu
    rw [List.getElem_map] at ru
    obtain ⟨t, e⟩ := ru
    exact ⟨_, t, e⟩
  have e := hold_int_inv ho
  refine ⟨.int n, H, I.kept hk, ⟨_, rfl⟩, ?_⟩
  have e3 : maxI i is = n := by
    rw [e]
    unfold maxI maxOf
    have : (fun (a y : Int) => if a < y then y else a) = fun a y => if PySem.W.DatumOrd.lt a y = true then y else a := by
      funext a y
      show _ = if decide (a < y) = true then y else a
      simp
    rw [this]
  rw [← e3]
  exact q
def gMM1 (mx : Bool) : List D → Ev := fun ds fr hb => match ds with
  | [d] => match vSeq fr hb d with
    | some xs => (match iDs xs with
      | some (i :: is) => some (.ok (.int (if mx then maxI i is else minI i is)), hb)
      | _ => none)
    | none => none
  | _ => none
def rMM1 (K : PySem.W.Frag) (mx : Bool) : List V → Hp → VK → Prop := fun vs H Q => (if mx then rMax K vs H Q else rMin K vs H Q) ∨ rMinT K mx vs H Q
theorem snd_mm1 (mx : Bool) : SndL X W (rMM1 X.K mx) (gMM1 mx) := by
  intro M m hb fr σ H ds vs res hb' Q at_ rv e c
  unfold gMM1 at e
  split at e
  · rename_i d
    split at e
    · rename_i xs e1
      split at e
      · rename_i i is e2
        cases e
        obtain ⟨v, rfl, r1⟩ := rv.one
        obtain ⟨p, ws, rfl, f, r⟩ := vSeq_ok at_ r1 e1
        obtain rfl := (iDs_ok e2 r).1
        rcases f with f | f
        · refine .inl ?_
          cases mx with
          | true =>
            refine ⟨p, i :: is, rfl, f, by simp, fun mm h1 h2 => ?_⟩
            obtain ⟨g1, g2⟩ := maxI_ok is i
            have : mm = maxI i is := Int.le_antisymm (g2 _ h1) (h2 _ g1)
            subst this
            exact c.done at_ rInt
          | false =>
            refine ⟨p, i :: is, rfl, f, by simp, fun mm h1 h2 => ?_⟩
            obtain ⟨g1, g2⟩ := minI_ok is i
            have : mm = minI i is := Int.le_antisymm (h2 _ g1) (g2 _ h1)
            subst this
            exact c.done at_ rInt
        · exact .inr ⟨p, i, is, rfl, f, c.done at_ rInt⟩
      · cases e
    · cases e
  · cases e
theorem cr_mm1 (mx : Bool) (hc : X.calm = true) (hu : X.A.units + 2 < cLine) : CallR X (.builtin (if mx then "max" else "min")) (rMM1 X.K mx) := by
  cases mx with
  | true => exact CallR.or (cr_max hc) (cr_maxT hc hu)
  | false => exact CallR.or (cr_min hc) (cr_minT hc hu)
end
end DI
set_option Elab.async false
set_option linter.all false
set_option maxRecDepth 100000
namespace DI
open PySem PySem.Spec PyProof.Rows L2

/-! ### names of built-in types, of classes -/
section
variable {X : Cx} {W : WX} {pos : Pos}
theorem se_bty {x : Str} {n : String} (hg : Gl X x) (hm : X.mg x = none) (hv : bootBuiltins x = some (.type n)) (hn : x ≠ "__name__" := by decide) (hd : (x == ("__debug__" : Str)) = false := by decide) : SE X W (.Name x pos) (eC (.ty n)) :=
  se_c (v := .ty n) (pe_bltn hg hm hv rfl hn hd) (fun _ _ _ => by unfold RelD; rfl) fun _ q => by cases q
theorem se_gcl {x : Str} {c : String} (hg : Gl X x) (hm : X.mg x = some (.ref (He.ga X.K c))) (hd : (x == ("__debug__" : Str)) = false := by decide) : SE X W (.Name x pos) (eC (.rf c)) :=
  se_c (v := .ref (He.ga X.K c)) (pe_glob hg hm rfl hd) (fun _ _ _ => by unfold RelD; rfl) fun _ q => by cases q
theorem se_gint {x : Str} {i : Int} (hg : Gl X x) (hm : ∃ t, X.mg x = some (.int i t)) (hd : (x == ("__debug__" : Str)) = false := by decide) : SE X W (.Name x pos) (eC (.int i)) := by
  obtain ⟨t, hm⟩ := hm
  exact se_c (v := .int i) (pe_glob hg hm ⟨t, rfl⟩ hd) (fun _ _ _ => by unfold RelD; rfl) fun _ q => by cases q
theorem se_gstr {x z : Str} {l : List Char} (hg : Gl X x) (hm : ∃ t, X.mg x = some (.str z t)) (h : z = strC l := by rfl) (hd : (x == ("__debug__" : Str)) = false := by decide) : SE X W (.Name x pos) (eC (.str l)) := by
  obtain ⟨t, hm⟩ := hm
  exact se_c (v := .str z) (pe_glob hg hm ⟨t, rfl⟩ hd) (fun _ _ _ => by unfold RelD; rw [h]) fun _ q => by cases q
/-! ### isinstance -/
inductive TyN where
  | b (n : String) | o (c : String)
def TyN.v (K : PySem.W.Frag) : TyN → Value
  | .b n => .type n
  | .o c => .ref (He.ga K c)
def O.ty_ : O → TyN
  | .lst _ => .b "list"
  | .dct _ _ => .b "dict"
  | .ins c _ _ => .o c
def tyN (fr : Fr) (hb : HB) : D → Option TyN
  | .non => some (.b "NoneType")
  | .bl _ => some (.b "bool")
  | .int _ => some (.b "int")
  | .str _ => some (.b "str")
  | .tup _ => some (.b "tuple")
  | .lst _ => some (.b "list")
  | .dct _ _ => some (.b "dict")
  | .ins c _ _ => some (.o c)
  | d => match rdO fr hb d with
    | some o => some o.ty_
    | none => none
/-- facts of the own classes -/
structure InsF (K : PySem.W.Frag) (C : Addr) : Prop where
  cl : Cls K C
  ha : PySem.W.findIn K (.ref C) "__class__" = some (some (.builtin "object.__class__"))
  hn : PySem.W.specialIn K (.builtin "object.__class__") "__get__" = some (some (.builtin "getset_descriptor.__get__"))
  htk : PySem.W.takesIn K (.builtin "object.__class__") = some true
  hm : PySem.W.mroIn K C (.type "object") = some true
def insB (K : PySem.W.Frag) (c : String) : Bool := (He.Fa.cls c).ok K && (He.eqO (PySem.W.findIn K (.ref (He.ga K c)) "__class__") (some (some (.builtin "object.__class__"))) &&
  (He.eqO (PySem.W.specialIn K (.builtin "object.__class__") "__get__") (some (some (.builtin "getset_descriptor.__get__"))) && (decide (PySem.W.takesIn K (.builtin "object.__class__") = some true) && decide (PySem.W.mroIn K (He.ga K c) (.type "object") = some true))))
theorem insB_ok {K : PySem.W.Frag} {c : String} (h : insB K c = true) : InsF K (He.ga K c) := by
  obtain ⟨h1, h⟩ := He.ba h
  obtain ⟨h2, h⟩ := He.ba h
  obtain ⟨h3, h⟩ := He.ba h
  obtain ⟨h4, h5⟩ := He.ba h
  exact ⟨He.cls_ok h1, He.eqO_ok h2, He.eqO_ok h3, of_decide_eq_true h4, of_decide_eq_true h5⟩
def bTys : List String := ["NoneType", "bool", "int", "str", "tuple", "list", "dict"]
def cTys : List String := ["bool", "int", "str", "tuple", "list", "dict"]
/-- what isinstance says -/
def isaN : TyN → TyN → Bool
  | .b t, .b c => t == c || (t == "bool" && c == "int")
  | .o t, .o c => t == c
  | _, _ => false
/-- the check: cs the own classes (no exceptions) that isinstance sees -/
def isiB (K : PySem.W.Frag) (cs : List String) : Bool := cs.all fun c => insB K c && (bTys.all fun t => decide (PySem.W.kitOne K (.type t) (.ref (He.ga K c)) = some false)) && (cTys.all fun t => decide (PySem.W.kitOne K (.ref (He.ga K c)) (.type t) = some false)) && (cs.all fun d => decide (PySem.W.kitOne K (.ref (He.ga K c)) (.ref (He.ga K d)) = some (c == d)))
def okT (cs : List String) : TyN → Bool
  | .b t => bTys.contains t
  | .o c => cs.contains c
def okC (cs : List String) : TyN → Bool
  | .b t => cTys.contains t
  | .o c => cs.contains c
theorem kit_bb {K : PySem.W.Frag} {t c : String} (ht : t ∈ bTys) (hc : c ∈ cTys) : PySem.W.kitOne K (.type t) (.type c) = some (isaN (.b t) (.b c)) := by
  have all : (bTys.all fun t => cTys.all fun c => decide (kitB t c = some (isaN (.b t) (.b c)))) = true := by decide +kernel
  exact kit_ty (of_decide_eq_true (List.all_eq_true.mp (List.all_eq_true.mp all t ht) c hc))
theorem isiB_ok {K : PySem.W.Frag} {cs : List String} (h : isiB K cs = true) {t c : TyN} (ht : okT cs t = true) (hc : okC cs c = true) : PySem.W.kitOne K (t.v K) (c.v K) = some (isaN t c) := by
  have h' := List.all_eq_true.mp h
  cases t with
  | b t =>
    have ht' : t ∈ bTys := by simpa [okT] using ht
    cases c with
    | b c => exact kit_bb ht' (by simpa [okC] using hc)
    | o c =>
      have z := h' c (by simpa [okC] using hc)
      rw [Bool.and_eq_true, Bool.and_eq_true, Bool.and_eq_true] at z
      exact of_decide_eq_true (List.all_eq_true.mp z.1.1.2 t ht')
  | o t =>
    have z := h' t (by simpa [okT] using ht)
    rw [Bool.and_eq_true, Bool.and_eq_true, Bool.and_eq_true] at z
    cases c with
    | b c => exact of_decide_eq_true (List.all_eq_true.mp z.1.2 c (by simpa [okC] using hc))
    | o c => exact of_decide_eq_true (List.all_eq_true.mp z.2 c (by simpa [okC] using hc))
theorem isiB_ins {K : PySem.W.Frag} {cs : List String} (h : isiB K cs = true) {c : String} (hc : c ∈ cs) : InsF K (He.ga K c) := by
  have z := List.all_eq_true.mp h c hc
  rw [Bool.and_eq_true, Bool.and_eq_true, Bool.and_eq_true] at z
  exact insB_ok z.1.1.1
theorem RelO.tyx {K : PySem.W.Frag} {B : Addr → Prop} {m : List Addr} {H : Hp} {cs : List String} {o : O} {p : Addr} (hk : isiB K cs = true) (r : RelO K B m H o p) (h : okT cs o.ty_ = true) : TyX K H (.ref p) (o.ty_.v K) := by
  cases o with
  | lst xs => obtain ⟨vs, h1, _⟩ := r; exact .base (.lst h1)
  | dct ks xs =>
    obtain ⟨vs, h1, _⟩ := r
    rcases h1 with ⟨kvs, f, _⟩ | ⟨kvs, f, _⟩
    · exact .base (.dK f)
    · exact .base (.dT f)
  | ins c fs xs =>
    obtain ⟨dx, vs, h1, _⟩ := r
    have F := isiB_ins hk (c := c) (by simpa [okT, O.ty_] using h)
    exact .base (.ins h1 F.cl F.ha F.hn F.htk F.hm)
theorem tyN_ok {M : Addr → Prop} {m : List Addr} {H : Hp} {hb : HB} {fr : Fr} {σ : St} {cs : List String} {K : PySem.W.Frag} {d : D} {v : V} {t : TyN} (hk : isiB K cs = true) (a : At K M m H hb fr σ) (r : RelT K M m H fr σ d v) (e : tyN fr hb d = some t) (h : okT cs t = true) : TyX K H v (t.v K) := by
  unfold tyN at e
  split at e
  · cases e; rw [vNon_ok r]; exact .base .non
  · cases e; rw [vBl_ok r]; exact .base (.bl _)
  · cases e; rw [vInt_ok r]; exact .base (.int _)
  · cases e; rw [vStr_ok r]; exact .base (.str _)
  · cases e
    obtain ⟨p, vs, rfl, f, _⟩ := vTup_ok' r
    exact .base (.tup f)
  · cases e
    obtain ⟨p, vs, rfl, f, _⟩ := vLst_ok a r (show vLst fr hb (.lst _) = some _ from rfl)
    exact .base (.lst f)
  · rename_i ks xs
    cases e
    have r' : RelD K (Bd M m) m H (.dct ks xs) v := r
    unfold RelD at r'
    obtain ⟨p, vs, rfl, _, f, _⟩ := r'
    rcases f with ⟨kvs, f, _⟩ | ⟨kvs, f, _⟩
    · exact .base (.dK f)
    · exact .base (.dT f)
  · rename_i c fs xs
    cases e
    have r' : RelD K (Bd M m) m H (.ins c fs xs) v := r
    unfold RelD at r'
    obtain ⟨p, dx, vs, rfl, _, f, _⟩ := r'
    have F := isiB_ins hk (c := c) (by simpa [okT] using h)
    exact .base (.ins f F.cl F.ha F.hn F.htk F.hm)
  · split at e
    · rename_i o e1
      cases e
      obtain ⟨p, rfl, _, ro⟩ := rdO_ok a r e1
      exact RelO.tyx hk ro h
    · cases e
/-- isinstance(x, c), isinstance(x, (c1, c2)) -/
def clN : D → Option TyN
  | .ty n => some (.b n)
  | .rf c => some (.o c)
  | _ => none
def isaA (cs : List String) (t : TyN) : List D → Option Bool
  | [] => some false
  | d :: r => match clN d with
    | some c => if okC cs c then (if isaN t c then (if r.all (fun x => (clN x).isSome) then some true else none) else isaA cs t r) else none
    | none => none
def gIsi (cs : List String) : List D → Ev := fun ds fr hb => match ds with
  | [d, .tup es] => (match tyN fr hb d with
    | some t => if okT cs t then (match isaA cs t es with
      | some b => some (.ok (.bl b), hb)
      | none => none) else none
    | none => none)
  | [d, c] => (match tyN fr hb d, clN c with
    | some t, some c => if okT cs t && okC cs c then some (.ok (.bl (isaN t c)), hb) else none
    | _, _ => none)
  | _ => none
theorem clN_ok {K : PySem.W.Frag} {M : Addr → Prop} {m : List Addr} {H : Hp} {fr : Fr} {σ : St} {d : D} {v : V} {c : TyN} (r : RelT K M m H fr σ d v) (h : clN d = some c) : ClsV v (c.v K) := by
  cases d <;> simp [clN] at h <;> subst h
  · have r' : RelD K (Bd M m) m H (.rf _) v := r
    unfold RelD at r'
    subst r'
    exact .own _
  · have r' : RelD K (Bd M m) m H (.ty _) v := r
    unfold RelD at r'
    subst r'
    exact .ty _
theorem isaA_ok {cs : List String} {K : PySem.W.Frag} {M : Addr → Prop} {m : List Addr} {H : Hp} {t : TyN} (hk : isiB K cs = true) (ht : okT cs t = true) : ∀ {es : List D} {vs : List V} {b : Bool}, RelDs K (Bd M m) m H es vs → isaA cs t es = some b → ∃ us, Paired ClsV vs us ∧ PySem.W.kitAny K (t.v K) us = some b
  | [], vs, b, r, e => by
    obtain rfl := RelDs.nil_iff.mp r
    cases e
    exact ⟨[], .nil, rfl⟩
  | d :: es, vs, b, r, e => by
    obtain ⟨v, w, rfl, r1, r2⟩ := RelDs.cons_inv r
    unfold isaA at e
    split at e
    · rename_i c e1
      split at e
      · rename_i hc
        have k1 := isiB_ok hk ht hc
        have c1 := clN_ok (fr := []) (σ := []) r1.t e1
        by_cases hi : isaN t c = true
        · rw [if_pos hi] at e
          split at e
          · rename_i ha
            cases e
            have : ∀ {es : List D} {vs : List V}, es.all (fun x => (clN x).isSome) = true → RelDs K (Bd M m) m H es vs → ∃ us : List Value, Paired ClsV vs us := by
              intro es
              induction es with
              | nil => intro vs _ r; obtain rfl := RelDs.nil_iff.mp r; exact ⟨[], .nil⟩
              | cons x es ih =>
                intro vs h r
                rw [List.all_cons, Bool.and_eq_true] at h
                obtain ⟨v, w, rfl, r1, r2⟩ := RelDs.cons_inv r
                obtain ⟨us, pu⟩ := ih h.2 r2
                obtain ⟨cc, hcc⟩ := Option.isSome_iff_exists.mp h.1
                exact ⟨_ :: us, .cons (clN_ok (fr := []) (σ := []) r1.t hcc) pu⟩
            obtain ⟨us, pu⟩ := this ha r2
            refine ⟨_ :: us, .cons c1 pu, ?_⟩
            unfold PySem.W.kitAny
            rw [k1, hi]
          · cases e
        · rw [if_neg hi] at e
          obtain ⟨us, pu, e2⟩ := isaA_ok hk ht r2 e
          refine ⟨_ :: us, .cons c1 pu, ?_⟩
          unfold PySem.W.kitAny
          rw [k1, Bool.eq_false_iff.mpr hi]
          exact e2
      · cases e
    · cases e
theorem snd_isi {cs : List String} (hk : isiB X.K cs = true) : SndL X W (fun xs H Q => rIsi X.K xs H Q ∨ rIsiT X.K xs H Q) (gIsi cs) := by
  intro M m hb fr σ H ds vs res hb' Q at_ rv e c
  unfold gIsi at e
  split at e
  · rename_i d es
    split at e
    · rename_i t e1
      split at e
      · rename_i ht
        split at e
        · rename_i b e2
          cases e
          obtain ⟨v, w, rfl, r1, r2⟩ := rv.two
          obtain ⟨p, ws, rfl, f, _, r⟩ := vTup_ok' r2
          obtain ⟨us, pu, e3⟩ := isaA_ok hk ht r e2
          exact .inr ⟨v, p, ws, _, us, b, rfl, f, pu, tyN_ok hk at_ r1 e1 ht, e3, c.done at_ rBl⟩
        · cases e
      · cases e
    · cases e
  · split at e
    · rename_i t cc e1 e2
      split at e
      · rename_i hz
        rw [Bool.and_eq_true] at hz
        cases e
        obtain ⟨v, w, rfl, r1, r2⟩ := rv.two
        exact .inl ⟨v, w, _, _, _, rfl, clN_ok r2 e2, tyN_ok hk at_ r1 e1 hz.1, isiB_ok hk hz.1 hz.2, c.done at_ rBl⟩
      · cases e
    · cases e
  · cases e
theorem cr_isi : CallR X (.builtin "isinstance") (fun xs H Q => rIsi X.K xs H Q ∨ rIsiT X.K xs H Q) := CallR.or call_isi call_isiT
end
end DI
set_option Elab.async false
set_option linter.all false
set_option maxRecDepth 100000
namespace DI
open PySem PySem.Spec PyProof.Rows L2
open PySem.Sem (wp)

/-! ### enumerate(v), v of any kind -/
set_option maxHeartbeats 1000000 in
theorem meets_enum1 {v : Value} {o : Obj} {H : Heap → Prop} (B : Begins v o H) :
    Meets (Builtin.«enumerate.__new__» ⟨[.type "enumerate", v], []⟩) (fun _ R s => H s.heap ∧
      R (.ok (.ret (.ref (s.heap.push o).objs.size))) { s with heap := (s.heap.push o).push { cls := .type "enumerate", data := .fields #[.none, .bool false, .ref s.heap.objs.size, rawInt 0, .none, .none] } }) :=
  .of_wp fun prog w A R s h => by
    obtain ⟨hp, g, d, tk, os⟩ := s; obtain ⟨h1, h⟩ := h
    have hsub := sub_enumerate
    have q1 : ∀ {A' : Around} {E : Value → Shared → Prop} {Q : Value → Shared → Prop}, Q (.ref hp.objs.size) ⟨hp.push o, g, d, tk, os⟩ → wpAny (model prog w) A' (pyIter v) Q E ⟨hp, g, d, tk, os⟩ :=
      fun q => B.iter prog w _ _ ⟨hp, g, d, tk, os⟩ _ h1 q
    wp_walk using q1
    refine wpAny_stack_any fun st => wpAny_pure ?_
    split
    · rename_i c _ _ _ _ _
      cases (c == Value.type "enumerate")
      · wp_walk using q1
        exact ⟨_, rfl, h⟩
      · wp_walk using q1
        exact ⟨_, rfl, h⟩
    · wp_walk using q1
      exact ⟨_, rfl, h⟩
section
variable {prog : Program} {w : World} {A : Around} {E : Value → Shared → Prop} {s : Shared}
theorem enum_begins1 {v : Value} {o : Obj} {H : Heap → Prop} {Q : Value → Shared → Prop} (B : Begins v o H) (h1 : H s.heap)
    (h : ∀ h', IsEnum h' (s.heap.objs.size + 1) s.heap.objs.size 0 .none → h'.get? s.heap.objs.size = some o → h'.objs.size = s.heap.objs.size + 2 →
      (∀ b o, s.heap.get? b = some o → h'.get? b = some o) → Q (.ref (s.heap.objs.size + 1)) { s with heap := h' }) :
    wpAny (model prog w) A (call (.type "enumerate") [v]) Q E s := by
  refine callType_new F.called_enumerate (by decide) (F.typeCall_enumerate_1 _) (F.newCall_enumerate_1 _) (fun obj => F.args_object_init_2 obj _) F.entry_enumerate_new
    (meets_enum1 B) ⟨h1, ?_⟩
  have hz : (s.heap.push o).objs.size = s.heap.objs.size + 1 := Heap.size_push ..
  show _ ∧ _
  rw [hz]
  have he : IsEnum ((s.heap.push o).push { cls := .type "enumerate", data := .fields #[.none, .bool false, .ref s.heap.objs.size, rawInt 0, .none, .none] }) (s.heap.objs.size + 1) s.heap.objs.size 0 .none := by
    have := Heap.get?_push_size (s.heap.push o) (o := { cls := .type "enumerate", data := .fields #[.none, .bool false, .ref s.heap.objs.size, rawInt 0, .none, .none] }) rfl
    rw [hz] at this; exact this
  refine ⟨⟨_, he, rfl⟩, h _ he (Heap.get?_push_of_some _ (Heap.get?_push_size _ B.free)) (by rw [Heap.size_push, hz]) fun b o x => Heap.get?_push_of_some _ (Heap.get?_push_of_some _ x)⟩
end
/-! ### what is drawn from: a text, a tuple, a list -/
inductive Sr where
  | tx (z : Str) | tp (a : Addr) | ls (a : Addr)
def signs (z : Str) : List V := z.cps.toList.map fun c => V.str ⟨#[c]⟩
def Sr.at (K : PySem.W.Frag) (S : Sr) (H : Hp) (xs : List V) : Prop := match S with
  | .tx z => xs = signs z
  | .tp a => SqT K H a xs
  | .ls a => SqL K H a xs
def Sr.v : Sr → V
  | .tx z => .str z
  | .tp a => .ref a
  | .ls a => .ref a
def Sr.st (S : Sr) (it : Addr) (i : Nat) (h : Heap) : Prop := match S with
  | .tx z => ∃ t, h.IsStrIter it (strIterType z) z t i
  | .tp a => h.IsTupleIter it a i
  | .ls a => h.IsListIter it a i
theorem Sr.st_keep {S : Sr} {it : Addr} {i : Nat} {h h' : Heap} (st : S.st it i h) (k : ∀ o, h.get? it = some o → h'.get? it = some o) : S.st it i h' := by
  cases S with
  | tx z => obtain ⟨t, o, ho, r⟩ := st; exact ⟨t, o, k o ho, r⟩
  | tp a => exact st.at k
  | ls a => exact st.at k
theorem Sr.st_obj {S : Sr} {it : Addr} {i : Nat} {h : Heap} (st : S.st it i h) : ∃ o c, h.get? it = some o ∧ o.cls = .type c ∧ c ≠ "list" ∧ c ≠ "tuple" ∧ (∀ v, o.data ≠ .cell v) ∧ ∃ vs, o.data = .fields vs := by
  cases S with
  | tx z =>
    obtain ⟨t, o, ho, hc, hd⟩ := st
    refine ⟨o, _, ho, hc, ?_, ?_, (fun v q => by rw [hd] at q; cases q), _, hd⟩
    · unfold strIterType; split <;> decide
    · unfold strIterType; split <;> decide
  | tp a => obtain ⟨o, ho, hc, hd⟩ := st; exact ⟨o, _, ho, hc, by decide, by decide, (fun v q => by rw [hd] at q; cases q), _, hd⟩
  | ls a => obtain ⟨o, ho, hc, hd⟩ := st; exact ⟨o, _, ho, hc, by decide, by decide, (fun v q => by rw [hd] at q; cases q), _, hd⟩
def Sr.off (S : Sr) (c : Addr) : Prop := match S with
  | .tx _ => True
  | .tp a => a ≠ c
  | .ls a => a ≠ c
/-- what it draws, at a state -/
theorem Sr.draw {X : Cx} {pins : List (Addr × Obj)} {σ : St} {H : Hp} {s : Shared} {S : Sr} {xs : List V} {it : Addr} {i : Nat} {A : Around} (hh : A.handled = none) (I : Inv X pins σ H s) (at_ : S.at X.K H xs) (st : S.st it i s.heap) :
    ∃ fp P St, Draws X.prog X.w A it fp xs.length P St ∧ St i s.heap ∧ it ∈ fp ∧ (∀ b ∈ fp, b = it ∨ (¬ S.off b ∧ ∃ o c, s.heap.get? b = some o ∧ o.cls = .type c ∧ (c = "list" ∨ c = "tuple"))) ∧
      (∀ j v, P j v → ∃ x, xs[j]? = some x ∧ RelV x v) ∧ ∀ j h, St j h → S.st it j h := by
  cases S with
  | tx z =>
    obtain rfl : xs = signs z := at_
    obtain ⟨t, st⟩ := st
    have hl : (signs z).length = z.cps.size := by unfold signs; rw [List.length_map]; simp
    rw [hl]
    refine ⟨[it], _, _, Draws.text hh it z t, st, by simp, fun b hb => .inl (by simpa using hb), fun j v p => ?_, fun j h q => ⟨t, q⟩⟩
    obtain ⟨c, u, e, rfl⟩ := p
    refine ⟨.str ⟨#[c]⟩, ?_, ⟨u, rfl⟩⟩
    unfold signs
    rw [List.getElem?_map, Array.getElem?_toList, e]; rfl
  | tp a =>
    obtain ⟨its, rv, ht, _⟩ := I.tuple at_
    have ht' : s.heap.IsTuple a its.toArray := ht
    have hne : a ≠ it := fun e => by
      subst e
      obtain ⟨o, ho, hc, _⟩ := ht'
      obtain ⟨o2, ho2, hc2, _⟩ := st
      rw [ho] at ho2
      cases ho2
      rw [hc] at hc2
      injection hc2 with hc3
      exact absurd hc3 (by decide)
    have hl : xs.length = its.toArray.size := by rw [rv.length]; simp
    rw [hl]
    refine ⟨_, _, _, Draws.tuple hh it a hne its.toArray, ⟨st, ht'⟩, by simp, fun b hb => ?_, fun j v p => ?_, fun j h q => q.1⟩
    · rcases List.mem_cons.mp hb with q | hb
      · exact .inl q
      · obtain ⟨o, ho, hc, _⟩ := ht'
        have : b = a := by simpa using hb
        subst this
        exact .inr ⟨fun z => z rfl, o, _, ho, hc, .inr rfl⟩
    · have p' : its[j]? = some v := by simpa using p
      have hj := (List.getElem?_eq_some_iff.mp p').1
      rw [← rv.length] at hj
      obtain ⟨u, hu, ru⟩ := rv.get (i := j) (x := xs[j]) (by simp)
      rw [p'] at hu
      cases hu
      exact ⟨_, by simp, ru⟩
  | ls a =>
    obtain ⟨its, rv, pl, _⟩ := I.list at_
    have ht' := pl.isList
    have hne : a ≠ it := fun e => by
      subst e
      obtain ⟨o, ho, hc, _⟩ := ht'
      obtain ⟨o2, ho2, hc2, _⟩ := st
      rw [ho] at ho2
      cases ho2
      rw [hc] at hc2
      injection hc2 with hc3
      exact absurd hc3 (by decide)
    have hl : xs.length = its.toArray.size := by rw [rv.length]; simp
    rw [hl]
    refine ⟨_, _, _, Draws.list hh it a hne its.toArray, ⟨st, ht'⟩, by simp, fun b hb => ?_, fun j v p => ?_, fun j h q => q.1⟩
    · rcases List.mem_cons.mp hb with q | hb
      · exact .inl q
      · obtain ⟨o, ho, hc, _⟩ := ht'
        have : b = a := by simpa using hb
        subst this
        exact .inr ⟨fun z => z rfl, o, _, ho, hc, .inl rfl⟩
    · have p' : its[j]? = some v := by simpa using p
      have hj := (List.getElem?_eq_some_iff.mp p').1
      rw [← rv.length] at hj
      obtain ⟨u, hu, ru⟩ := rv.get (i := j) (x := xs[j]) (by simp)
      rw [p'] at hu
      cases hu
      exact ⟨_, by simp, ru⟩
theorem Sr.inj {X : Cx} {pins : List (Addr × Obj)} {σ : St} {H : Hp} {s : Shared} {S : Sr} {xs ys : List V} (I : Inv X pins σ H s) (h1 : S.at X.K H xs) (h2 : S.at X.K H ys) : xs = ys := by
  cases S with
  | tx z => exact Eq.trans h1 (Eq.symm h2)
  | tp a => exact I.tuple_inj h1 h2
  | ls a => exact I.list_inj h1 h2
/-- enumerate's turns -/
def ItE (K : PySem.W.Frag) (S : Sr) : It :=
  ⟨fun i H => ∃ (xs : List V) (x : V), S.at K H xs ∧ xs[i]? = some x, fun i H v H' => ∃ T x, v = .ref T ∧ H T = none ∧ H' = upd H T (.tup [.int (i : Nat), x]) ∧ ∀ xs, S.at K H xs → xs[i]? = some x, fun i H => ∃ xs : List V, S.at K H xs ∧ xs.length = i⟩
theorem turn_enumS {P : Program} {w : World} {K : PySem.W.Frag} {elts : List Expr} {kk : Nat} {tpos : Pos} (S : Sr) (e it : Addr) :
    Turn P w K (.Tuple elts kk tpos) (ItE K S) [e, it] e (fun i h => (∃ old, IsEnum h e it ((i : Nat) : Int) old) ∧ S.st it i h ∧ e ≠ it) where
  mem := by simp
  obj := fun i h st b hb => by
    obtain ⟨⟨old, he⟩, hs, _⟩ := st
    obtain ⟨o, c, ho, hc, _, _, hd, _⟩ := Sr.st_obj hs
    have e' : b = e ∨ b = it := by simpa using hb
    rcases e' with z | z
    · rw [z]; exact ⟨_, he, fun v q => nomatch q⟩
    · rw [z]; exact ⟨o, ho, hd⟩
  keep := fun i h h' st k => let ⟨⟨old, he⟩, hi, hne⟩ := st; ⟨⟨old, k e (by simp) _ he⟩, Sr.st_keep hi fun o q => k it (by simp) o q, hne⟩
  item := by
    intro X hP hw hK hc i pins s σ H E I hf st hg
    subst hP hw hK
    obtain ⟨⟨old, he⟩, hit, hne⟩ := st
    obtain ⟨xs, x, hq, hx⟩ := hg
    obtain ⟨fp, Pp, St, D, st0, mem, fpo, rel, toSt⟩ := Sr.draw (A := X.A.in1) (I.ok.hd hc) I hq hit
    have hef : e ∉ fp := fun z => by
      rcases fpo e z with q | ⟨_, o, c, ho, hcc, q⟩
      · exact hne q
      · rw [he] at ho
        cases ho
        cases hcc
        rcases q with q | q <;> exact absurd q (by decide)
    have hel : e < s.heap.objs.size := Heap.lt_size he
    have hil : it < s.heap.objs.size := by obtain ⟨o, _, q, _⟩ := Sr.st_obj hit; exact Heap.lt_size q
    refine wpAny_pyNext_enum_itemC (i := i) D he st0 (List.getElem?_eq_some_iff.mp hx).1 hne hef fun u h' tk hP ho st1 hT hsz hk => ?_
    obtain ⟨x', hx', ru⟩ := rel i u hP
    rw [hx] at hx'
    cases hx'
    have hit' := toSt _ _ st1
    refine ⟨_, rfl, wpAny_letOwnedTupleGo_enum (s := { s with heap := h', toks := tk + 1 }) ho fun h'' he' sb => ?_⟩
    have hT2 : h''.get? s.heap.objs.size = some { cls := .type "tuple", data := .seq #[.int i tk, u] } := (sb.2 _ (Nat.ne_of_gt hel)).trans hT
    have new : ObjOk X.prog X.w (upd H s.heap.objs.size (.tup [.int (i : Nat), x])) h'' s.heap.objs.size (.tup [.int (i : Nat), x]) :=
      ⟨by show 2 ≤ sizeLine; decide, [.int i tk, u], .cons ⟨_, rfl⟩ (.cons ru .nil), ⟨_, hT2, rfl, _, rfl⟩⟩
    have I1 : Inv X pins σ (upd H s.heap.objs.size (.tup [.int (i : Nat), x])) { s with heap := h'', toks := tk + 1 } :=
      I.turnedNew (ch := [e, it]) (fun b ob hb q => (sb.2 b (fun z => hb (by simp [z]))).trans (hk b ob (fun z => hb (by simp [z])) (fun z => hb (by simp [z])) q)) hf (Nat.le_refl _) new
    refine ⟨.ref s.heap.objs.size, _, I1, rfl, ⟨_, x, rfl, I.hok.fresh (Nat.le_refl _), rfl, fun ys hy => by rw [Sr.inj I hy hq]; exact hx⟩, ⟨⟨u, ?_⟩, Sr.st_keep hit' fun o q => (sb.2 it (Ne.symm hne)).trans q, hne⟩, fun b hb => ?_⟩
    · have e1 : ((i + 1 : Nat) : Int) = (i : Int) + 1 := by omega
      rw [e1]; exact he'
    · have hb' : b < s.heap.objs.size := by
        have e' : b = e ∨ b = it := by simpa using hb
        rcases e' with z | z
        · rw [z]; exact hel
        · rw [z]; exact hil
      rw [upd_ne (Nat.ne_of_lt hb')]
      exact (hf b hb).1
  done := by
    intro X hP hw hK hc i pins s σ H E I hf st hg
    subst hP hw hK
    obtain ⟨⟨old, he⟩, hit, hne⟩ := st
    obtain ⟨xs, hq, hx⟩ := hg
    obtain ⟨fp, Pp, St, D, st0, mem, fpo, rel, toSt⟩ := Sr.draw (A := X.A.in1) (I.ok.hd hc) I hq hit
    subst hx
    exact wpAny_pyNext_enum_endD D he st0 fun h' eb => ⟨rfl, I.turnedL (t' := s.toks) (ch := [e, it]) (fun b o hb q => eb b o (fun z => hb (by simp [z])) q) hf⟩
  self := fun A i s Q E st h => let ⟨⟨_, he⟩, _⟩ := st; wpAny_pyIter_enum he h
/-! ### zip -/
def ItZ (K : PySem.W.Frag) (S1 S2 : Sr) : It :=
  ⟨fun i H => ∃ (xs ys : List V) (x y : V), S1.at K H xs ∧ S2.at K H ys ∧ xs[i]? = some x ∧ ys[i]? = some y,
    fun i H v H' => ∃ T x y, v = .ref T ∧ H T = none ∧ H' = upd H T (.tup [x, y]) ∧ (∀ xs, S1.at K H xs → xs[i]? = some x) ∧ ∀ ys, S2.at K H ys → ys[i]? = some y,
    fun i H => ∃ xs ys : List V, S1.at K H xs ∧ S2.at K H ys ∧ i ≤ xs.length ∧ i ≤ ys.length ∧ (i = xs.length ∨ i = ys.length)⟩
structure ZA (z TI TO i1 i2 : Addr) (S1 S2 : Sr) : Prop where
  TIz : TI ≠ z
  TOz : TO ≠ z
  TITO : TI ≠ TO
  TIi1 : TI ≠ i1
  TIi2 : TI ≠ i2
  zi1 : z ≠ i1
  zi2 : z ≠ i2
  Ti1 : TO ≠ i1
  Ti2 : TO ≠ i2
  i12 : i1 ≠ i2
  o1 : S1.off z ∧ S1.off TO ∧ S1.off i2
  o2 : S2.off z ∧ S2.off TO ∧ S2.off i1
theorem turn_zipS {P : Program} {w : World} {K : PySem.W.Frag} {elts : List Expr} {kk : Nat} {tpos : Pos} {S1 S2 : Sr} {z TI TO i1 i2 : Addr} (D : ZA z TI TO i1 i2 S1 S2) :
    Turn P w K (.Tuple elts kk tpos) (ItZ K S1 S2) [z, TI, TO, i1, i2] z (fun i h => IsZip h z TI TO .none ∧ IsTupOf2 h TI (.ref i1) (.ref i2) ∧ (∃ x y, IsTupOf2 h TO x y) ∧ S1.st i1 i h ∧ S2.st i2 i h) where
  mem := by simp
  obj := fun i h st c hc => by
    obtain ⟨hz, hTI, ⟨x, y, hTO⟩, h1, h2⟩ := st
    obtain ⟨o1, _, e1, _, _, _, d1, _⟩ := Sr.st_obj h1
    obtain ⟨o2, _, e2, _, _, _, d2, _⟩ := Sr.st_obj h2
    have e' : c = z ∨ c = TI ∨ c = TO ∨ c = i1 ∨ c = i2 := by simpa using hc
    rcases e' with q | q | q | q | q
    · rw [q]; exact ⟨_, hz, fun v q => nomatch q⟩
    · rw [q]; exact ⟨_, hTI, fun v q => nomatch q⟩
    · rw [q]; exact ⟨_, hTO, fun v q => nomatch q⟩
    · rw [q]; exact ⟨o1, e1, d1⟩
    · rw [q]; exact ⟨o2, e2, d2⟩
  keep := fun i h h' st k => by
    obtain ⟨hz, hTI, ⟨x, y, hTO⟩, h1, h2⟩ := st
    exact ⟨k z (by simp) _ hz, k TI (by simp) _ hTI, ⟨x, y, k TO (by simp) _ hTO⟩, Sr.st_keep h1 fun o q => k i1 (by simp) o q, Sr.st_keep h2 fun o q => k i2 (by simp) o q⟩
  item := by
    intro X hP hw hK hc i pins s σ H E I hf st hg
    subst hP hw hK
    obtain ⟨hz, hTI, ⟨x0, y0, hTO⟩, h1, h2⟩ := st
    obtain ⟨xs, ys, x, y, hqx, hqy, hx, hy⟩ := hg
    obtain ⟨fp1, P1, St1, D1, st1, mem1, fpo1, rel1, toSt1⟩ := Sr.draw (A := X.A.in1) (I.ok.hd hc) I hqx h1
    obtain ⟨fp2, P2, St2, D2, st2, mem2, fpo2, rel2, toSt2⟩ := Sr.draw (A := X.A.in1) (I.ok.hd hc) I hqy h2
    have no1 : ∀ c, c ≠ i1 → S1.off c → c ∉ fp1 := fun c n o m => (fpo1 c m).elim n fun q => q.1 o
    have no2 : ∀ c, c ≠ i2 → S2.off c → c ∉ fp2 := fun c n o m => (fpo2 c m).elim n fun q => q.1 o
    have ZS : ZipSep2 z TI TO i1 i2 fp1 fp2 := ⟨D.TIz, D.TOz, D.TITO, D.TIi1, mem1, no1 z D.zi1 D.o1.1, no1 TO D.Ti1 D.o1.2.1, D.TIi2, mem2, no2 z D.zi2 D.o2.1, no2 TO D.Ti2 D.o2.2.1, no2 i1 D.i12 D.o2.2.2, no1 i2 (Ne.symm D.i12) D.o1.2.2⟩
    have hzl : z < s.heap.objs.size := Heap.lt_size hz
    refine wpAny_pyNext_zipD2_item (i := i) ZS D1 D2 hz hTI hTO st1 st2 (List.getElem?_eq_some_iff.mp hx).1 (List.getElem?_eq_some_iff.mp hy).1 fun u u2 h' tk p1 p2 z' TO' st1' st2' hT hsz hk => ?_
    obtain ⟨x', hx', ru⟩ := rel1 i u p1
    rw [hx] at hx'
    cases hx'
    obtain ⟨y', hy', ru2⟩ := rel2 i u2 p2
    rw [hy] at hy'
    cases hy'
    have h1' := toSt1 _ _ st1'
    have h2' := toSt2 _ _ st2'
    refine ⟨_, rfl, wpAny_letOwnedTupleGo_zip (s := { s with heap := h', toks := tk }) z' fun h'' z'' sb => ?_⟩
    have hT2 : h''.get? s.heap.objs.size = some { cls := .type "tuple", data := .seq #[u, u2] } := (sb.2 _ (Nat.ne_of_gt hzl)).trans hT
    have new : ObjOk X.prog X.w (upd H s.heap.objs.size (.tup [x, y])) h'' s.heap.objs.size (.tup [x, y]) :=
      ⟨by show 2 ≤ sizeLine; decide, [u, u2], .cons ru (.cons ru2 .nil), ⟨_, hT2, rfl, _, rfl⟩⟩
    have I1 : Inv X pins σ (upd H s.heap.objs.size (.tup [x, y])) { s with heap := h'', toks := tk } :=
      I.turnedNew (t' := tk) (ch := [z, TI, TO, i1, i2]) (fun c o hb q => (sb.2 c (fun q' => hb (by simp [q']))).trans (hk c o (fun q' => hb (by simp [q'])) (fun q' => hb (by simp [q'])) (fun q' => hb (by simp [q'])) (fun q' => hb (by simp [q'])) q)) hf (Nat.le_refl _) new
    refine ⟨.ref s.heap.objs.size, _, I1, rfl, ⟨_, x, y, rfl, I.hok.fresh (Nat.le_refl _), rfl, fun l hl => by rw [Sr.inj I hl hqx]; exact hx, fun l hl => by rw [Sr.inj I hl hqy]; exact hy⟩, ⟨z'', ?_, ⟨u, u2, ?_⟩, ?_, ?_⟩, fun c hcm => ?_⟩
    · exact (sb.2 _ D.TIz).trans (hk _ _ D.TIz D.TITO D.TIi1 D.TIi2 hTI)
    · exact (sb.2 _ D.TOz).trans TO'
    · exact Sr.st_keep h1' fun o q => (sb.2 _ (Ne.symm D.zi1)).trans q
    · exact Sr.st_keep h2' fun o q => (sb.2 _ (Ne.symm D.zi2)).trans q
    · have hlt : c < s.heap.objs.size := by
        have e' : c = z ∨ c = TI ∨ c = TO ∨ c = i1 ∨ c = i2 := by simpa using hcm
        rcases e' with q | q | q | q | q
        · rw [q]; exact hzl
        · rw [q]; exact Heap.lt_size hTI
        · rw [q]; exact Heap.lt_size hTO
        · rw [q]; obtain ⟨_, _, e1, _⟩ := Sr.st_obj h1; exact Heap.lt_size e1
        · rw [q]; obtain ⟨_, _, e2, _⟩ := Sr.st_obj h2; exact Heap.lt_size e2
      rw [upd_ne (Nat.ne_of_lt hlt)]
      exact (hf c hcm).1
  done := by
    intro X hP hw hK hc i pins s σ H E I hf st hg
    subst hP hw hK
    obtain ⟨hz, hTI, ⟨x0, y0, hTO⟩, h1, h2⟩ := st
    obtain ⟨xs, ys, hqx, hqy, l1, l2, hend⟩ := hg
    obtain ⟨fp1, P1, St1, D1, st1, mem1, fpo1, rel1, toSt1⟩ := Sr.draw (A := X.A.in1) (I.ok.hd hc) I hqx h1
    obtain ⟨fp2, P2, St2, D2, st2, mem2, fpo2, rel2, toSt2⟩ := Sr.draw (A := X.A.in1) (I.ok.hd hc) I hqy h2
    have no1 : ∀ c, c ≠ i1 → S1.off c → c ∉ fp1 := fun c n o m => (fpo1 c m).elim n fun q => q.1 o
    have no2 : ∀ c, c ≠ i2 → S2.off c → c ∉ fp2 := fun c n o m => (fpo2 c m).elim n fun q => q.1 o
    have ZS : ZipSep2 z TI TO i1 i2 fp1 fp2 := ⟨D.TIz, D.TOz, D.TITO, D.TIi1, mem1, no1 z D.zi1 D.o1.1, no1 TO D.Ti1 D.o1.2.1, D.TIi2, mem2, no2 z D.zi2 D.o2.1, no2 TO D.Ti2 D.o2.2.1, no2 i1 D.i12 D.o2.2.2, no1 i2 (Ne.symm D.i12) D.o1.2.2⟩
    exact wpAny_pyNext_zipD2_end ZS D1 D2 hz hTI hTO st1 st2 l1 l2 hend fun h' tk hk => ⟨rfl, I.turnedL (t' := tk) (ch := [z, TI, TO, i1, i2]) (fun c o hb q =>
      hk c o (fun q' => hb (by simp [q'])) (fun q' => hb (by simp [q'])) (fun q' => hb (by simp [q'])) (fun q' => hb (by simp [q'])) q) hf⟩
  self := fun A i s Q E st h => wpAny_pyIter_zip st.1 h
end DI
set_option Elab.async false
set_option linter.all false
set_option maxRecDepth 100000
namespace DI
open PySem PySem.Spec PyProof.Rows L2

/-! ### enumerate, zip as sources -/
def Sr.beg (S : Sr) (v : Value) (h : Heap) (X : Cx) : Prop := ∃ o H, Begins v o H ∧ H h ∧ ∀ it h', h'.get? it = some o → S.st it 0 h'
theorem Sr.begins {X : Cx} {pins : List (Addr × Obj)} {σ : St} {H : Hp} {s : Shared} {S : Sr} {xs : List V} {v : Value} (I : Inv X pins σ H s) (at_ : S.at X.K H xs) (rv : RelV S.v v) :
    ∃ o Hh, Begins v o Hh ∧ Hh s.heap ∧ (∀ it h', h'.get? it = some o → S.st it 0 h') ∧ ∀ c, s.heap.objs.size ≤ c → S.off c := by
  cases S with
  | tx z =>
    obtain ⟨t, rfl⟩ := rv
    exact ⟨_, _, begins_text z t, trivial, fun it h' e => ⟨t, _, e, rfl, rfl⟩, fun _ _ => trivial⟩
  | tp a =>
    obtain rfl : v = Value.ref a := rv
    obtain ⟨its, r, ht, _⟩ := I.tuple at_
    have ht' : s.heap.IsTuple a its.toArray := ht
    refine ⟨_, _, begins_tuple a its.toArray, ht', fun it h' e => ⟨_, e, rfl, rfl⟩, fun c hc z => ?_⟩
    obtain ⟨o, ho, _⟩ := ht'
    have := Heap.lt_size ho
    rw [z] at this
    exact absurd this (Nat.not_lt.mpr hc)
  | ls a =>
    obtain rfl : v = Value.ref a := rv
    obtain ⟨its, r, pl, _⟩ := I.list at_
    have ht' := pl.isList
    refine ⟨_, _, begins_list a its.toArray, ht', fun it h' e => ⟨_, e, rfl, rfl⟩, fun c hc z => ?_⟩
    obtain ⟨o, ho, _⟩ := ht'
    have := Heap.lt_size ho
    rw [z] at this
    exact absurd this (Nat.not_lt.mpr hc)
def iEnumS (K : PySem.W.Frag) (ta : TA) : TI := fun σ H R => ta σ H fun vs H1 => ∃ (S : Sr) (xs : List V), vs = [S.v] ∧ S.at K H1 xs ∧ R (ItE K S) H1
theorem pi_enumS {X : Cx} {e : Expr} {ta : TA} {p pos tpos : Pos} {elts : List Expr} {kk : Nat} (hg : Gl X "enumerate") (hm : X.mg "enumerate" = none) (ha : PA X [e] ta) (hs : starEach [e] X.env = [(false, eval e X.env)] := by rfl) :
    PI X (.Tuple elts kk tpos) (.Call (.Name "enumerate" p) [e] [] pos) (iEnumS X.K ta) := by
  refine ⟨fun pins s σ H R I h => ?_⟩
  refine Call_ (ld_blt I hg hm boot_enumerate (PyProof.Rows.callWith_type1 (thn (ha.run pos pins s σ H _ I h) fun us s1 ⟨vs, H1, I1, r1, q1⟩ => ?_) hs rfl))
  obtain ⟨S, xs, ex, hq, q⟩ := q1
  subst ex
  obtain ⟨u, rfl, ru⟩ := r1.one
  obtain ⟨o, Hh, B, hh, st0, off⟩ := Sr.begins I1 hq ru
  refine enum_begins1 B hh fun h' he hit hsz hk => wpAny_pyIter_enum he ?_
  have I2 : Inv X pins σ H1 { s1 with heap := h' } := I1.kept (t' := s1.toks) hk
  refine ⟨s1.heap.objs.size + 1, [s1.heap.objs.size + 1, s1.heap.objs.size], _, _, H1, rfl, I2, turn_enumS S (s1.heap.objs.size + 1) s1.heap.objs.size, ⟨⟨.none, he⟩, st0 _ _ hit, Nat.succ_ne_self _⟩, fun b hb => ?_, q⟩
  have e' : b = s1.heap.objs.size + 1 ∨ b = s1.heap.objs.size := by simpa using hb
  have hle : s1.heap.objs.size ≤ b := by
    rcases e' with z | z
    · rw [z]; exact Nat.le_succ _
    · rw [z]; exact Nat.le_refl _
  exact I1.fpOk hle (I1.hok.fresh hle)
def iZipS (K : PySem.W.Frag) (ta : TA) : TI := fun σ H R => ta σ H fun vs H1 => ∃ (S1 S2 : Sr) (xs ys : List V), vs = [S1.v, S2.v] ∧ S1.at K H1 xs ∧ S2.at K H1 ys ∧ R (ItZ K S1 S2) H1
theorem pi_zipS {X : Cx} {e e2 : Expr} {ta : TA} {p pos tpos : Pos} {elts : List Expr} {kk : Nat} (hg : Gl X "zip") (hm : X.mg "zip" = none) (ha : PA X [e, e2] ta)
    (hs : starEach [e, e2] X.env = (false, eval e X.env) :: starEach [e2] X.env := by rfl) (hpl : (backTo pos (starEach [e2] X.env)).any (·.1) = false := by rfl) :
    PI X (.Tuple elts kk tpos) (.Call (.Name "zip" p) [e, e2] [] pos) (iZipS X.K ta) := by
  refine ⟨fun pins s σ H R I h => ?_⟩
  refine Call_ (ld_blt I hg hm PyProof.Rows.boot_zip (PyProof.Rows.callWith_type1 (thn (ha.run pos pins s σ H _ I h) fun us s1 ⟨vs, H1, I1, r1, q1⟩ => ?_) hs hpl))
  obtain ⟨S1, S2, xs, ys, ex, hq1, hq2, q⟩ := q1
  subst ex
  obtain ⟨u, u2, rfl, ru, ru2⟩ := r1.two
  obtain ⟨o, Hh, B, hh, st0, off⟩ := Sr.begins I1 hq1 ru
  obtain ⟨o2, Hh2, B2, hh2, st02, off2⟩ := Sr.begins I1 hq2 ru2
  refine zip_begins2 B B2 hh hh2 fun h' hz hTI hTO h1 h2 hsz hk => wpAny_pyIter_zip hz ?_
  have I2 : Inv X pins σ H1 { s1 with heap := h' } := I1.kept (t' := s1.toks) hk
  have fresh5 : ∀ c, c ∈ [s1.heap.objs.size + 4, s1.heap.objs.size + 2, s1.heap.objs.size + 3, s1.heap.objs.size, s1.heap.objs.size + 1] → FpOk X pins H1 c := fun c hcm => by
    have e' : c = s1.heap.objs.size + 4 ∨ c = s1.heap.objs.size + 2 ∨ c = s1.heap.objs.size + 3 ∨ c = s1.heap.objs.size ∨ c = s1.heap.objs.size + 1 := by simpa using hcm
    have hle : s1.heap.objs.size ≤ c := by
      rcases e' with z | z | z | z | z
      · rw [z]; exact Nat.le_add_right _ _
      · rw [z]; exact Nat.le_add_right _ _
      · rw [z]; exact Nat.le_add_right _ _
      · rw [z]; exact Nat.le_refl _
      · rw [z]; exact Nat.le_add_right _ _
    exact I1.fpOk hle (I1.hok.fresh hle)
  have za : ZA (s1.heap.objs.size + 4) (s1.heap.objs.size + 2) (s1.heap.objs.size + 3) s1.heap.objs.size (s1.heap.objs.size + 1) S1 S2 := by
    have ne : ∀ (N i j : Nat), i ≠ j → N + i ≠ N + j := fun N i j h e => h (by omega)
    have ne0 : ∀ (N i : Nat), i ≠ 0 → N + i ≠ N := fun N i h e => h (by omega)
    exact ⟨ne _ 2 4 (by decide), ne _ 3 4 (by decide), ne _ 2 3 (by decide), ne0 _ 2 (by decide), ne _ 2 1 (by decide), ne0 _ 4 (by decide), ne _ 4 1 (by decide), ne0 _ 3 (by decide), ne _ 3 1 (by decide), fun e => ne0 _ 1 (by decide) e.symm,
      ⟨off _ (Nat.le_add_right _ _), off _ (Nat.le_add_right _ _), off _ (Nat.le_add_right _ _)⟩, ⟨off2 _ (Nat.le_add_right _ _), off2 _ (Nat.le_add_right _ _), off2 _ (Nat.le_refl _)⟩⟩
  exact ⟨s1.heap.objs.size + 4, [s1.heap.objs.size + 4, s1.heap.objs.size + 2, s1.heap.objs.size + 3, s1.heap.objs.size, s1.heap.objs.size + 1], _, _, H1, rfl, I2, turn_zipS za, ⟨hz, hTI, ⟨_, _, hTO⟩, st0 _ _ h1, st02 _ _ h2⟩, fresh5, q⟩
/-! ### in DI -/
/-- a frozen source: its items -/
def srD (fr : Fr) (hb : HB) : D → Option (List D × Bool)
  | .str s => some (s.map fun ch => .str [ch], true)
  | .tup xs => some (xs, true)
  | .lst xs => some (xs, true)
  | .fz xs => some (xs, true)
  | .loc i => match vLst fr hb (.loc i) with
    | some xs => some (xs, false)
    | none => none
  | _ => none
/-- a source at its state: it stands as long as what is frozen (own: what is not boxed) stands -/
theorem srD_ok {K : PySem.W.Frag} {M : Addr → Prop} {m : List Addr} {H : Hp} {hb : HB} {fr : Fr} {σ : St} {d : D} {v : V} {ds : List D} {fz : Bool} (a : At K M m H hb fr σ) (r : RelT K M m H fr σ d v) (e : srD fr hb d = some (ds, fz)) :
    ∃ S vs, v = Sr.v S ∧ RelDs K (Bd M m) m H ds vs ∧ S.at K H vs ∧ ∀ H2, (∀ a o, H a = some o → ¬ (if fz then Bd M m a else a ∈ m) → H2 a = some o) → S.at K H2 vs := by
  unfold srD at e
  split at e
  · rename_i s
    cases e
    refine ⟨.tx (strC s), signs (strC s), vStr_ok r, ?_, rfl, fun _ _ => rfl⟩
    have : signs (strC s) = s.map fun ch => V.str (strC [ch]) := by
      unfold signs strC
      rw [List.toList_toArray, List.map_map]
      rfl
    rw [this]
    clear r this
    induction s with
    | nil => exact RelDs.nil'
    | cons ch s ih => exact RelDs.cons (by unfold RelD; rfl) ih
  · rename_i xs
    cases e
    obtain ⟨p, vs, rfl, f, nb, r⟩ := vTup_ok' r
    exact ⟨.tp p, vs, rfl, r, .of f, fun H2 hk => .of (hk p _ f (by simpa using nb))⟩
  · rename_i xs
    cases e
    have r' : RelD K (Bd M m) m H (.lst ds) v := r
    unfold RelD at r'
    obtain ⟨p, vs, rfl, ⟨f, nb⟩, r⟩ := r'
    exact ⟨.ls p, vs, rfl, r, .of f, fun H2 hk => .of (hk p _ f (by simpa using nb))⟩
  · rename_i xs
    cases e
    have r' : RelD K (Bd M m) m H (.fz ds) v := r
    unfold RelD at r'
    obtain ⟨p, vs, rfl, f, r⟩ := r'
    refine ⟨.ls p, vs, rfl, r, ?_, fun H2 hk => ?_⟩
    · rcases f with ⟨f, _⟩ | f
      · exact .inl f
      · exact .inr f
    · rcases f with ⟨f, nb⟩ | f
      · exact .inl (Rd.keep f fun o q => hk p o q (by simpa using nb))
      · exact .inr f
  · rename_i i
    split at e
    · rename_i xs e2
      cases e
      obtain ⟨⟨o, ho⟩, h2⟩ := r
      obtain ⟨x, e3, p, e4, hM, nm, ro⟩ := a.fr.2 i _ ho
      rw [e3] at h2
      cases h2
      cases e4
      have eo : o = .lst ds := by
        unfold vLst at e2
        dsimp only at e2
        rw [ho] at e2
        cases o with
        | lst ys => cases e2; rfl
        | dct _ _ => cases e2
        | ins _ _ _ => cases e2
      subst eo
      obtain ⟨vs, f, r⟩ := ro
      exact ⟨.ls p, vs, rfl, r, .of f, fun H2 hk => .of (hk p _ f (by simpa using nm))⟩
    · cases e
  · cases e
def enumD (ds : List D) : List D := ds.zipIdx.map fun p => .tup [.int (p.2 : Nat), p.1]
def iEnumD (es : Evs) : Iv := fun fr hb => match es fr hb with
  | some (.inl [.box n], hb1) => (match hb1[n]? with
    | some (.lst _) => some (.inl (.bx n true), hb1)
    | _ => none)
  | some (.inl [d], hb1) => (match srD fr hb1 d with
    | some (ds, fz) => some (.inl (.ls (enumD ds) fz), hb1)
    | none => none)
  | some (.inr x, hb1) => some (.inr x, hb1)
  | _ => none
theorem walkD_enum {K : PySem.W.Frag} {M : Addr → Prop} {m1 : List Addr} {H1 : Hp} {ds : List D} {vs : List V} {fz : Bool} {S : Sr} (r : RelDs K (Bd M m1) m1 H1 ds vs)
    (hs : ∀ H2, (∀ a o, H1 a = some o → ¬ (if fz then Bd M m1 a else a ∈ m1) → H2 a = some o) → S.at K H2 vs) : WalkD K M m1 H1 (enumD ds) fz (ItE K S) (fun H => S.at K H vs) (YPair (fun i => some (.int (i : Nat))) (fun i => vs[i]?)) := by
  have hl : (enumD ds).length = vs.length := by unfold enumD; rw [List.length_map, List.length_zipIdx, r.length]
  refine ⟨?_, hs, fun i H2 x H2' y => ?_, fun i H2 x H2' hi y B2 m2 k nf => ?_⟩
  · rw [hl]
    refine ⟨fun i H hi q => ⟨vs, vs[i], q, by simp [hi]⟩, fun H q => ⟨vs, q, rfl⟩, fun i H v H' _ q y => ?_⟩
    obtain ⟨T, x, h1, h2, h3, h4⟩ := y
    exact ⟨T, .int (i : Nat), x, h1, h2, h3, rfl, h4 vs q⟩
  · obtain ⟨T, x', y', h1, h2, h3, h4, h5⟩ := y
    exact .inr ⟨T, _, h2, h3⟩
  · obtain ⟨T, x', y', rfl, h2, rfl, h4, h5⟩ := y
    have h4' : V.int (i : Nat) = x' := by simpa using h4
    subst h4'
    rw [hl, ← r.length] at hi
    obtain ⟨w, hw, rw'⟩ := r.get (i := i) (d := ds[i]) (by simp [hi])
    have h5' : vs[i]? = some y' := h5
    rw [h5'] at hw
    cases hw
    refine ⟨.tup [.int (i : Nat), ds[i]], ?_, ?_⟩
    · unfold enumD
      rw [List.getElem?_map, List.getElem?_zipIdx]
      simp [hi]
    · unfold RelD
      refine ⟨T, _, rfl, ⟨upd_same, nf T h2⟩, RelDs.cons (by unfold RelD; rfl) (RelDs.cons ?_ RelDs.nil')⟩
      have k2 : Keeps B2 B2 m2 m2 H2 (upd H2 T (.tup [.int (i : Nat), y'])) := ⟨⟨[], by simp⟩, fun a o q n => ⟨by rw [upd_ne (ne_of_none q h2)]; exact q, n⟩⟩
      exact (rw'.keep k).keep k2
theorem bxIt_enum {K : PySem.W.Frag} {p : Addr} : BxIt K p true (ItE K (.ls p)) :=
  ⟨fun i H vs h hi => ⟨vs, vs[i], .of h, by simp [hi]⟩, fun i H vs h hi => ⟨vs, .of h, hi⟩, fun i H x H' vs h y => by
    obtain ⟨T, x', h1, h2, h3, h4⟩ := y
    exact ⟨x', h4 vs (.of h), .inr ⟨rfl, T, h1, h2, h3⟩⟩⟩
section
variable {X : Cx} {W : WX} {e e2 : Expr} {evs : Evs} {p pos tpos : Pos} {elts : List Expr} {kk : Nat}
theorem si_enum (hg : Gl X "enumerate") (hm : X.mg "enumerate" = none) (ha : SEs X W [e] evs) (hs : starEach [e] X.env = [(false, eval e X.env)] := by rfl) :
    SI X W (.Tuple elts kk tpos) (.Call (.Name "enumerate" p) [e] [] pos) (iEnumD evs) := by
  refine PI.mono (pi_enumS hg hm ha hs) fun σ H R h => ?_
  obtain ⟨M, m, hb, fr, r, hb', at_, e0, c⟩ := h
  unfold iEnumD at e0
  show tEs X.K W evs σ H fun vs H1 => ∃ (S : Sr) (xs : List V), vs = [S.v] ∧ S.at X.K H1 xs ∧ R (ItE X.K S) H1
  split at e0
  · rename_i n hb1 e1
    split at e0
    · rename_i xs e2
      cases e0
      refine ⟨M, m, hb, fr, .inl _, _, at_.wd, at_.fr, e1, fun m1 H1 s1 vs rv => ?_⟩
      obtain ⟨v, rfl, r1⟩ := rv.one
      have r1' : RelD X.K (Bd M m1) m1 H1 (.box n) v := r1
      unfold RelD at r1'
      obtain ⟨q, rfl, hp⟩ := r1'
      obtain ⟨vs, f, _⟩ := s1.wd.ob n q _ hp e2
      exact ⟨.ls q, vs, rfl, .of f, c m1 H1 s1 q _ hp bxIt_enum⟩
    · cases e0
  · rename_i d hb1 hn e1
    split at e0
    · rename_i ds fz e2
      cases e0
      refine ⟨M, m, hb, fr, .inl _, _, at_.wd, at_.fr, e1, fun m1 H1 s1 vs rv => ?_⟩
      obtain ⟨v, rfl, r1⟩ := rv.one
      obtain ⟨S, ws, rfl, rd, sat, std⟩ := srD_ok (at_.step s1) r1 e2
      exact ⟨S, ws, rfl, sat, c m1 H1 s1 _ _ _ (walkD_enum rd std)⟩
    · cases e0
  · rename_i x hb1 e1
    cases e0
    exact ⟨M, m, hb, fr, .inr x, _, at_.wd, at_.fr, e1, fun m1 H1 s1 => c m1 H1 s1⟩
  · cases e0
/-- zip -/
def zipD (xs ys : List D) : List D := List.zipWith (fun a b => .tup [a, b]) xs ys
def iZipD (es : Evs) : Iv := fun fr hb => match es fr hb with
  | some (.inl [d1, d2], hb1) => (match srD fr hb1 d1, srD fr hb1 d2 with
    | some (xs, f1), some (ys, f2) => some (.inl (.ls (zipD xs ys) (f1 && f2)), hb1)
    | _, _ => none)
  | some (.inr x, hb1) => some (.inr x, hb1)
  | _ => none
theorem walkD_zip {K : PySem.W.Frag} {M : Addr → Prop} {m1 : List Addr} {H1 : Hp} {ds es : List D} {vs ws : List V} {f1 f2 : Bool} {S1 S2 : Sr} (r1 : RelDs K (Bd M m1) m1 H1 ds vs) (r2 : RelDs K (Bd M m1) m1 H1 es ws)
    (hs1 : ∀ H2, (∀ a o, H1 a = some o → ¬ (if f1 then Bd M m1 a else a ∈ m1) → H2 a = some o) → S1.at K H2 vs) (hs2 : ∀ H2, (∀ a o, H1 a = some o → ¬ (if f2 then Bd M m1 a else a ∈ m1) → H2 a = some o) → S2.at K H2 ws) :
    WalkD K M m1 H1 (zipD ds es) (f1 && f2) (ItZ K S1 S2) (fun H => S1.at K H vs ∧ S2.at K H ws) (YPair (fun i => vs[i]?) (fun i => ws[i]?)) := by
  have hl : (zipD ds es).length = min vs.length ws.length := by unfold zipD; rw [List.length_zipWith, r1.length, r2.length]
  have wk : ∀ {f : Bool} {a : Addr}, (f = true → f1 && f2 = true → True) → True := fun _ => trivial
  refine ⟨?_, fun H2 hk => ⟨hs1 H2 fun a o q n => hk a o q fun z => n ?_, hs2 H2 fun a o q n => hk a o q fun z => n ?_⟩, fun i H2 x H2' y => ?_, fun i H2 x H2' hi y B2 m2 k nf => ?_⟩
  · rw [hl]
    refine ⟨fun i H hi q => ?_, fun H q => ⟨vs, ws, q.1, q.2, by omega, by omega, by omega⟩, fun i H v H' _ q y => ?_⟩
    · have h1 : i < vs.length := by omega
      have h2 : i < ws.length := by omega
      exact ⟨vs, ws, vs[i], ws[i], q.1, q.2, by simp [h1], by simp [h2]⟩
    · obtain ⟨T, x, z, h1, h2, h3, h4, h5⟩ := y
      exact ⟨T, x, z, h1, h2, h3, h4 vs q.1, h5 ws q.2⟩
  · cases f1 <;> cases f2 <;> simp at z ⊢ <;> first | exact z | exact .inr z | (rcases z with z | z <;> simp_all)
  · cases f1 <;> cases f2 <;> simp at z ⊢ <;> first | exact z | exact .inr z | (rcases z with z | z <;> simp_all)
  · obtain ⟨T, x', y', h1, h2, h3, h4, h5⟩ := y
    exact .inr ⟨T, _, h2, h3⟩
  · obtain ⟨T, x', y', rfl, h2, rfl, h4, h5⟩ := y
    rw [hl] at hi
    have hi1 : i < ds.length := by rw [r1.length]; omega
    have hi2 : i < es.length := by rw [r2.length]; omega
    obtain ⟨w, hw, rw1⟩ := r1.get (i := i) (d := ds[i]) (by simp [hi1])
    have h4' : vs[i]? = some x' := h4
    have h5' : ws[i]? = some y' := h5
    rw [h4'] at hw
    cases hw
    obtain ⟨w, hw, rw2⟩ := r2.get (i := i) (d := es[i]) (by simp [hi2])
    rw [h5'] at hw
    cases hw
    refine ⟨.tup [ds[i], es[i]], ?_, ?_⟩
    · unfold zipD
      rw [List.getElem?_zipWith]
      simp [hi1, hi2]
    · unfold RelD
      have k2 : Keeps B2 B2 m2 m2 H2 (upd H2 T (.tup [x', y'])) := ⟨⟨[], by simp⟩, fun a o q n => ⟨by rw [upd_ne (ne_of_none q h2)]; exact q, n⟩⟩
      exact ⟨T, _, rfl, ⟨upd_same, nf T h2⟩, RelDs.cons ((rw1.keep k).keep k2) (RelDs.cons ((rw2.keep k).keep k2) RelDs.nil')⟩
theorem si_zip (hg : Gl X "zip") (hm : X.mg "zip" = none) (ha : SEs X W [e, e2] evs)
    (hs : starEach [e, e2] X.env = (false, eval e X.env) :: starEach [e2] X.env := by rfl) (hpl : (backTo pos (starEach [e2] X.env)).any (·.1) = false := by rfl) :
    SI X W (.Tuple elts kk tpos) (.Call (.Name "zip" p) [e, e2] [] pos) (iZipD evs) := by
  refine PI.mono (pi_zipS hg hm ha hs hpl) fun σ H R h => ?_
  obtain ⟨M, m, hb, fr, r, hb', at_, e0, c⟩ := h
  unfold iZipD at e0
  show tEs X.K W evs σ H fun vs H1 => ∃ (S1 S2 : Sr) (xs ys : List V), vs = [S1.v, S2.v] ∧ S1.at X.K H1 xs ∧ S2.at X.K H1 ys ∧ R (ItZ X.K S1 S2) H1
  split at e0
  · rename_i d1 d2 hb1 e1
    split at e0
    · rename_i xs f1 ys f2 q1 q2
      cases e0
      refine ⟨M, m, hb, fr, .inl _, _, at_.wd, at_.fr, e1, fun m1 H1 s1 vs rv => ?_⟩
      obtain ⟨v, w, rfl, r1, r2⟩ := rv.two
      obtain ⟨S1, vs1, rfl, rd1, sat1, std1⟩ := srD_ok (at_.step s1) r1 q1
      obtain ⟨S2, vs2, rfl, rd2, sat2, std2⟩ := srD_ok (at_.step s1) r2 q2
      exact ⟨S1, S2, vs1, vs2, rfl, sat1, sat2, c m1 H1 s1 _ _ _ (walkD_zip rd1 rd2 std1 std2)⟩
    · cases e0
  · rename_i x hb1 e1
    cases e0
    exact ⟨M, m, hb, fr, .inr x, _, at_.wd, at_.fr, e1, fun m1 H1 s1 => c m1 H1 s1⟩
  · cases e0
end
end DI
set_option Elab.async false
set_option linter.all false
set_option maxRecDepth 100000
namespace DI
open PySem PySem.Spec PyProof.Rows L2

/-! ### str(x), f'..' -/
def istr (i : Int) : List Char := (toString i).toList
section
variable {X : Cx} {W : WX} {pos apos cpos : Pos} {e o : Expr} {es : List Expr} {ev evo : Ev} {evs : Evs}
def gStr : List D → Ev := fun ds fr hb => match ds with
  | [.int i] => if i.natAbs.log2 < 1920 then some (.ok (.str (istr i)), hb) else none
  | [.str s] => some (.ok (.str s), hb)
  | _ => none
def rStrA : List V → Hp → VK → Prop := fun xs H Q => (∃ i : Int, xs = [V.int i] ∧ i.natAbs.log2 < 1920 ∧ Q (V.str (Str.ofString (toString i))) H) ∨ ∃ a, xs = [V.str a] ∧ Q (V.str a) H
theorem istr_eq (i : Int) : Str.ofString (toString i) = strC (istr i) := strC_of _
theorem snd_str : SndL X W rStrA gStr := by
  intro M m hb fr σ H ds vs res hb' Q at_ rv e c
  unfold gStr at e
  split at e
  · split at e
    · rename_i i hz
      cases e
      obtain ⟨v, rfl, r1⟩ := rv.one
      rw [vInt_ok r1]
      exact .inl ⟨i, rfl, hz, by rw [istr_eq]; exact c.done at_ rStr⟩
    · cases e
  · cases e
    obtain ⟨v, rfl, r1⟩ := rv.one
    rw [vStr_ok r1]
    exact .inr ⟨_, rfl, c.done at_ rStr⟩
  · cases e
theorem cr_str : CallR X (.type "str") rStrA := CallR.or call_str_int SkE.call_str_str
/-- {x} -/
def gFmt : D → Ev := fun d fr hb => match d with
  | .int i => if i.natAbs.log2 < 1920 then some (.ok (.str (istr i)), hb) else none
  | .str s => if s.length ≤ szL then some (.ok (.str s), hb) else none
  | _ => none
theorem se_fmt (he : SE X W e ev) : SE X W (.FormattedValue e (-1) none pos) (eBind ev gFmt) :=
  PE.mono (pe_fmt he) fun _ _ _ h => tE_bind1 h fun {M m hb fr x vx H2 r hb'} a rx e c => by
    unfold gFmt at e
    split at e
    · split at e
      · rename_i i hz
        cases e
        rw [vInt_ok rx]
        exact .inr ⟨i, rfl, hz, by rw [istr_eq]; exact c.done a rStr⟩
      · cases e
    · split at e
      · rename_i hz
        cases e
        rw [vStr_ok rx]
        exact .inl ⟨_, rfl, by rw [strC_len, ← szL_eq]; exact hz, c.done a rStr⟩
      · cases e
    · cases e
def eJs : List Ev → List Char → Ev
  | [], acc => fun _ hb => some (.ok (.str acc), hb)
  | ev :: r, acc => eBind ev fun d fr hb => match d with
    | .str y => if (acc ++ y).length ≤ szL then eJs r (acc ++ y) fr hb else none
    | _ => none
inductive SJ (X : Cx) (W : WX) : List Expr → List Ev → Prop where
  | nil : SJ X W [] []
  | cons {e : Expr} {ev : Ev} {es : List Expr} {evs : List Ev} (h : SE X W e ev) (r : SJ X W es evs) : SJ X W (e :: es) (ev :: evs)
theorem SJ.pj {es : List Expr} {evs : List Ev} (h : SJ X W es evs) : PJ X es (evs.map (tE X.K W)) := by
  induction h with
  | nil => exact .nil
  | cons h r ih => exact .cons h ih
theorem eJs_ok : ∀ {evs : List Ev} {acc : List Char} {σ : St} {H : Hp} {Q : VK}, tE X.K W (eJs evs acc) σ H Q → tJs (evs.map (tE X.K W)) (strC acc) σ H fun out H1 => Q (.str out) H1
  | [], acc, σ, H, Q, h => by
    obtain ⟨M, m, hb, fr, r, hb', a, e, c⟩ := tE_un h
    cases e
    exact c.done a rStr
  | ev :: evs, acc, σ, H, Q, h => by
    show tE X.K W ev σ H fun x H1 => ∃ y : Str, x = .str y ∧ (strC acc ++ y).length ≤ sizeLine ∧ tJs (evs.map (tE X.K W)) (strC acc ++ y) σ H1 fun out H1 => Q (.str out) H1
    refine tE_bind1 h fun {M m hb fr x vx H2 r hb'} a rx e c => ?_
    split at e
    · rename_i y
      split at e
      · rename_i hz
        rw [vStr_ok rx]
        refine ⟨strC y, rfl, by rw [strC_app, strC_len, ← szL_eq]; exact hz, ?_⟩
        rw [strC_app]
        exact eJs_ok (tE_mk a e c)
      · cases e
    · cases e
theorem se_fstr {v1 v2 : Expr} {rest : List Expr} {evl : List Ev} (h : SJ X W (v1 :: v2 :: rest) evl) : SE X W (.JoinedStr (v1 :: v2 :: rest) pos) (eJs evl []) :=
  PE.mono (pe_joined h.pj) fun _ _ _ h => eJs_ok h
/-! ### methods that write nothing -/
def isM (T : String) (d : D) (fr : Fr) (hb : HB) : Bool := match d with
  | .str _ => T == "str"
  | .lst _ => T == "list"
  | .fz _ => T == "list"
  | .dct _ _ => T == "dict"
  | d => isK T d fr hb
def eMt (T : String) (g : D → List D → Ev) (o : Ev) (es : Evs) : Ev := eBind o fun d fr hb => if isM T d fr hb then eL (g d) es fr hb else none
def SndM (X : Cx) (W : WX) (r : V → List V → Hp → VK → Prop) (g : D → List D → Ev) : Prop := ∀ {M : Addr → Prop} {m : List Addr} {hb : HB} {fr : Fr} {σ : St} {H : Hp} {d : D} {v : V} {ds : List D} {vs : List V} {res : R} {hb' : HB} {Q : VK},
  At X.K M m H hb fr σ → RelT X.K M m H fr σ d v → RelTs X.K M m H fr σ ds vs → g d ds fr hb = some (res, hb') → Pst X.K W M m H fr σ res hb' Q → r v vs H Q
theorem isM_ok {K : PySem.W.Frag} {M : Addr → Prop} {m : List Addr} {H : Hp} {hb : HB} {fr : Fr} {σ : St} {T : String} {d : D} {v : V} (a : At K M m H hb fr σ) (rx : RelT K M m H fr σ d v) (h : isM T d fr hb = true) : tyV K T v H := by
  unfold isM at h
  split at h
  · rw [vStr_ok rx]
    exact (beq_iff_eq.mp h)
  · obtain ⟨p, vs, rfl, f, _⟩ := vLst_ok a rx (show vLst fr hb (.lst _) = some _ from rfl)
    exact .inl ⟨beq_iff_eq.mp h, vs, .of f⟩
  · obtain ⟨p, vs, rfl, f, _⟩ := vFz_ok rx
    exact .inl ⟨beq_iff_eq.mp h, vs, f⟩
  · rename_i ks xs
    have r' : RelD K (Bd M m) m H (.dct ks xs) v := rx
    unfold RelD at r'
    obtain ⟨p, vs, rfl, _, f, _⟩ := r'
    rcases f with ⟨kvs, f, _⟩ | ⟨kvs, f, _⟩
    · exact .inr (.inr (.inl ⟨beq_iff_eq.mp h, .inl ⟨kvs, f⟩⟩))
    · exact .inr (.inr (.inl ⟨beq_iff_eq.mp h, .inr ⟨kvs, f⟩⟩))
  · exact isK_ok a rx h
variable {T : String} {id : String} {name : Str} {r : V → List V → Hp → VK → Prop} {g : D → List D → Ev}
theorem se_mt (hs' : SndM X W r g) (pa : PlainAttrs T) (slot : Slot T name id) (hty : typeOf (.builtin id) = pure (.type "method_descriptor")) (hm : MtR X id r) (he : SE X W o evo) (ha : SEs X W (e :: es) evs)
    (hbase : attributeBase o name X.env (eval o X.env) = eval o X.env := by rfl)
    (hfew : ((backTo cpos (starEach (e :: es) X.env)).all (fun x => !x.1) && (backToKw cpos (keywordEach [] X.env)).all (fun x => x.1.isSome)
      && decide ((e :: es).length + ([] : List Keyword).length + (if ([] : List Keyword).isEmpty then 0 else 1) < 30)) = true := by rfl)
    (hline : (apos.endLine == cpos.line) = true := by rfl) (hs : starEach (e :: es) X.env = (false, eval e X.env) :: starEach es X.env := by rfl) (hplain : (backTo cpos (starEach es X.env)).any (·.1) = false := by rfl) :
    SE X W (.Call (.Attribute o name apos) (e :: es) [] cpos) (eMt T g evo evs) := by
  refine PE.mono (pe_bm pa slot hty hm he ha hbase hfew hline hs hplain) fun σ H Q h => ?_
  obtain ⟨M, m, hb, fr, r0, hb', a, e0, c⟩ := tE_un h
  show tE X.K W evo σ H fun x H1 => tyV X.K T x H1 ∧ tEs X.K W evs σ H1 fun xs H2 => r x xs H2 Q
  refine tE_then a e0 c fun m1 H1 hb1 d v s1 a1 rx e1 c1 => ?_
  split at e1
  · rename_i hk
    refine ⟨isM_ok a1 rx hk, ?_⟩
    unfold eL at e1
    split at e1
    · rename_i ds hb2 e2
      refine ⟨M, m1, hb1, fr, .inl ds, _, a1.wd, a1.fr, e2, fun m2 H2 s2 vs rv => ?_⟩
      exact hs' (a1.step s2) (rx.keep s2) rv e1 (c1.step s2)
    · rename_i x hb2 e2
      cases e1
      exact ⟨M, m1, hb1, fr, .inr x, _, a1.wd, a1.fr, e2, fun m2 H2 s2 => c1 m2 H2 s2⟩
    · cases e1
  · cases e1
/-- sep.join(xs) -/
def joinC (sep : List Char) : List (List Char) → List Char
  | [] => []
  | x :: r => x ++ (r.map (sep ++ ·)).flatten
def gJoin : D → List D → Ev := fun d ds fr hb => match d, ds with
  | .str sep, [x] => (match vSeq fr hb x with
    | some xs => (match tDs xs with
      | some ts => if (ts.map List.length).sum + ts.length * sep.length ≤ szL then some (.ok (.str (joinC sep ts)), hb) else none
      | none => none)
    | none => none)
  | _, _ => none
theorem glued_eq (sep : List Char) : ∀ ts : List (List Char), Builtin.Str.glued (strC sep) (ts.map strC) = strC (joinC sep ts)
  | [] => rfl
  | x :: r => by
    have gen : ∀ (r : List (List Char)) (acc : List Char), (r.map strC).foldl (fun (a : Array Nat) p => a ++ (strC sep).cps ++ p.cps) (strC acc).cps = (strC (acc ++ (r.map (sep ++ ·)).flatten)).cps := by
      intro r
      induction r with
      | nil => intro acc; simp
      | cons y r ih =>
        intro acc
        rw [List.map_cons, List.foldl_cons]
        have e : (strC acc).cps ++ (strC sep).cps ++ (strC y).cps = (strC (acc ++ (sep ++ y))).cps := by
          unfold strC
          simp
        rw [e, ih]
        simp
    unfold Builtin.Str.glued joinC
    rw [List.map_cons]
    show (⟨(r.map strC).foldl (fun (a : Array Nat) p => a ++ (strC sep).cps ++ p.cps) (strC x).cps⟩ : Str) = _
    rw [gen]
theorem snd_join : SndM X W (fun x xs H Q => ∃ a p, ∃ ys : List Str, x = .str a ∧ xs = [.ref p] ∧ (SqL X.K H p (ys.map V.str) ∨ SqT X.K H p (ys.map V.str)) ∧
    (ys.map (·.length)).sum + ys.length * a.length ≤ 16777216 ∧ Q (.str (Txt.join a ys)) H) gJoin := by
  intro M m hb fr σ H d v ds vs res hb' Q at_ rx rv e c
  unfold gJoin at e
  split at e
  · rename_i sep x
    split at e
    · rename_i xs e1
      split at e
      · rename_i ts e2
        split at e
        · rename_i hz
          cases e
          obtain ⟨w, rfl, r1⟩ := rv.one
          obtain ⟨p, ws, rfl, f, r⟩ := vSeq_ok at_ r1 e1
          obtain rfl := tDs_ok e2 r
          have em : (ts.map fun s => V.str (strC s)) = (ts.map strC).map V.str := by rw [List.map_map]; rfl
          rw [em] at f
          rw [vStr_ok rx]
          refine ⟨strC sep, p, ts.map strC, rfl, rfl, f, ?_, ?_⟩
          · rw [List.map_map, List.length_map, strC_len]
            have e3 : (Str.length ∘ strC) = List.length := by funext z; exact strC_len z
            rw [show ((fun x : Str => x.length) ∘ strC) = List.length from e3]
            exact hz
          · have : Txt.join (strC sep) (ts.map strC) = strC (joinC sep ts) := glued_eq sep ts
            rw [this]
            exact c.done at_ rStr
        · cases e
      · cases e
    · cases e
  · cases e
theorem se_join (he : SE X W o evo) (ha : SEs X W [e] evs) (hbase : attributeBase o "join" X.env (eval o X.env) = eval o X.env := by rfl)
    (hfew : ((backTo cpos (starEach [e] X.env)).all (fun x => !x.1) && (backToKw cpos (keywordEach [] X.env)).all (fun x => x.1.isSome)
      && decide ([e].length + ([] : List Keyword).length + (if ([] : List Keyword).isEmpty then 0 else 1) < 30)) = true := by rfl)
    (hline : (apos.endLine == cpos.line) = true := by rfl) (hs : starEach [e] X.env = (false, eval e X.env) :: starEach [] X.env := by rfl) (hplain : (backTo cpos (starEach [] X.env)).any (·.1) = false := by rfl) :
    SE X W (.Call (.Attribute o "join" apos) [e] [] cpos) (eMt "str" gJoin evo evs) :=
  se_mt snd_join PySem.F.plainAttrs_str F.slot_str_join F.type_str_join mt_join he ha hbase hfew hline hs hplain
/-! ### list(range(..)), list(text), list(dict): new lists as values or creators -/
end
end DI
set_option Elab.async false
set_option linter.all false
set_option maxRecDepth 100000
namespace DI
open PySem PySem.Spec PyProof.Rows L2

/-! ### calls that hand back a new list: as creators (se_fz makes them values) -/
section
variable {X : Cx} {W : WX} {G : Gh} {pos apos cpos : Pos} {e o : Expr} {es : List Expr} {ev evo : Ev} {evs : Evs}
/-- the items of the new list -/
abbrev GL := List D → Fr → HB → Option (List D)
def SndN (X : Cx) (r : List V → Hp → VK → Prop) (gl : GL) : Prop := ∀ {M : Addr → Prop} {m : List Addr} {hb : HB} {fr : Fr} {σ : St} {H : Hp} {ds : List D} {vs : List V} {ys : List D} {Q : VK},
  At X.K M m H hb fr σ → RelTs X.K M m H fr σ ds vs → gl ds fr hb = some ys → (∀ p ws, H p = none → RelDs X.K (Bd M m) m H ys ws → Q (.ref p) (upd H p (.lst ws))) → r vs H Q
def cCall (gl : GL) (es : Evs) : Cv := fun fr hb => match es fr hb with
  | some (.inl ds, hb1) => (match gl ds fr hb1 with
    | some ys => some (.inl (.lst ys), hb1)
    | none => none)
  | some (.inr x, hb1) => some (.inr x, hb1)
  | none => none
theorem tC_call {r : List V → Hp → VK → Prop} {gl : GL} (hs : SndN X r gl) {σ : St} {H : Hp} {Q : VK} (h : tC' X.K W (cCall gl evs) σ H Q) : tCB r (tEs X.K W evs) σ H Q := by
  obtain ⟨M, m, hb, fr, r0, hb', at_, e, c⟩ := h
  unfold cCall at e
  show tEs X.K W evs σ H fun vs H1 => r vs H1 Q
  split at e
  · rename_i ds hb1 e1
    split at e
    · rename_i ys e2
      cases e
      refine ⟨M, m, hb, fr, .inl ds, _, at_.wd, at_.fr, e1, fun m1 H1 s1 vs rv => ?_⟩
      refine hs (at_.step s1) rv e2 fun p ws hp rw' => ?_
      exact c m1 _ p (s1.newP at_.wd hp) ⟨ws, upd_same, rw'.keep (Keeps.grow hp)⟩
    · cases e
  · rename_i x hb1 e1
    cases e
    exact ⟨M, m, hb, fr, .inr x, _, at_.wd, at_.fr, e1, fun m1 H1 s1 => c m1 H1 s1⟩
  · cases e
theorem sc_callB {r : List V → Hp → VK → Prop} {gl : GL} {id : String} {x : Str} {p : Pos} (hc : CallR X (.builtin id) r) (hs : SndN X r gl) (hg : Gl X x) (hm : X.mg x = none) (hv : bootBuiltins x = some (.builtin id)) (ha : SEs X W (e :: es) evs)
    (hn : x ≠ "__name__" := by decide) (hdb : (x == ("__debug__" : Str)) = false := by decide) (he : starEach (e :: es) X.env = (false, eval e X.env) :: starEach es X.env := by rfl) (hpl : (backTo pos (starEach es X.env)).any (·.1) = false := by rfl) :
    SC X W (.Call (.Name x p) (e :: es) [] pos) (cCall gl evs) := PE.mono (pe_callB hc hg hm hv ha hn hdb he hpl) fun _ _ _ h => tC_call hs h
theorem sc_callTy {r : List V → Hp → VK → Prop} {gl : GL} {T : String} {x : Str} {p : Pos} (hc : CallR X (.type T) r) (hs : SndN X r gl) (hg : Gl X x) (hm : X.mg x = none) (hv : bootBuiltins x = some (.type T)) (ha : SEs X W (e :: es) evs)
    (hn : x ≠ "__name__" := by decide) (hdb : (x == ("__debug__" : Str)) = false := by decide) (he : starEach (e :: es) X.env = (false, eval e X.env) :: starEach es X.env := by rfl) (hpl : (backTo pos (starEach es X.env)).any (·.1) = false := by rfl) :
    SC X W (.Call (.Name x p) (e :: es) [] pos) (cCall gl evs) := PE.mono (pe_callTy hc hg hm hv ha hn hdb he hpl) fun _ _ _ h => tC_call hs h
/-- list(x): a list, a tuple, a text, a dict -/
def lstD (fr : Fr) (hb : HB) : D → Option (List D)
  | .str s => if s.length ≤ szL then some (s.map fun ch => .str [ch]) else none
  | d => match vSeq fr hb d with
    | some xs => some xs
    | none => match vDct fr hb d with
      | some (ks, vs) => if ks.all D.isKey && decide (ks.length ≤ szL) then some ks else none
      | none => none
def glList : GL := fun ds fr hb => match ds with
  | [d] => lstD fr hb d
  | _ => none
def rListA (K : PySem.W.Frag) : List V → Hp → VK → Prop := fun xs H Q => (∃ p ys, xs = [V.ref p] ∧ (SqL K H p ys ∨ SqT K H p ys) ∧ ∀ (l : Addr), H l = none → Q (V.ref l) (upd H l (HO.lst ys))) ∨
  (∃ z : Str, xs = [V.str z] ∧ z.length ≤ sizeLine ∧ ∀ (l : Addr), H l = none → Q (V.ref l) (upd H l (HO.lst (signs z)))) ∨ rListD xs H Q
theorem call_listS (hc : X.calm = true) : CallR X (.type "list") (fun xs H Q => ∃ z : Str, xs = [V.str z] ∧ z.length ≤ sizeLine ∧ ∀ (l : Addr), H l = none → Q (V.ref l) (upd H l (HO.lst (signs z)))) := by
  intro pins s σ H xs us Q I r h
  obtain ⟨z, rfl, hz, q⟩ := h
  obtain ⟨u, rfl, t, rfl⟩ := r.one
  refine call_list_str (hn := hz) (I.ok.hd hc) z t fun h' tk acc' c' hk e' hi => ?_
  have hl : (signs z).length = acc'.toList.length := by
    unfold signs
    rw [List.length_map, Array.length_toList, Array.length_toList]
    exact hi.1.symm
  refine ⟨.ref s.heap.objs.size, upd H s.heap.objs.size (.lst (signs z)), I.laid hk (Nat.le_refl _) (show ObjOk X.prog X.w _ _ _ (.lst (signs z)) from ⟨?_, acc'.toList, c', ?_, ?_⟩), rfl, q _ (I.hok.fresh (Nat.le_refl _))⟩
  · rw [hl, Array.length_toList, hi.1]; exact hz
  · refine L2.vals_of_at hl fun j x w h1 h2 => ?_
    obtain ⟨c, u, e1, rfl⟩ := hi.2 j w (by rw [← Array.getElem?_toList]; exact h2)
    unfold signs at h1
    rw [List.getElem?_map, Array.getElem?_toList, e1] at h1
    cases h1
    exact ⟨u, rfl⟩
  · rw [Array.toArray_toList]; exact e'
theorem signs_strC (s : List Char) : signs (strC s) = s.map fun ch => V.str (strC [ch]) := by
  unfold signs strC
  rw [List.toList_toArray, List.map_map]
  rfl
theorem RelDs.ofSigns {K : PySem.W.Frag} {B : Addr → Prop} {m : List Addr} {H : Hp} (s : List Char) : RelDs K B m H (s.map fun ch => D.str [ch]) (signs (strC s)) := by
  rw [signs_strC]
  induction s with
  | nil => exact RelDs.nil'
  | cons ch s ih => exact RelDs.cons (by unfold RelD; rfl) ih
theorem RelDs.ofKeys {K : PySem.W.Frag} {B : Addr → Prop} {m : List Addr} {H : Hp} : ∀ {ks : List D} {kvs : List (Key × V)}, KeysK ks kvs → RelDs K B m H ks (kvs.map fun kv => kV kv.1)
  | _, _, .nil => RelDs.nil'
  | d :: ds, (k, v) :: kvs, .cons h1 h2 => by
    refine RelDs.cons ?_ (RelDs.ofKeys h2)
    cases d <;> simp [keyD] at h1 <;> subst h1 <;> unfold RelD <;> rfl
theorem vDct_no {fr : Fr} {hb : HB} {d : D} {ks vs : List D} {K : PySem.W.Frag} {M : Addr → Prop} {m : List Addr} {H : Hp} {σ : St} {v : V} (a : At K M m H hb fr σ) (r : RelT K M m H fr σ d v) (e : vDct fr hb d = some (ks, vs)) (hk : ks.all D.isKey = true) : ∃ p kvs, v = .ref p ∧ H p = some (.dK kvs) ∧ KeysK ks kvs ∧ RelDs K (Bd M m) m H vs (kvs.map (·.2)) := by
  unfold vDct at e
  split at e
  · cases e
    have r' : RelD K (Bd M m) m H (.dct ks vs) v := r
    unfold RelD at r'
    obtain ⟨p, ws, rfl, _, f, r⟩ := r'
    rcases f with ⟨kvs, f, h1, rfl⟩ | ⟨kvs, f, h1, _⟩
    · exact ⟨p, kvs, rfl, f, h1, r⟩
    · exact (KeysT.no h1 hk).elim
  · rename_i i
    split at e
    · rename_i e1
      cases e
      obtain ⟨_, e2⟩ := r
      obtain ⟨x, e3, p, e4, _, _, ws, e5, e6⟩ := a.fr.2 i _ e1
      rw [e3] at e2
      cases e2
      cases e4
      rcases e5 with ⟨kvs, f, h1, rfl⟩ | ⟨kvs, f, h1, _⟩
      · exact ⟨p, kvs, rfl, f, h1, e6⟩
      · exact (KeysT.no h1 hk).elim
    · cases e
  · rename_i n
    split at e
    · rename_i e1
      cases e
      have r' : RelD K (Bd M m) m H (.box n) v := r
      unfold RelD at r'
      obtain ⟨p, rfl, e3⟩ := r'
      obtain ⟨ws, e5, e6⟩ := a.wd.ob n p _ e3 e1
      rcases e5 with ⟨kvs, f, h1, rfl⟩ | ⟨kvs, f, h1, _⟩
      · exact ⟨p, kvs, rfl, f, h1, e6⟩
      · exact (KeysT.no h1 hk).elim
    · cases e
  · cases e
theorem snd_listA : SndN X (rListA X.K) glList := by
  intro M m hb fr σ H ds vs ys Q at_ rv e c
  unfold glList at e
  split at e
  · rename_i d
    obtain ⟨v, rfl, r1⟩ := rv.one
    unfold lstD at e
    split at e
    · rename_i s
      split at e
      · rename_i hz
        cases e
        rw [vStr_ok r1]
        exact .inr (.inl ⟨_, rfl, by rw [strC_len, ← szL_eq]; exact hz, fun l hl => c l _ hl (RelDs.ofSigns s)⟩)
      · cases e
    · split at e
      · rename_i xs e1
        cases e
        obtain ⟨p, ws, rfl, f, r⟩ := vSeq_ok at_ r1 e1
        exact .inl ⟨p, ws, rfl, f, fun l hl => c l _ hl r⟩
      · split at e
        · rename_i ks xs e2
          split at e
          · rename_i hz
            rw [Bool.and_eq_true] at hz
            cases e
            obtain ⟨p, kvs, rfl, f, hkk, _⟩ := vDct_no at_ r1 e2 hz.1
            exact .inr (.inr ⟨p, kvs, rfl, f, fun q hq => c q _ hq (RelDs.ofKeys hkk)⟩)
          · cases e
        · cases e
  · cases e
theorem cr_listA (hc : X.calm = true) : CallR X (.type "list") (rListA X.K) := CallR.or call_list_of (CallR.or (call_listS hc) (call_list_dK hc))
theorem sc_list {p : Pos} (hc : X.calm = true) (hg : Gl X "list") (hm : X.mg "list" = none) (ha : SEs X W [e] evs) (he : starEach [e] X.env = (false, eval e X.env) :: starEach [] X.env := by rfl) (hpl : (backTo pos (starEach [] X.env)).any (·.1) = false := by rfl) :
    SC X W (.Call (.Name "list" p) [e] [] pos) (cCall glList evs) := sc_callTy (cr_listA hc) snd_listA hg hm rfl ha (by decide) (by decide) he hpl
/-- sorted(x) -/
def glSort : GL := fun ds fr hb => match ds with
  | [.tup _] => none
  | [d] => match vSeq fr hb d with
    | some xs => srtD xs
    | none => none
  | _ => none
theorem snd_sortN : SndN X (rSortAny X.K) glSort := by
  intro M m hb fr σ H ds vs ys Q at_ rv e c
  unfold glSort at e
  split at e
  · cases e
  · rename_i d hn
    split at e
    · rename_i xs e1
      obtain ⟨v, rfl, r1⟩ := rv.one
      obtain ⟨p, ws, rfl, f, r⟩ := vSeq_list at_ r1 e1 fun ys q => hn ys (by rw [q])
      unfold srtD at e
      split at e
      · rename_i is e3
        cases e
        obtain rfl := (iDs_ok e3 r).1
        refine .inl ⟨p, is, rfl, f, fun ns q pm pw hq => ?_⟩
        have : ns = sortI is := sorted_uniq _ (fun a b h1 h2 => by omega) (pm.trans (List.mergeSort_perm _ _).symm) pw (sortI_pw is)
        subst this
        exact c q _ hq (RelDs.ofInts _)
      · split at e
        · rename_i ts e3
          split at e
          · rename_i hz
            cases e
            obtain rfl := tDs_ok e3 r
            have em : (ts.map fun s => V.str (strC s)) = (ts.map strC).map V.str := by rw [List.map_map]; rfl
            rw [em] at f
            refine .inr (.inl ⟨p, ts.map strC, rfl, f, by rw [List.length_map]; exact hz, fun zs q pm pw hq => ?_⟩)
            obtain ⟨us, rfl, pm2⟩ := map_strC_of pm
            have pw2 : us.Pairwise fun a b => ltC b a = false := by
              cases us with
              | nil => exact .nil
              | cons u us => exact rising_pw u us pw
            have : us = sortT ts := sorted_uniq _ (fun a b h1 h2 => ltC_anti h1 h2) (pm2.trans (List.mergeSort_perm _ _).symm) pw2 (sortT_pw ts)
            subst this
            have em2 : ((sortT ts).map strC).map V.str = (sortT ts).map fun s => V.str (strC s) := by rw [List.map_map]; rfl
            rw [em2]
            exact c q _ hq (RelDs.ofTexts _)
          · cases e
        · split at e
          · rename_i ps e3
            cases e
            obtain ⟨g1, g2, g3⟩ := pDs_ok e3 r
            refine .inr (.inr ⟨p, ws, kP H, rfl, f, fun x hx => (g3 x hx).2, fun zs q pw st hq => ?_⟩)
            have e9 : zs.map (kP H) = sortP ps := by
              refine sorted_uniq _ (fun a b h1 h2 => lexB_anti h1 h2) ?_ (List.pairwise_map.mpr pw) (sortP_pw ps)
              exact ((st.perm.map (kP H)).trans (by rw [g2])).trans (List.mergeSort_perm _ _).symm
            have e10 : (sortP ps).map dP = zs.map fun x => dP (kP H x) := by rw [← e9, List.map_map]; rfl
            rw [e10] at c
            exact c q _ hq (RelDs.ofMap fun x hx => (g3 x (st.perm.subset hx)).1)
          · cases e
    · cases e
  · cases e
theorem sc_sorted {p : Pos} (hg : Gl X "sorted") (hm : X.mg "sorted" = none) (ha : SEs X W [e] evs) (he : starEach [e] X.env = (false, eval e X.env) :: starEach [] X.env := by rfl) (hpl : (backTo pos (starEach [] X.env)).any (·.1) = false := by rfl) :
    SC X W (.Call (.Name "sorted" p) [e] [] pos) (cCall glSort evs) := sc_callB cr_sortAny snd_sortN hg hm rfl ha (by decide) (by decide) he hpl
/-- list(range(..)) -/
def cLRg (es : Evs) : Cv := fun fr hb => match es fr hb with
  | some (.inl [.int j], hb1) => if smI j && decide (j ≤ szL) then some (.inl (.lst (rngD 0 j)), hb1) else none
  | some (.inr x, hb1) => some (.inr x, hb1)
  | _ => none
theorem rgV_rel {K : PySem.W.Frag} {B : Addr → Prop} {m : List Addr} {H : Hp} (i j : Int) : RelDs K B m H (rngD i j) (rgV i j) := by
  unfold rngD rgV
  generalize (j - i).toNat = n
  generalize hl : List.range n = l
  clear hl
  induction l with
  | nil => exact RelDs.nil'
  | cons a l ih => exact RelDs.cons (by unfold RelD; rfl) ih
theorem sc_listRg {a : Expr} {eva : Ev} {p p2 pos2 : Pos} (hc : X.calm = true) (hg : Gl X "list") (hm : X.mg "list" = none) (hg2 : Gl X "range") (hm2 : X.mg "range" = none) (ha : SE X W a eva)
    (na : starEach [a] X.env = (false, eval a X.env) :: starEach [] X.env := by rfl) (na2 : starEach [Expr.Call (.Name "range" p2) [a] [] pos2] X.env = (false, eval (Expr.Call (.Name "range" p2) [a] [] pos2) X.env) :: starEach [] X.env := by rfl) :
    SC X W (.Call (.Name "list" p) [.Call (.Name "range" p2) [a] [] pos2] [] pos) (cLRg (eCons eva eNil)) := PE.mono (pe_listRg hc hg hm (prg_1 hg2 hm2 ha na) na2) fun σ H Q h => by
  obtain ⟨M, m, hb, fr, r0, hb', at_, e, c⟩ := h
  unfold cLRg eCons eNil at e
  show tE X.K W eva σ H fun x H1 => ∃ n, x = .int n ∧ RgOk 0 n ∧ ∀ q, H1 q = none → Q (.ref q) (upd H1 q (.lst (rgV 0 n)))
  split at e
  · rename_i j hb1 e1
    split at e
    · rename_i hz
      rw [Bool.and_eq_true] at hz
      cases e
      split at e1
      · rename_i d hb2 e2
        cases e1
        refine tE_mk at_ e2 fun m1 H1 s1 v rv => ?_
        have hj := smI_ok hz.1
        have hj2 : j ≤ 16777216 := of_decide_eq_true hz.2
        refine ⟨j, vInt_ok rv, ⟨by decide, by decide, hj.1, hj.2, by omega⟩, fun q hq => ?_⟩
        exact c m1 _ q (s1.newP at_.wd hq) ⟨rgV 0 j, upd_same, rgV_rel 0 j⟩
      · cases e1
      · cases e1
    · cases e
  · rename_i x hb1 e1
    cases e
    split at e1
    · rename_i d hb2 e2
      cases e1
    · rename_i x' hb2 e2
      cases e1
      exact tE_mk at_ e2 fun m1 H1 s1 => c m1 H1 s1
    · cases e1
  · cases e
end
end DI
set_option Elab.async false
set_option linter.all false
set_option maxRecDepth 100000
namespace DI
open PySem PySem.Spec PyProof.Rows L2

/-! ### what __init__ does: the values, the object behind -/
abbrev ISem := List D → HB → Option ((O ⊕ Xn) × HB)
def spI (K : PySem.W.Frag) (c : String) (n : Nat) (ev : ISem) : Sp := fun vs H Q E => ∃ (M0 : Addr → Prop) (ms : List Addr) (H0 : Hp) (p dx : Addr) (hb : HB) (ds : List D) (vs' : List V) (r : O ⊕ Xn) (hb' : HB),
  vs = .ref p :: vs' ∧ H = upd (upd H0 dx (.own p)) p (.ins (He.ga K c) dx []) ∧ H0 p = none ∧ H0 dx = none ∧ dx ≠ p ∧ ds.length + 1 = n ∧ Wd K M0 ms H0 hb ∧ RelDs K (Bd M0 ms) ms H0 ds vs' ∧ ev ds hb = some (r, hb') ∧ match r with
    | .inl o => ∀ m' H', StpP K M0 ms H0 m' H' hb' p → RelO K (Bd (Mp M0 p) m') m' H' o p → Q .non H'
    | .inr x => ∀ m' H', Stp K M0 ms H0 m' H' hb' → ∀ C dd, RelX K (Bd M0 m') m' H' x C dd → E C dd H'
abbrev FOkI (P : Program) (w : World) (K : PySem.W.Frag) (mg : Str → Option Value) (base : Heap) (k : Nat) (f : Addr) (fd : FuncData) (ps : List Str) (c : String) (ev : ISem) : Prop := FnOk P w K mg base (L2.CX P w) k f fd ps (spI K c ps.length ev)
def frI (c : String) (n : Nat) (ds : List D) : Fr := (fr0 n (.non :: ds)).set 0 (.ow (.ins c [] []))
def inE (c : String) (n : Nat) (body : Sv) : ISem := fun ds hb => match body (frI c n ds) hb with
  | some (.nx fr, hb1) => (match fr[(0 : Nat)]? with
    | some (.ow o) => some (.inl o, hb1)
    | _ => none)
  | some (.ex x, hb1) => some (.inr x, hb1)
  | _ => none
section
variable {P : Program} {w : World} {K : PySem.W.Frag} {mg : Str → Option Value} {base : Heap}
theorem FS.startI {M0 : Addr → Prop} {ms : List Addr} {H0 : Hp} {hb : HB} {ds : List D} {vs : List V} {N : List Str} {c : String} {p dx : Addr} (wd : Wd K M0 ms H0 hb) (r : RelDs K (Bd M0 ms) ms H0 ds vs) (hl : ds.length + 1 ≤ N.length) (hp : H0 p = none) (hd : H0 dx = none) (hne : dx ≠ p) :
    FS K ⟨M0, ms, H0, some p⟩ ms (upd (upd H0 dx (.own p)) p (.ins (He.ga K c) dx [])) hb (frI c N.length ds) (L2.start N (.ref p :: vs)) := by
  have s0 : FS K ⟨M0, ms, H0, none⟩ ms H0 hb (fr0 N.length (.non :: ds)) (L2.start N (.non :: vs)) := FS.start wd (RelDs.cons (by unfold RelD; rfl) r) (by simpa using hl)
  have hp' : (upd H0 dx (.own p)) p = none := by rw [upd_ne (Ne.symm hne)]; exact hp
  have w1 := (s0.at_.wd.laid (o := .own p) hd).wd
  have t : StpP K (Mf M0 (fr0 N.length (.non :: ds)) (L2.start N (.non :: vs))) ms H0 ms (upd (upd H0 dx (.own p)) p (.ins (He.ga K c) dx [])) hb p := by
    refine ⟨⟨[], by simp⟩, fun a h n => absurd h n, fun a o q n => ?_, w1.grow hp', hp⟩
    rw [upd_ne (ne_of_none q hp), upd_ne (ne_of_none q hd)]
    exact q
  have hlen : 0 < (fr0 N.length (.non :: ds)).length := by unfold fr0; simp
  obtain ⟨s1, _⟩ := s0.setOw (o := .ins c [] []) (i := 0) (.inl rfl) hlen t ⟨dx, [], upd_same, rfl, RelDs.nil'⟩
  have e : (L2.start N (.non :: vs)).set 0 (some (.ref p)) = L2.start N (.ref p :: vs) := by unfold L2.start; simp
  rw [e] at s1
  refine ⟨s1.at_, s1.m0, s1.pre, s1.new, s1.keep, fun q hq o _ => ?_, s1.own, s1.dist⟩
  cases hq
  unfold L2.start
  simp
/-- THE RULE of __init__ -/
theorem fokI {c : String} {x qual : Str} {params : Arguments} {body : List Stmt} {scope : Scope} {dvs : List V} {kws : List (Str × V)} {f : Addr} {fd : FuncData} {N ps : List Str} {k : Nat} {sv : Sv} (F : FunD K x qual params body scope dvs kws f fd) (S : FnScope N ps scope)
    (hbody : ∀ (X : Cx) (W : WX) (G : Gh), X.prog = P → X.w = w → X.K = K → X.mg = mg → X.base = base → X.N = N → X.calm = true → X.fn = (fun _ => true) → X.env.scope = scope → Room k X.A → PassesOwn (model X.prog X.w) X.A X.env X.xe → Takes X W → X.stack = X.env :: X.outer → X.env.frame = some X.env.locals → SSs X W G body sv) :
    FOkI P w K mg base (k + 1) f fd ps c (inE c N.length sv) := by
  refine F.ok (sp := spI K c ps.length (inE c N.length sv)) S (fun vs H Q E h => ?_) (fun cdv A outer s H vs Q E hr h => ?_)
  · obtain ⟨M0, ms, H0, p, dx, hb, ds, vs', r, hb', rfl, _, _, _, _, hl, _, rd, _⟩ := h
    rw [List.length_cons, ← rd.length, hl]
  · obtain ⟨M0, ms, H0, p, dx, hb, ds, vs', r, hb', rfl, rfl, hp, hd, hne, hl, wd, rd, e, cc⟩ := h
    have hps : ps.length ≤ N.length := by have := congrArg List.length S.pre; rw [List.length_take] at this; omega
    refine ⟨_, hbody (cxOf (L2.CX P w) P w K mg base N qual scope f cdv A outer s _ E) (fun cls d _ H => E cls d H) ⟨M0, ms, H0, some p⟩ rfl rfl rfl rfl rfl rfl rfl rfl rfl hr (passes_of rfl) (takes_of rfl rfl rfl rfl) rfl rfl, ?_⟩
    have s0 := FS.startI (N := N) (c := c) wd rd (by omega) hp hd hne
    unfold inE at e
    split at e
    · rename_i fr1 hb1 e1
      split at e
      · rename_i o e2
        cases e
        refine tS_mk s0 e1 fun m' H' σ' s' _ => ?_
        have hσ := s'.pin p rfl o e2
        obtain ⟨x, e3, a, e4, hM, nm, ro⟩ := s'.at_.fr.2 0 _ e2
        rw [hσ] at e3
        cases e3
        cases e4
        have sub : ∀ a, Mp M0 p a → Mf M0 fr1 σ' a := fun a z => z.elim .inl fun z => by subst z; exact .inr ⟨0, o, e2, hσ⟩
        exact cc m' H' ⟨s'.pre, s'.new, s'.keep, s'.at_.wd.shrink sub, hp⟩ (ro.keep_own (Keeps.shrink fun b z => z.elim (fun z => .inl (sub b z)) .inr) fun _ q => q)
      · cases e
    · rename_i x hb1 e1
      cases e
      refine tS_mk s0 e1 fun m' H' σ' fr' C dd s' _ rx => ?_
      refine cc m' H' ⟨s'.pre, s'.new, s'.keep, s'.at_.wd.shrink fun a h => .inl h⟩ C dd ?_
      obtain ⟨h1, d2, vs2, h2, h3, h4, h5⟩ := rx
      exact ⟨h1, d2, vs2, h2, h3, h4, h5.keep (Keeps.shrink fun b z => z.elim (fun z => .inl (.inl z)) .inr)⟩
    · cases e
end
end DI
set_option Elab.async false
set_option linter.all false
set_option maxRecDepth 100000
namespace DI
open PySem PySem.Spec PyProof.Rows L2

/-! ### arguments: by place, by name -/
/-- how the values by place and the values by name (ks) are put in order -/
structure KBD (K : PySem.W.Frag) (fd : FuncData) (ps : List Str) (n : Nat) (ks : List Str) (gD : List D → List D → List D) : Prop where
  ex : ∃ (g : List Value → List Value → List Value) (gV : List V → List V → List V), KBn K fd ps n ks g gV ∧ ∀ {B : Addr → Prop} {m : List Addr} {H : Hp} {ds es : List D} {vs zs : List V}, ds.length = n → es.length = ks.length → RelDs K B m H ds vs → RelDs K B m H es zs → RelDs K B m H (gD ds es) (gV vs zs) ∧ (gD ds es).length = ps.length
/-- .. the first one being self -/
structure KBI (K : PySem.W.Frag) (fd : FuncData) (ps : List Str) (n : Nat) (ks : List Str) (gD : List D → List D → List D) : Prop where
  ex : ∃ (g : List Value → List Value → List Value) (gV gV2 : List V → List V → List V), KBn K fd ps (n + 1) ks g gV ∧ (∀ v vs zs, vs.length = n → zs.length = ks.length → gV (v :: vs) zs = v :: gV2 vs zs) ∧
    ∀ {B : Addr → Prop} {m : List Addr} {H : Hp} {ds es : List D} {vs zs : List V}, ds.length = n → es.length = ks.length → RelDs K B m H ds vs → RelDs K B m H es zs → RelDs K B m H (gD ds es) (gV2 vs zs) ∧ (gD ds es).length + 1 = ps.length
theorem kbn_pos {K : PySem.W.Frag} {fd : FuncData} {ps : List Str} (hb : Binds K fd ps []) : KBn K fd ps ps.length [] (fun us _ => us) (fun vs _ => vs) :=
  ⟨fun s us ws hk h1 h2 => by
    have z := hb s us hk (by rw [List.append_nil]; exact h1)
    rw [List.append_nil] at z
    have : ([] : List Str).zip ws = [] := by simp
    rw [this]
    exact z, fun r _ => r⟩
theorem kbd_pos {K : PySem.W.Frag} {fd : FuncData} {ps : List Str} (hb : Binds K fd ps []) : KBD K fd ps ps.length [] (fun ds _ => ds) := ⟨_, _, kbn_pos hb, fun h _ r _ => ⟨r, h⟩⟩
theorem kbi_pos {K : PySem.W.Frag} {fd : FuncData} {ps : List Str} {n : Nat} (hb : Binds K fd ps []) (hn : n + 1 = ps.length) : KBI K fd ps n [] (fun ds _ => ds) :=
  ⟨_, _, fun vs _ => vs, by rw [hn]; exact kbn_pos hb, fun _ _ _ _ _ => rfl, fun h _ r _ => ⟨r, by rw [h]; exact hn⟩⟩
abbrev Ea := Fr → HB → Option (((List D × List D) ⊕ Xn) × HB)
def eArgs (evs evks : Evs) : Ea := fun fr hb => match evs fr hb with
  | some (.inl ds, hb1) => (match evks fr hb1 with
    | some (.inl es, hb2) => some (.inl (ds, es), hb2)
    | some (.inr x, hb2) => some (.inr x, hb2)
    | none => none)
  | some (.inr x, hb1) => some (.inr x, hb1)
  | none => none
abbrev SKs (X : Cx) (W : WX) (kws : List Keyword) (ev : Evs) : Prop := PK X kws (tEs X.K W ev)
theorem PK.mono {X : Cx} {kws : List Keyword} {t t' : TA} (h : PK X kws t) (i : ∀ σ H Q, t' σ H Q → t σ H Q) : PK X kws t' := ⟨fun pos pins s σ H Q I hq => h.run pos pins s σ H Q I (i σ H Q hq)⟩
section
variable {X : Cx} {W : WX}
theorem sks_nil : SKs X W [] eNil := by
  refine PK.mono pk_nil fun σ H Q h => ?_
  obtain ⟨M, m, hb, fr, r, hb', w, f, e, c⟩ := h
  cases e
  exact c m H (Stp.refl w) [] rfl
theorem sks_cons {e : Expr} {ev : Ev} {evs : Evs} {kws : List Keyword} {nm : Option Str} {kpos : Pos} (h : SE X W e ev) (hs : SKs X W kws evs) : SKs X W (⟨nm, e, kpos⟩ :: kws) (eCons ev evs) := by
  refine PK.mono (pk_cons h hs) fun σ H Q hq => ?_
  obtain ⟨M, m, hb, fr, r, hb', w, f, e, c⟩ := hq
  unfold eCons at e
  show tE X.K W ev σ H fun x H1 => tEs X.K W evs σ H1 fun xs H2 => Q (x :: xs) H2
  split at e
  · rename_i d hb1 e1
    refine ⟨M, m, hb, fr, .ok d, hb1, w, f, e1, fun m1 H1 s1 v rv => ?_⟩
    split at e
    · rename_i ds hb2 e2
      cases e
      refine ⟨M, m1, hb1, fr, .inl ds, _, s1.wd, f.keep s1 w, e2, fun m2 H2 s2 vs rvs => ?_⟩
      exact c m2 H2 (s1.trans s2) (v :: vs) ⟨v, vs, rfl, rv.keep s2, rvs⟩
    · rename_i x hb2 e2
      cases e
      exact ⟨M, m1, hb1, fr, .inr _, _, s1.wd, f.keep s1 w, e2, fun m2 H2 s2 => c m2 H2 (s1.trans s2)⟩
    · cases e
  · rename_i x hb1 e1
    cases e
    exact ⟨M, m, hb, fr, .exn _, _, w, f, e1, fun m1 H1 s1 => c m1 H1 s1⟩
  · cases e
/-- behind the arguments -/
theorem tEs_args {evs evks : Evs} {σ : St} {H : Hp} {M : Addr → Prop} {m : List Addr} {hb hb1 : HB} {fr : Fr} {r : (List D × List D) ⊕ Xn} (a : At X.K M m H hb fr σ) (e : eArgs evs evks fr hb = some (r, hb1)) {R : List V → List V → Hp → Prop}
    (h : match r with
      | .inl (ds, es) => ∀ m1 H1 vs zs, Stp X.K M m H m1 H1 hb1 → At X.K M m1 H1 hb1 fr σ → RelTs X.K M m1 H1 fr σ ds vs → RelTs X.K M m1 H1 fr σ es zs → R vs zs H1
      | .inr x => ∀ m1 H1, Stp X.K M m H m1 H1 hb1 → ∀ C dd, RelX X.K (Bd M m1) m1 H1 x C dd → W C dd σ H1) : tEs X.K W evs σ H fun vs H1 => tEs X.K W evks σ H1 fun zs H2 => R vs zs H2 := by
  unfold eArgs at e
  split at e
  · rename_i ds hb2 e1
    refine ⟨M, m, hb, fr, .inl ds, hb2, a.wd, a.fr, e1, fun m1 H1 s1 vs rv => ?_⟩
    split at e
    · rename_i es hb3 e2
      cases e
      refine ⟨M, m1, hb2, fr, .inl es, _, s1.wd, (a.step s1).fr, e2, fun m2 H2 s2 zs rz => ?_⟩
      exact h m2 H2 vs zs (s1.trans s2) ((a.step s1).step s2) (rv.keep s2) rz
    · rename_i x hb3 e2
      cases e
      exact ⟨M, m1, hb2, fr, .inr x, _, s1.wd, (a.step s1).fr, e2, fun m2 H2 s2 => h m2 H2 (s1.trans s2)⟩
    · cases e
  · rename_i x hb2 e1
    cases e
    exact ⟨M, m, hb, fr, .inr x, _, a.wd, a.fr, e1, fun m1 H1 s1 => h m1 H1 s1⟩
  · cases e
/-! ### C(..) -/
def tMakeS (C : Addr) (n m : Nat) (sp : Sp) (gV : List V → List V → List V) (E : St → XK) (t tk : TA) : TE := fun σ H Q => t σ H fun vs H1 => tk σ H1 fun zs H2 => vs.length = n ∧ zs.length = m ∧
  ∀ x dx, H2 x = none → H2 dx = none → dx ≠ x → sp (gV (.ref x :: vs) zs) (upd (upd H2 dx (.own x)) x (.ins C dx [])) (fun v H3 => v = .non ∧ Q (.ref x) H3) (E σ)
variable {CX : CXT} {k n : Nat} {f C : Addr} {fd : FuncData} {ps ks : List Str} {sp : Sp} {E : St → XK} {x : Str} {p pos : Pos} {e : Expr} {es : List Expr} {kws : List Keyword} {t tk : TA} {g : List Value → List Value → List Value} {gV : List V → List V → List V}
theorem run_makeS {pins : List (Addr × Obj)} {σ : St} {H : Hp} {s : Shared} {Q : VK} {us ws : List Value} {vs zs : List V} (M : Mk X.K C f) (F : FnOk X.prog X.w X.K X.mg X.base CX k f fd ps sp) (hr : Room (k + 1) X.A) (hb : KBn X.K fd ps (n + 1) ks g gV)
    (hx : PassesAt CX X σ (E σ)) (I : Inv X pins σ H s) (r : Vals vs us) (rz : Vals zs ws) (l1 : vs.length = n) (l2 : zs.length = ks.length)
    (h : ∀ x dx, H x = none → H dx = none → dx ≠ x → sp (gV (.ref x :: vs) zs) (upd (upd H dx (.own x)) x (.ins C dx [])) (fun v H2 => v = .non ∧ Q (.ref x) H2) (E σ)) :
    wpAny (model X.prog X.w) X.A (call (.ref C) us (ks.zip ws)) (EP X pins σ Q) X.xe s := by
  have hq := h (s.heap.objs.size + 1) s.heap.objs.size (I.hok.fresh (Nat.le_succ _)) (I.hok.fresh (Nat.le_refl _)) (Nat.ne_of_lt (Nat.lt_succ_self _))
  have I2 := Inv.made (C := C) I
  have r1 : Vals (V.ref (s.heap.objs.size + 1) :: vs) (Value.ref (s.heap.objs.size + 1) :: us) := .cons rfl r
  have r2 := hb.rel r1 rz
  have e1 : (Value.ref (s.heap.objs.size + 1) :: us).length = n + 1 := r1.length.symm.trans (congrArg Nat.succ l1)
  have e2 : ws.length = ks.length := rz.length.symm.trans l2
  refine wpAny_call (make_map (f := f) I.kIn M.makes M.init (beq_iff_eq.mp M.fn) (codeAny_mono (F.run _ X.stack _ _ ⟨Value.ref (s.heap.objs.size + 1) :: us, ks.zip ws⟩ (g (Value.ref (s.heap.objs.size + 1) :: us) ws) _ _ (E σ) (hr.make C us (ks.zip ws))
    (I2.env0.make C us (ks.zip ws)) (hb.to _ (Value.ref (s.heap.objs.size + 1) :: us) ws I2.kIn e1 e2) r2 hq) fun r s' hq' => ?_))
  cases r with
  | error e => exact hx pins _ _ e s' I2 hq'
  | ok fl =>
    cases fl with
    | ret u =>
      obtain ⟨v, H', I3, rv, ev, q3⟩ := I2.after hq'
      subst ev
      exact ⟨rv, ⟨V.ref (s.heap.objs.size + 1), H', I3, rfl, q3⟩⟩
    | next => exact False.elim hq'
    | brk => exact False.elim hq'
    | cont => exact False.elim hq'
theorem pe_makeS (M : Mk X.K C f) (F : FnOk X.prog X.w X.K X.mg X.base CX k f fd ps sp) (hr : Room (k + 1) X.A) (hg : Gl X x) (hm : X.mg x = some (.ref C)) (hb : KBn X.K fd ps (n + 1) ks g gV) (hx : ∀ σ, PassesAt CX X σ (E σ))
    (ha : PA X (e :: es) t) (hkw : PK X kws tk) (hall : (backToKw pos (keywordEach kws X.env)).all (·.1.isSome) = true := by rfl) (hks : (backToKw pos (keywordEach kws X.env)).filterMap (·.1) = ks := by rfl)
    (hdb : (x == ("__debug__" : Str)) = false := by decide) (he : starEach (e :: es) X.env = (false, eval e X.env) :: starEach es X.env := by rfl)
    (hpl : ((backTo pos (starEach (e :: es) X.env)).any (·.1) || (backToKw pos (keywordEach kws X.env)).any (·.1.isNone)) = false := by rfl) :
    PE X (.Call (.Name x p) (e :: es) kws pos) (tMakeS C n ks.length sp gV E t tk) := by
  refine ⟨fun pins s σ H Q I h => ?_⟩
  refine wpAny_Call_Name_kw (ld_glob I hg hm ?_ hdb)
  refine PySem.W.callWith_KW (h₀ := X.base) I.ok.mod.kin M.kp hall (thn (ha.run pos pins s σ H _ I h) fun us s1 ⟨vs, H1, I1, r, q⟩ => ?_) hpl he
  refine thn (hkw.run pos pins s1 σ H1 _ I1 q) fun ws s2 ⟨zs, H2, I2, rz, l1, l2, q2⟩ => ⟨I2.kIn, ?_⟩
  rw [hks]
  exact run_makeS M F hr hb (hx σ) I2 r rz l1 l2 q2
theorem pe_makeS0 (M : Mk X.K C f) (F : FnOk X.prog X.w X.K X.mg X.base CX k f fd ps sp) (hr : Room (k + 1) X.A) (hg : Gl X x) (hm : X.mg x = some (.ref C)) (hb : KBn X.K fd ps 1 ks g gV) (hx : ∀ σ, PassesAt CX X σ (E σ)) (hkw : PK X kws tk)
    (hall : (backToKw pos (keywordEach kws X.env)).all (·.1.isSome) = true := by rfl) (hks : (backToKw pos (keywordEach kws X.env)).filterMap (·.1) = ks := by rfl) (hdb : (x == ("__debug__" : Str)) = false := by decide)
    (hpl : ((backTo pos (starEach [] X.env)).any (·.1) || (backToKw pos (keywordEach kws X.env)).any (·.1.isNone)) = false := by rfl) :
    PE X (.Call (.Name x p) [] kws pos) (tMakeS C 0 ks.length sp gV E tNil tk) := by
  refine ⟨fun pins s σ H Q I h => ?_⟩
  refine wpAny_Call_Name_kw (ld_glob I hg hm ?_ hdb)
  refine PySem.W.callWith_KW0 (h₀ := X.base) I.ok.mod.kin M.kp hall ?_ hpl
  refine thn (hkw.run pos pins s σ H _ I h) fun ws s2 ⟨zs, H2, I2, rz, l1, l2, q2⟩ => ⟨I2.kIn, ?_⟩
  rw [hks]
  exact run_makeS (us := []) (vs := []) M F hr hb (hx σ) I2 .nil rz rfl l2 q2
/-- a new object by the class's __init__ -/
def cMake (n m : Nat) (gD : List D → List D → List D) (ev : ISem) (ar : Ea) : Cv := fun fr hb => match ar fr hb with
  | some (.inl (ds, es), hb1) => if allVal ds && allVal es && decide (ds.length = n) && decide (es.length = m) then ev (gD ds es) hb1 else none
  | some (.inr x, hb1) => some (.inr x, hb1)
  | none => none
theorem RelTs.len' {K : PySem.W.Frag} {M : Addr → Prop} {m : List Addr} {H : Hp} {fr : Fr} {σ : St} {ds : List D} {vs : List V} (r : RelTs K M m H fr σ ds vs) : vs.length = ds.length := r.len
theorem tC_make {c : String} {ev : ISem} {gD : List D → List D → List D} {gV2 : List V → List V → List V} {evs evks : Evs} {m' : Nat} (hgv : ∀ v vs zs, vs.length = n → zs.length = m' → gV (v :: vs) zs = v :: gV2 vs zs)
    (hrel : ∀ {B : Addr → Prop} {m : List Addr} {H : Hp} {ds es : List D} {vs zs : List V}, ds.length = n → es.length = m' → RelDs X.K B m H ds vs → RelDs X.K B m H es zs → RelDs X.K B m H (gD ds es) (gV2 vs zs) ∧ (gD ds es).length + 1 = ps.length)
    {σ : St} {H : Hp} {Q : VK} (h : tC' X.K W (cMake n m' gD ev (eArgs evs evks)) σ H Q) : tMakeS (He.ga X.K c) n m' (spI X.K c ps.length ev) gV (fun σ => WE W σ) (tEs X.K W evs) (tEs X.K W evks) σ H Q := by
  obtain ⟨M, m, hb, fr, r, hb', at_, e, cc⟩ := h
  unfold cMake at e
  show tEs X.K W evs σ H fun vs H1 => tEs X.K W evks σ H1 fun zs H2 => vs.length = n ∧ zs.length = m' ∧ _
  split at e
  · rename_i ds es hb1 e1
    split at e
    · rename_i hz
      rw [Bool.and_eq_true, Bool.and_eq_true, Bool.and_eq_true] at hz
      obtain ⟨⟨⟨h1, h2⟩, h3⟩, h4⟩ := hz
      have h3' := of_decide_eq_true h3
      have h4' := of_decide_eq_true h4
      refine tEs_args at_ e1 fun m1 H1 vs zs s1 a1 rv rz => ?_
      have l1 : vs.length = n := by rw [rv.len]; exact h3'
      have l2 : zs.length = m' := by rw [rz.len]; exact h4'
      refine ⟨l1, l2, fun x dx hx hdx hne => ?_⟩
      obtain ⟨rr, rl⟩ := hrel h3' h4' (rv.val h1) (rz.val h2)
      refine ⟨M, m1, H1, x, dx, hb1, gD ds es, gV2 vs zs, r, hb', hgv _ vs zs l1 l2, rfl, hx, hdx, hne, rl, a1.wd, rr, e, ?_⟩
      cases r with
      | inl o =>
        intro m2 H2 t ro
        refine ⟨rfl, cc m2 H2 x ?_ ro⟩
        obtain ⟨l3, q3⟩ := s1.pre
        obtain ⟨l4, q4⟩ := t.pre
        refine ⟨⟨l3 ++ l4, by rw [q4, q3, List.append_assoc]⟩, fun a ha hn => ?_, fun a o q hn => ?_, t.wd, s1.free hx at_.wd⟩
        · by_cases h5 : a ∈ m1
          · exact s1.new a h5 hn
          · have := t.new a ha h5
            cases q : H a with
            | none => rfl
            | some o => have z := s1.fr a o q hn; rw [this] at z; cases z
        · refine t.fr a o (s1.fr a o q hn) fun z => ?_
          have := s1.new a z hn
          rw [q] at this; cases this
      | inr x =>
        intro m2 H2 t C dd rx
        exact cc m2 H2 (s1.trans t) C dd rx
    · cases e
  · rename_i x hb1 e1
    cases e
    exact tEs_args at_ e1 fun m1 H1 s1 => cc m1 H1 s1
  · cases e
theorem sc_make {c : String} {ev : ISem} {gD : List D → List D → List D} {evs evks : Evs} (M : Mk X.K (He.ga X.K c) f) (F : FOkI X.prog X.w X.K X.mg X.base k f fd ps c ev) (tk : Takes X W) (hr : Room (k + 1) X.A) (hg : Gl X x) (hm : X.mg x = some (.ref (He.ga X.K c)))
    (hb : KBI X.K fd ps n ks gD) (ha : SEs X W (e :: es) evs) (hkw : SKs X W kws evks) (hall : (backToKw pos (keywordEach kws X.env)).all (·.1.isSome) = true := by rfl) (hks : (backToKw pos (keywordEach kws X.env)).filterMap (·.1) = ks := by rfl)
    (hdb : (x == ("__debug__" : Str)) = false := by decide) (he : starEach (e :: es) X.env = (false, eval e X.env) :: starEach es X.env := by rfl)
    (hpl : ((backTo pos (starEach (e :: es) X.env)).any (·.1) || (backToKw pos (keywordEach kws X.env)).any (·.1.isNone)) = false := by rfl) :
    SC X W (.Call (.Name x p) (e :: es) kws pos) (cMake n ks.length gD ev (eArgs evs evks)) := by
  obtain ⟨g, gV, gV2, h1, h2, h3⟩ := hb.ex
  exact PE.mono (pe_makeS M F hr hg hm h1 (fun σ => passAt tk σ) ha hkw hall hks hdb he hpl) fun σ H Q h => tC_make h2 h3 h
theorem sc_make0 {c : String} {ev : ISem} {gD : List D → List D → List D} {evks : Evs} (M : Mk X.K (He.ga X.K c) f) (F : FOkI X.prog X.w X.K X.mg X.base k f fd ps c ev) (tk : Takes X W) (hr : Room (k + 1) X.A) (hg : Gl X x) (hm : X.mg x = some (.ref (He.ga X.K c)))
    (hb : KBI X.K fd ps 0 ks gD) (hkw : SKs X W kws evks) (hall : (backToKw pos (keywordEach kws X.env)).all (·.1.isSome) = true := by rfl) (hks : (backToKw pos (keywordEach kws X.env)).filterMap (·.1) = ks := by rfl) (hdb : (x == ("__debug__" : Str)) = false := by decide)
    (hpl : ((backTo pos (starEach [] X.env)).any (·.1) || (backToKw pos (keywordEach kws X.env)).any (·.1.isNone)) = false := by rfl) :
    SC X W (.Call (.Name x p) [] kws pos) (cMake 0 ks.length gD ev (eArgs eNil evks)) := by
  obtain ⟨g, gV, gV2, h1, h2, h3⟩ := hb.ex
  refine PE.mono (pe_makeS0 M F hr hg hm h1 (fun σ => passAt tk σ) hkw hall hks hdb hpl) fun σ H Q h => ?_
  obtain ⟨M', m, hb, fr, r, hb', w, f', e, cc⟩ := tC_make (evs := eNil) h2 h3 h
  cases e
  exact cc m H (Stp.refl w) [] rfl
end
end DI
set_option Elab.async false
set_option linter.all false
set_option maxRecDepth 100000
namespace DI
open PySem PySem.Spec PyProof.Rows L2

/-! ### an instance: frozen, boxed, the frame's own -/
def insD (fr : Fr) (hb : HB) : D → Option (String × List String × List D)
  | .ins c fs vs => some (c, fs, vs)
  | d => match rdO fr hb d with
    | some (.ins c fs vs) => some (c, fs, vs)
    | _ => none
theorem insD_ok {K : PySem.W.Frag} {M : Addr → Prop} {m : List Addr} {H : Hp} {hb : HB} {fr : Fr} {σ : St} {d : D} {v : V} {c : String} {fs : List String} {ds : List D} (a : At K M m H hb fr σ) (r : RelT K M m H fr σ d v) (e : insD fr hb d = some (c, fs, ds)) :
    ∃ p dx vs, v = .ref p ∧ H p = some (.ins (He.ga K c) dx ((fs.map Str.ofString).zip vs)) ∧ fs.length = vs.length ∧ RelDs K (Bd M m) m H ds vs := by
  unfold insD at e
  split at e
  · cases e
    have r' : RelD K (Bd M m) m H (.ins c fs ds) v := r
    unfold RelD at r'
    obtain ⟨p, dx, vs, rfl, _, f, l, r⟩ := r'
    exact ⟨p, dx, vs, rfl, f, l, r⟩
  · split at e
    · rename_i e1
      cases e
      obtain ⟨p, rfl, _, dx, vs, f, l, r⟩ := rdO_ok a r e1
      exact ⟨p, dx, vs, rfl, f, l, r⟩
    · cases e
theorem ofString_inj {s t : String} (h : Str.ofString s = Str.ofString t) : s = t := by
  rw [strC_of, strC_of] at h
  exact String.toList_inj.mp (strC_inj h)
def getF : List String → List D → String → Option D
  | g :: fs, v :: vs, f => if g = f then some v else getF fs vs f
  | _, _, _ => none
theorem getF_ok {K : PySem.W.Frag} {B : Addr → Prop} {m : List Addr} {H : Hp} {f : String} : ∀ {fs : List String} {ds : List D} {vs : List V} {d : D}, RelDs K B m H ds vs → getF fs ds f = some d → ∃ v, ((fs.map Str.ofString).zip vs).lookup (Str.ofString f) = some v ∧ RelD K B m H d v
  | [], ds, vs, d, r, e => by cases ds <;> cases e
  | g :: fs, [], vs, d, r, e => by cases e
  | g :: fs, x :: ds, vs, d, r, e => by
    obtain ⟨v, w, rfl, r1, r2⟩ := RelDs.cons_inv r
    unfold getF at e
    rw [List.map_cons, List.zip_cons_cons, List.lookup_cons]
    by_cases h : g = f
    · subst h
      rw [if_pos rfl] at e
      cases e
      exact ⟨v, by simp, r1⟩
    · rw [if_neg h] at e
      obtain ⟨u, e1, r3⟩ := getF_ok r2 e
      have : (Str.ofString f == Str.ofString g) = false := by
        rw [beq_eq_false_iff_ne]
        exact fun z => h (ofString_inj z).symm
      rw [this]
      exact ⟨u, e1, r3⟩
theorem noF_ok {f : String} : ∀ {fs : List String} {vs : List V}, fs.contains f = false → ((fs.map Str.ofString).zip vs).lookup (Str.ofString f) = none
  | [], _, _ => rfl
  | g :: fs, [], _ => by simp
  | g :: fs, v :: vs, h => by
    rw [List.contains_cons, Bool.or_eq_false_iff] at h
    rw [List.map_cons, List.zip_cons_cons, List.lookup_cons]
    have : (Str.ofString f == Str.ofString g) = false := by
      rw [beq_eq_false_iff_ne]
      intro z
      have := ofString_inj z
      subst this
      simp at h
    rw [this]
    exact noF_ok h.2
/-- facts of the classes whose objects are asked for f -/
def FldF (K : PySem.W.Frag) (cs : List String) (f : String) : Prop := ∀ c ∈ cs, Cls K (He.ga K c) ∧ NoAttr K (He.ga K c) f
def gFld (cs : List String) (f : String) : D → Ev := fun d fr hb => match insD fr hb d with
  | some (c, fs, vs) => if cs.contains c then (match getF fs vs f with
    | some x => some (.ok x, hb)
    | none => none) else none
  | none => none
section
variable {X : Cx} {W : WX} {G : Gh} {e o : Expr} {ev evo eve : Ev} {pos pos' apos : Pos} {es : List Expr} {evs : Evs}
theorem se_fld {cs : List String} {f : String} {fn : Str} (he : SE X W e ev) (hF : FldF X.K cs f) (hf : fn = Str.ofString f := by rfl) (hb : attributeBase e fn X.env (eval e X.env) = eval e X.env := by rfl) : SE X W (.Attribute e fn pos) (eBind ev (gFld cs f)) := by
  subst hf
  refine PE.mono (pe_fld he hb) fun σ H Q h => ?_
  show tE X.K W ev σ H fun x H1 => ∃ a C dx fs v, x = .ref a ∧ H1 a = some (.ins C dx fs) ∧ Cls X.K C ∧ NoAttr X.K C (Str.ofString f) ∧ fs.lookup (Str.ofString f) = some v ∧ Q v H1
  refine tE_bind1 h fun {M m hb fr x vx H2 r hb'} a rx e c => ?_
  unfold gFld at e
  split at e
  · rename_i c0 fs vs e1
    split at e
    · rename_i hc
      split at e
      · rename_i d e2
        cases e
        obtain ⟨p, dx, ws, rfl, f1, l, r⟩ := insD_ok a rx e1
        obtain ⟨v, e3, rv⟩ := getF_ok r e2
        obtain ⟨g1, g2⟩ := hF c0 (by simpa using hc)
        exact ⟨p, _, dx, _, v, rfl, f1, g1, g2, e3, c.done a rv.t⟩
      · cases e
    · cases e
  · cases e
/-! ### o.f = e -/
def putFD : List String → List D → String → D → List String × List D
  | g :: fs, v :: vs, f, d => if g = f then (g :: fs, d :: vs) else (g :: (putFD fs vs f d).1, v :: (putFD fs vs f d).2)
  | _, _, f, d => ([f], [d])
theorem putFD_ok {K : PySem.W.Frag} {B : Addr → Prop} {m : List Addr} {H : Hp} {f : String} {d : D} {v : V} (rd : RelD K B m H d v) : ∀ {fs : List String} {ds : List D} {vs : List V}, fs.length = vs.length → RelDs K B m H ds vs →
    ∃ ws, putF (Str.ofString f) v ((fs.map Str.ofString).zip vs) = ((putFD fs ds f d).1.map Str.ofString).zip ws ∧ (putFD fs ds f d).1.length = ws.length ∧ RelDs K B m H (putFD fs ds f d).2 ws
  | [], ds, vs, hl, r => by
    have : vs = [] := List.eq_nil_of_length_eq_zero hl.symm
    subst this
    refine ⟨[v], ?_, ?_, ?_⟩ <;> cases ds <;> first | rfl | exact RelDs.cons rd RelDs.nil'
  | g :: fs, [], vs, hl, r => by
    obtain rfl := RelDs.nil_iff.mp r
    simp at hl
  | g :: fs, x :: ds, vs, hl, r => by
    obtain ⟨w, ws, rfl, r1, r2⟩ := RelDs.cons_inv r
    by_cases h : g = f
    · subst h
      refine ⟨v :: ws, ?_, ?_, ?_⟩
      · unfold putFD putF
        simp
      · unfold putFD
        simpa using hl
      · unfold putFD
        rw [if_pos rfl]
        exact RelDs.cons rd r2
    · obtain ⟨us, e1, e2, e3⟩ := putFD_ok (f := f) rd (fs := fs) (by simpa using hl) r2
      have hne : ¬ Str.ofString g = Str.ofString f := fun z => h (ofString_inj z)
      refine ⟨w :: us, ?_, ?_, ?_⟩
      · unfold putFD
        rw [if_neg h, List.map_cons, List.zip_cons_cons, List.map_cons, List.zip_cons_cons]
        unfold putF
        rw [if_neg hne, e1]
      · unfold putFD
        rw [if_neg h]
        simpa using e2
      · unfold putFD
        rw [if_neg h]
        exact RelDs.cons r1 e3
def sStore (cs : List String) (f : String) (eve evo : Ev) : Sv := fun fr hb => match eve fr hb with
  | some (.ok d, hb1) => if d.isVal then (match evo fr hb1 with
    | some (.ok x, hb2) => (match rdO fr hb2 x with
      | some (.ins c fs vs) => if cs.contains c && decide (fs.length < 1000) then some (.nx (wrO x (.ins c (putFD fs vs f d).1 (putFD fs vs f d).2) fr hb2).1, (wrO x (.ins c (putFD fs vs f d).1 (putFD fs vs f d).2) fr hb2).2) else none
      | _ => none)
    | some (.exn z, hb2) => some (.ex z, hb2)
    | none => none) else none
  | some (.exn z, hb1) => some (.ex z, hb1)
  | none => none
theorem ss_store {cs : List String} {f : String} {fn : Str} (he : SE X W e eve) (ho : SE X W o evo) (hF : FldF X.K cs f) (hf : fn = Str.ofString f := by rfl) (hs : swapsWith e (some (.Attribute o fn pos')) pos.line X.env = pure false := by rfl) :
    SS X W G (.Assign [.Attribute o fn pos'] e pos) (sStore cs f eve evo) := by
  subst hf
  refine PS.mono (ps_fld ho he hs) fun D σ H h => ?_
  obtain ⟨m, hb, fr, r, hb', s, e, c⟩ := h
  unfold sStore at e
  show tE X.K W eve σ H fun y H1 => tE X.K W evo σ H1 fun x H2 => ∃ a C dx fs, x = .ref a ∧ H2 a = some (.ins C dx fs) ∧ Cls X.K C ∧ NoAttr X.K C (Str.ofString f) ∧ fs.length < 1000 ∧ D.nx σ (upd H2 a (.ins C dx (putF (Str.ofString f) y fs)))
  split at e
  · rename_i d hb1 e1
    split at e
    · rename_i hd
      refine s.ev' e1 fun m1 H1 v s1 k1 t1 rv => ?_
      split at e
      · rename_i x hb2 e2
        refine s1.ev' e2 fun m2 H2 vo s2 k2 t2 ro => ?_
        split at e
        · rename_i c0 fs vs e3
          split at e
          · rename_i hz
            rw [Bool.and_eq_true] at hz
            cases e
            obtain ⟨p, rfl, rb, hB, hwr⟩ := s2.wr (o' := .ins c0 (putFD fs vs f d).1 (putFD fs vs f d).2) ro e3
            obtain ⟨dx, ws, f1, l, rds⟩ := rb
            obtain ⟨us, g1, g2, g3⟩ := putFD_ok (f := f) ((rv.keep t2).val hd) l rds
            obtain ⟨c1, c2⟩ := hF c0 (by simpa using hz.1)
            refine ⟨p, _, dx, _, rfl, f1, c1, c2, ?_, ?_⟩
            · rw [List.length_zip, List.length_map]
              have := of_decide_eq_true hz.2
              omega
            · rw [g1]
              obtain ⟨s3, k3⟩ := hwr (.ins (He.ga X.K c0) dx (((putFD fs vs f d).1.map Str.ofString).zip us)) ⟨dx, us, upd_same, g2, g3.wr hB⟩
              exact c m2 _ σ s3 (k1.trans (k2.trans k3))
          · cases e
        · cases e
      · rename_i z hb2 e2
        cases e
        exact s1.ev' e2 fun m2 H2 C dd s2 k2 rx => c m2 H2 σ fr C dd s2 (k1.trans k2) rx
      · cases e
    · cases e
  · rename_i z hb1 e1
    cases e
    exact s.ev' e1 fun m1 H1 C dd s1 k1 rx => c m1 H1 σ fr C dd s1 k1 rx
  · cases e
/-! ### o.f, a property: nothing is raised -/
def gProp (c : String) (ev : FSem) : D → Ev := fun d fr hb => if d.isVal then (match insD fr hb d with
  | some (c', _, _) => if c' = c then (match ev [d] hb with
    | some (.ok x, hb1) => some (.ok x, hb1)
    | _ => none) else none
  | none => none) else none
theorem se_prop {c f : String} {fn : Str} {k : Nat} {p g : Addr} {fd : FuncData} {ps : List Str} {fev : FSem} (he : SE X W e ev) (cl : Cls X.K (He.ga X.K c)) (hp : PropOf X.K (He.ga X.K c) f p g) (F : FOk X.prog X.w X.K X.mg X.base k g fd ps fev) (hr : Room (k + 1) X.A) (hb : Binds X.K fd ps []) (hl : ps.length = 1)
    (hf : fn = Str.ofString f := by rfl) (hab : attributeBase e fn X.env (eval e X.env) = eval e X.env := by rfl) : SE X W (.Attribute e fn pos) (eBind ev (gProp c fev)) := by
  subst hf
  refine PE.mono (pe_prop (E := E0) he cl hp F hr hb .nil passL hab) fun σ H Q h => ?_
  show tE X.K W ev σ H fun x H1 => ∃ a dx fs, x = .ref a ∧ H1 a = some (.ins (He.ga X.K c) dx fs) ∧ spF X.K ps.length fev (.ref a :: []) H1 Q E0
  refine tE_bind1 h fun {M m hb fr x vx H2 r hb'} a rx e cc => ?_
  unfold gProp at e
  split at e
  · rename_i hv
    split at e
    · rename_i c' fs vs e1
      split at e
      · rename_i hc
        subst hc
        split at e
        · rename_i d hb1 e2
          cases e
          obtain ⟨q, dx, ws, rfl, f1, l, rr⟩ := insD_ok a rx e1
          refine ⟨q, dx, _, rfl, f1, M, m, hb, [x], .ok d, _, by rw [hl]; rfl, a.wd, RelDs.cons (rx.val hv) RelDs.nil', e2, fun m' H' s' v rv => cc m' H' s' v rv.t⟩
        · cases e
      · cases e
    · cases e
  · cases e
/-! ### o.m(..) -/
def tMethS (C : Addr) (m : Str) (sp : Sp) (E : St → XK) (ta : TE) (t : TA) : TE := fun σ H Q => ta σ H fun x H1 => ∃ a dx fs, x = .ref a ∧ H1 a = some (.ins C dx fs) ∧ fs.lookup m = none ∧ t σ H1 fun vs H2 => sp (x :: vs) H2 Q (E σ)
theorem pe_methSS {CX : CXT} {k : Nat} {f C : Addr} {fd : FuncData} {ps : List Str} {sp : Sp} {E : St → XK} {m : Str} {ta : TE} {t : TA} {pl : Sem Bool} (he : PE X o ta) (c : Cls X.K C) (hm : Meth X.K C m f)
    (F : FnOk X.prog X.w X.K X.mg X.base CX k f fd ps sp) (hr : Room k X.A) (hb : Binds X.K fd ps []) (hx : ∀ σ, PassesAt CX X σ (E σ)) (ha : PA X (e :: es) t)
    (hst : starEach (e :: es) X.env = (false, eval e X.env) :: starEach es X.env := by rfl) (hpl : (backTo pos (starEach es X.env)).any (·.1) = false := by rfl)
    (ht : eval (.Call (.Attribute o m apos) (e :: es) [] pos) X.env = (do
      let ov ← eval o X.env
      standAt apos.atName
      let (f, first) ← holding [ov] (getMethod ov m pl)
      callWith pos f first (backTo pos (starEach (e :: es) X.env)) (backToKw pos (keywordEach [] X.env))) := by rfl) :
    PE X (.Call (.Attribute o m apos) (e :: es) [] pos) (tMethS C m sp E ta t) := by
  refine ⟨fun pins s σ H Q I h => ?_⟩
  refine PySem.W.methodCall_KW (pl := pl) (thn (he.run pins s σ H _ I h) fun u s1 ⟨x, H1, I1, rx, a, dx, fs, ex, ea, l, q⟩ => ?_) ht
  subst ex
  obtain rfl : u = Value.ref a := rx
  refine getmeth_ok I1 ea c hm l ?_
  refine PySem.W.callWith_K (first := [.ref a]) (h₀ := X.base) I.ok.mod.kin hm.kp (thn (ha.run pos pins s1 σ H1 _ I1 q) fun us s2 ⟨vs, H2, I2, r, q2⟩ => ⟨I2.kIn, ?_⟩) hst hpl
  exact run_fnS (us := .ref a :: us) (vs := .ref a :: vs) F hr hb (hx σ) I2 (.cons rfl r) q2
theorem pe_methSS0 {CX : CXT} {k : Nat} {f C : Addr} {fd : FuncData} {ps : List Str} {sp : Sp} {E : St → XK} {m : Str} {ta : TE} {pl : Sem Bool} (he : PE X o ta) (c : Cls X.K C) (hm : Meth X.K C m f)
    (F : FnOk X.prog X.w X.K X.mg X.base CX k f fd ps sp) (hr : Room k X.A) (hb : Binds X.K fd ps []) (hx : ∀ σ, PassesAt CX X σ (E σ))
    (ht : eval (.Call (.Attribute o m apos) [] [] pos) X.env = (do
      let ov ← eval o X.env
      standAt apos.atName
      let (f, first) ← holding [ov] (getMethod ov m pl)
      callWith pos f first (backTo pos (starEach [] X.env)) (backToKw pos (keywordEach [] X.env))) := by rfl) :
    PE X (.Call (.Attribute o m apos) [] [] pos) (tMethS C m sp E ta tNil) := by
  refine ⟨fun pins s σ H Q I h => ?_⟩
  refine PySem.W.methodCall_KW (pl := pl) (thn (he.run pins s σ H _ I h) fun u s1 ⟨x, H1, I1, rx, a, dx, fs, ex, ea, l, q⟩ => ?_) ht
  subst ex
  obtain rfl : u = Value.ref a := rx
  refine getmeth_ok I1 ea c hm l ?_
  exact PySem.W.callWith_K0 (first := [.ref a]) I1.kIn hm.kp (run_fnS (us := [.ref a]) (vs := [.ref a]) F hr hb (hx σ) I1 (.cons rfl .nil) q)
def eMeth (c m : String) (n : Nat) (ev : FSem) (o : Ev) (es : Evs) : Ev := eBind o fun d fr hb => if d.isVal then (match insD fr hb d with
  | some (c', fs, _) => if c' = c && !fs.contains m then eL (fun ds _ hb => if allVal ds && decide (ds.length + 1 = n) then ev (d :: ds) hb else none) es fr hb else none
  | none => none) else none
theorem tE_meth {c m : String} {n : Nat} {fev : FSem} {σ : St} {H : Hp} {Q : VK} (h : tE X.K W (eMeth c m n fev evo evs) σ H Q) : tMethS (He.ga X.K c) (Str.ofString m) (spF X.K n fev) (fun σ => WE W σ) (tE X.K W evo) (tEs X.K W evs) σ H Q := by
  obtain ⟨M, m0, hb, fr, r0, hb', a, e0, cc⟩ := tE_un h
  show tE X.K W evo σ H fun x H1 => ∃ a dx fs, x = .ref a ∧ H1 a = some (.ins (He.ga X.K c) dx fs) ∧ fs.lookup (Str.ofString m) = none ∧ tEs X.K W evs σ H1 fun vs H2 => spF X.K n fev (x :: vs) H2 Q (WE W σ)
  refine tE_then a e0 cc fun m1 H1 hb1 d v s1 a1 rx e1 c1 => ?_
  split at e1
  · rename_i hv
    split at e1
    · rename_i c' fs vs e2
      split at e1
      · rename_i hc
        rw [Bool.and_eq_true, Bool.not_eq_true'] at hc
        have hc1 := of_decide_eq_true hc.1
        subst hc1
        obtain ⟨q, dx, ws, rfl, f1, l, rr⟩ := insD_ok a1 rx e2
        refine ⟨q, dx, _, rfl, f1, noF_ok hc.2, ?_⟩
        unfold eL at e1
        split at e1
        · rename_i ds hb2 e3
          refine ⟨M, m1, hb1, fr, .inl ds, hb2, a1.wd, a1.fr, e3, fun m2 H2 s2 us rv => ?_⟩
          dsimp only at e1
          split at e1
          · rename_i hz
            rw [Bool.and_eq_true] at hz
            have a2 := a1.step s2
            have z := pst_sp (n := n) a2 (by simpa using of_decide_eq_true hz.2) (RelDs.cons ((rx.keep s2).val hv) (rv.val hz.1)) e1 (c1.step s2)
            exact z
          · cases e1
        · rename_i x hb2 e3
          cases e1
          exact ⟨M, m1, hb1, fr, .inr x, _, a1.wd, a1.fr, e3, fun m2 H2 s2 => c1 m2 H2 s2⟩
        · cases e1
      · cases e1
    · cases e1
  · cases e1
variable {m : Str} {c mn : String} {k : Nat} {f : Addr} {fd : FuncData} {ps : List Str} {fev : FSem} {pl : Sem Bool}
theorem se_meth (he : SE X W o evo) (cl : Cls X.K (He.ga X.K c)) (hm : Meth X.K (He.ga X.K c) m f) (F : FOk X.prog X.w X.K X.mg X.base k f fd ps fev) (tk : Takes X W) (hr : Room k X.A) (hb : Binds X.K fd ps []) (ha : SEs X W (e :: es) evs) (hmn : m = Str.ofString mn := by rfl)
    (hst : starEach (e :: es) X.env = (false, eval e X.env) :: starEach es X.env := by rfl) (hpl : (backTo pos (starEach es X.env)).any (·.1) = false := by rfl)
    (ht : eval (.Call (.Attribute o m apos) (e :: es) [] pos) X.env = (do
      let ov ← eval o X.env
      standAt apos.atName
      let (f, first) ← holding [ov] (getMethod ov m pl)
      callWith pos f first (backTo pos (starEach (e :: es) X.env)) (backToKw pos (keywordEach [] X.env))) := by rfl) :
    SE X W (.Call (.Attribute o m apos) (e :: es) [] pos) (eMeth c mn ps.length fev evo evs) := by
  subst hmn
  exact PE.mono (pe_methSS (pl := pl) he cl hm F hr hb (fun σ => passAt tk σ) ha hst hpl ht) fun σ H Q h => tE_meth h
theorem se_meth0 (he : SE X W o evo) (cl : Cls X.K (He.ga X.K c)) (hm : Meth X.K (He.ga X.K c) m f) (F : FOk X.prog X.w X.K X.mg X.base k f fd ps fev) (tk : Takes X W) (hr : Room k X.A) (hb : Binds X.K fd ps []) (hmn : m = Str.ofString mn := by rfl)
    (ht : eval (.Call (.Attribute o m apos) [] [] pos) X.env = (do
      let ov ← eval o X.env
      standAt apos.atName
      let (f, first) ← holding [ov] (getMethod ov m pl)
      callWith pos f first (backTo pos (starEach [] X.env)) (backToKw pos (keywordEach [] X.env))) := by rfl) :
    SE X W (.Call (.Attribute o m apos) [] [] pos) (eMeth c mn ps.length fev evo eNil) := by
  subst hmn
  refine PE.mono (pe_methSS0 (pl := pl) he cl hm F hr hb (fun σ => passAt tk σ) ht) fun σ H Q h => ?_
  have z := tE_meth h
  show tE X.K W evo σ H fun x H1 => ∃ a dx fs, x = .ref a ∧ H1 a = some (.ins (He.ga X.K c) dx fs) ∧ fs.lookup (Str.ofString mn) = none ∧ spF X.K ps.length fev [x] H1 Q (WE W σ)
  obtain ⟨M, m, hb, fr, r, hb', w, f, e, cc⟩ := z
  refine ⟨M, m, hb, fr, r, hb', w, f, e, fun m1 H1 s1 => ?_⟩
  have z := cc m1 H1 s1
  cases r with
  | exn x => exact z
  | ok d =>
    intro v rv
    obtain ⟨a, dx, fs, h1, h2, h3, M2, m2, hb2, fr2, r2, hb3, w2, f2, e2, c2⟩ := z v rv
    cases e2
    exact ⟨a, dx, fs, h1, h2, h3, c2 m2 H1 (Stp.refl w2) [] rfl⟩
end
end DI
set_option Elab.async false
set_option linter.all false
set_option maxRecDepth 100000
namespace DI
open PySem PySem.Spec PyProof.Rows L2

/-! ### names by the scopes -/
theorem gl_sc {X : Cx} {sc : Scope} {x : Str} (h : X.env.scope = sc) (hk : sc.names.lookup x = some .globalImplicit) : Gl X x := by
  show X.env.scope.names.lookup x = _
  rw [h]; exact hk
def visB (sc : Scope) (x : Str) : Bool := match sc.names.lookup x with
  | some .local => true
  | some .cell => true
  | some .free => true
  | _ => false
def locB (sc : Scope) (x : Str) : Bool := match sc.names.lookup x with
  | some .local => true
  | some .cell => true
  | _ => false
theorem visB_ok {sc : Scope} {x : Str} (h : visB sc x = true) : Vis sc x := by
  unfold visB at h
  split at h
  · exact .inl ‹_›
  · exact .inr (.inl ‹_›)
  · exact .inr (.inr ‹_›)
  · cases h
theorem locB_ok {sc : Scope} {x : Str} (h : locB sc x = true) : Loc sc x := by
  unfold locB at h
  split at h
  · exact .inl ‹_›
  · exact .inr ‹_›
  · cases h
theorem vis_sc {X : Cx} {sc : Scope} {x : Str} (h : X.env.scope = sc) (hk : visB sc x = true) : Vis X.env.scope x := by rw [h]; exact visB_ok hk
theorem loc_sc {X : Cx} {sc : Scope} {x : Str} (h : X.env.scope = sc) (hk : locB sc x = true) : Loc X.env.scope x := by rw [h]; exact locB_ok hk
theorem relabel_lookup {scope : Scope} {env : Env} {x : Str} : (relabel scope env).names.lookup x = scope.names.lookup x ∨ (scope.names.lookup x = some .free ∧ (relabel scope env).names.lookup x = some .cell) := by
  unfold relabel
  show (scope.names.map _).lookup x = _ ∨ _
  induction scope.names with
  | nil => exact .inl rfl
  | cons p r ih =>
    obtain ⟨n, k⟩ := p
    rw [List.map_cons]
    by_cases hx : x = n
    · subst hx
      dsimp only
      split
      · rename_i hc
        rw [Bool.and_eq_true, Bool.and_eq_true] at hc
        have hk : k = .free := by simpa using hc.1.1
        subst hk
        exact .inr ⟨by simp, by simp [List.lookup_cons]⟩
      · exact .inl (by simp [List.lookup_cons])
    · have hb : (x == n) = false := by simpa using hx
      have e1 : ∀ (k' : NameKind) (l : List (Str × NameKind)), List.lookup x ((n, k') :: l) = List.lookup x l := fun k' l => by rw [List.lookup_cons, hb]
      dsimp only
      split
      · rw [e1, e1]; exact ih
      · rw [e1, e1]; exact ih
section
variable {X : Cx} {s : Shared} {H : Hp} {scope : Scope} {cl : List (Str × Addr)} {C : Addr} {fp : List Addr} {x : Str}
theorem gl_blk (hk : scope.names.lookup x = some .globalImplicit) : Gl (X.blk s H scope (compEnvC scope cl C X.env) fp) x := by
  show (relabel scope X.env).names.lookup x = _
  rcases relabel_lookup (scope := scope) (env := X.env) (x := x) with e | ⟨e, _⟩
  · rw [e]; exact hk
  · rw [hk] at e; cases e
theorem vis_blk (hk : visB scope x = true) : Vis (X.blk s H scope (compEnvC scope cl C X.env) fp).env.scope x := by
  show Vis (relabel scope X.env) x
  rcases relabel_lookup (scope := scope) (env := X.env) (x := x) with e | ⟨_, e⟩
  · have z := visB_ok hk
    unfold Vis at z ⊢
    rw [e]; exact z
  · exact .inr (.inl e)
theorem lcl_blk (hk : scope.names.lookup x = some .local) : (X.blk s H scope (compEnvC scope cl C X.env) fp).env.scope.names.lookup x = some .local := by
  show (relabel scope X.env).names.lookup x = _
  rcases relabel_lookup (scope := scope) (env := X.env) (x := x) with e | ⟨e, _⟩
  · rw [e]; exact hk
  · rw [hk] at e; cases e
end
/-! ### what is not walked -/
theorem ss_no {X : Cx} {W : WX} {G : Gh} {st : Stmt} : SS X W G st (fun _ _ => none) := ⟨fun pins s σ H D I h => by
  obtain ⟨m, hb, fr, r, hb', s', e, c⟩ := h
  cases e⟩
theorem sss_no {X : Cx} {W : WX} {G : Gh} {st : List Stmt} : SSs X W G st (fun _ _ => none) := ⟨fun pins s σ H D I h => by
  obtain ⟨m, hb, fr, r, hb', s', e, c⟩ := h
  cases e⟩
theorem se_no {X : Cx} {W : WX} {e : Expr} : SE X W e (fun _ _ => none) := ⟨fun pins s σ H Q I h => by
  obtain ⟨M, m, hb, fr, r, hb', w, f, e, c⟩ := h
  cases e⟩
end DI
set_option Elab.async false
set_option linter.all false
set_option maxRecDepth 100000
namespace DI
open PySem PySem.Spec PyProof.Rows L2

section
variable {X : Cx} {W : WX} {a b : Expr} {eva evb : Ev} {pos : Pos}
/-! ### -x -/
def gNeg : D → Ev := fun x fr hb => match x with
  | .int i => some (.ok (.int (-i)), hb)
  | _ => none
theorem se_neg (ha : SE X W a eva) : SE X W (.UnaryOp .USub a pos) (eBind eva gNeg) :=
  PE.mono (pe_un un_neg ha) fun σ H Q h => by
    show tE X.K W eva σ H fun x H1 => ∃ i, x = .int i ∧ Q (.int (-i)) H1
    refine tE_bind1 h fun {M m hb fr x vx H2 r hb'} a rx e c => ?_
    unfold gNeg at e
    split at e
    · cases e
      rw [vInt_ok rx]
      exact ⟨_, rfl, c.done a rInt⟩
    · cases e
/-! ### dicts of texts compared -/
def rEqDS : R2 := fun x y H Q => ∃ (a b : Addr) (ks ls : List (Key × V)), x = .ref a ∧ y = .ref b ∧ H a = some (.dK ks) ∧ H b = some (.dK ls) ∧ (∀ p ∈ ks, ∃ z, p.2 = .str z) ∧ (∀ p ∈ ls, ∃ z, p.2 = .str z) ∧ Q (.bl (ks.length == ls.length && ks.all fun p => decide (valV ls p.1 = some p.2))) H
theorem hits_str {A : Around} {s : Shared} {ls : List (Key × V)} {vb : List (Key × Value)} (rb : KV ls vb) (hs : ∀ p ∈ ls, ∃ z, p.2 = V.str z) {ks : List (Key × V)} {va : List (Key × Value)} (ra : KV ks va) :
    (∀ p ∈ ks, ∃ z, p.2 = V.str z) → PySem.W.KeqHits A s vb va (ks.all fun p => decide (valV ls p.1 = some p.2)) := by
  unfold KV at ra
  induction ra with
  | nil => intro _; exact .nil
  | @cons p q ps qs h t ih =>
    intro hp
    obtain ⟨h1, h2⟩ := h
    obtain ⟨k, v⟩ := q
    have h1' : p.1 = k := h1
    obtain ⟨z, hz⟩ := hp p List.mem_cons_self
    have ih' := ih fun p' hm => hp p' (List.mem_cons_of_mem _ hm)
    have rr := rb.val p.1
    rw [List.all_cons]
    rw [h1'] at rr ⊢
    cases e : valV ls k with
    | none =>
      rw [e] at rr
      have hn : valueAt vb k = none := RelO.none_of rr
      have : decide ((none : Option V) = some p.2) = false := by simp
      rw [this, Bool.false_and]
      exact .miss hn
    | some y =>
      rw [e] at rr
      obtain ⟨u, hu, ru⟩ := RelO.some_of rr
      have hy : ∃ z', y = V.str z' := by
        unfold valV at e
        cases hf : ls.find? (fun kv => decide (kv.1 = k)) with
        | none => rw [hf] at e; cases e
        | some kv =>
          rw [hf] at e
          cases e
          exact hs kv (List.mem_of_find?_eq_some hf)
      obtain ⟨z', rfl⟩ := hy
      obtain ⟨t', rfl⟩ := ru
      rw [hz] at h2 ⊢
      obtain ⟨t, rfl⟩ := h2
      have : decide (some (V.str z') = some (V.str z)) = (z == z') := by
        by_cases q : z = z'
        · subst q; simp
        · have : ¬ z' = z := fun w => q w.symm
          simp [q, this]
      rw [this]
      exact .hit hu (PySem.SeqAt.EqAt.str_str z t z' t') ih'
theorem op_eqDS (hu : X.A.units < cLine) : OpR X (compareOp .Eq) rEqDS := by
  intro pins s σ H x y v u Q I rx ry h
  obtain ⟨a, b, ks, ls, rfl, rfl, ea, eb, h1, h2, q⟩ := h
  obtain rfl : v = Value.ref a := rx
  obtain rfl : u = Value.ref b := ry
  obtain ⟨_, ya, va, ra, da⟩ := (show ObjOk X.prog X.w H s.heap a (.dK ks) from I.hok a _ ea)
  obtain ⟨_, yb, vb, rb, db⟩ := (show ObjOk X.prog X.w H s.heap b (.dK ls) from I.hok b _ eb)
  have hl1 : va.length = ks.length := ra.length.symm
  have hl2 : vb.length = ls.length := rb.length.symm
  exact PySem.W.keq_eq (knd := mixKind X.prog X.w) ya yb da db hu (fun _ => hits_str rb h2 ra h1) (fin_bl I q (by rw [hl1, hl2]))
end
end DI
set_option Elab.async false
set_option linter.all false
set_option maxRecDepth 100000
namespace DI
open PySem PySem.Spec PyProof.Rows L2

/-! ### a class's own __len__, __repr__, __contains__, __eq__: nothing is raised -/
section
variable {X : Cx} {W : WX} {pins : List (Addr × Obj)} {σ : St} {H : Hp} {s : Shared} {k : Nat} {C g : Addr} {fd : FuncData} {ps : List Str} {sp : Sp}
theorem run_below {A : Around} {E' : Value → Shared → Prop} {Q : VK} {us : List Value} {vs : List V} (F : FnOk X.prog X.w X.K X.mg X.base (L2.CX X.prog X.w) k g fd ps sp) (hr : Room k A) (e0 : Env0 X.prog X.w X.K X.mg X.base A X.stack s H) (hb : Binds X.K fd ps []) (I : Inv X pins σ H s) (r : Vals vs us) (h : sp vs H Q E0) :
    wpAny (model X.prog X.w) A (call (.ref g) us) (EP X pins σ Q) E' s := by
  have hl : us.length = ps.length := by rw [← r.length]; exact F.len _ _ _ _ h
  have hb' := hb s us I.kIn (by rw [List.append_nil]; exact hl)
  rw [List.append_nil] at hb'
  refine wpAny_call (codeAny_mono (F.run A X.stack s H ⟨us, []⟩ us vs Q E0 hr e0 hb' r h) fun r s' hq => ?_)
  cases r with
  | error e => exact False.elim (passL (X := X.nox) pins σ H s e s' (I.wish _) hq)
  | ok fl =>
    cases fl with
    | ret u => exact I.after hq
    | next => exact False.elim hq
    | brk => exact False.elim hq
    | cont => exact False.elim hq
/-- the method named n of the class at C is the def at g -/
structure Dun (K : PySem.W.Frag) (C g : Addr) (n : Str) : Prop where
  at_ : PySem.W.findIn K (.ref C) n = some (some (.ref g))
  fn : PySem.W.isFn K (.ref g) = true
theorem Meth.dun {K : PySem.W.Frag} {C g : Addr} {n : Str} (m : Meth K C n g) : Dun K C g n := ⟨m.at_, m.fn⟩
def rLenI (C : Addr) (sp : Sp) : List V → Hp → VK → Prop := fun xs H Q => ∃ a dx fs, xs = [V.ref a] ∧ H a = some (.ins C dx fs) ∧ sp [.ref a] H (fun z H' => ∃ n : Int, z = .int n ∧ 0 ≤ n ∧ n < 2 ^ 63 ∧ Q (.int n) H') E0
theorem cr_lenI (hd : Dun X.K C g "__len__") (F : FnOk X.prog X.w X.K X.mg X.base (L2.CX X.prog X.w) k g fd ps sp) (hr : Room (k + 1) X.A) (hb : Binds X.K fd ps []) : CallR X (.builtin "len") (rLenI C sp) := by
  intro pins s σ H xs us Q I r h
  obtain ⟨a, dx, fs, rfl, ea, q⟩ := h
  obtain rfl := Vals.ref1 r
  obtain ⟨mA, O, _, _, _, _⟩ := ins_get I.hok ea
  obtain ⟨od, J, _⟩ := O.look
  obtain ⟨m, hF⟩ := I.fr
  refine PySem.W.len_K hF I.ok.mod.kin J hd.at_ hd.fn (wpAny_mono (run_below (us := [.ref a]) (vs := [.ref a]) F hr.in1 I.env0.in1 hb I (.cons rfl .nil) q) (fun v s' z => ?_) fun _ _ x => x)
  obtain ⟨z, H', I', rz, n, rfl, h0, h1, qz⟩ := z
  obtain ⟨t, rfl⟩ := rz
  exact ⟨⟨h0, h1⟩, .int n, H', I'.tok _, ⟨_, rfl⟩, qz⟩
def rReprI (C : Addr) (sp : Sp) : List V → Hp → VK → Prop := fun xs H Q => ∃ a dx fs, xs = [V.ref a] ∧ H a = some (.ins C dx fs) ∧ sp [.ref a] H (fun z H' => ∃ n : Str, z = .str n ∧ Q (.str n) H') E0
theorem cr_reprI (hd : Dun X.K C g "__repr__") (F : FnOk X.prog X.w X.K X.mg X.base (L2.CX X.prog X.w) k g fd ps sp) (hr : Room (k + 1) X.A) (hb : Binds X.K fd ps []) : CallR X (.builtin "repr") (rReprI C sp) := by
  intro pins s σ H xs us Q I r h
  obtain ⟨a, dx, fs, rfl, ea, q⟩ := h
  obtain rfl := Vals.ref1 r
  obtain ⟨mA, O, _, _, _, _⟩ := ins_get I.hok ea
  obtain ⟨od, J, _⟩ := O.look
  obtain ⟨m, hF⟩ := I.fr
  refine PySem.W.repr_K hr.in1.units0 hF I.ok.mod.kin J hd.at_ hd.fn (wpAny_mono (run_below (us := [.ref a]) (vs := [.ref a]) F hr.in1 I.env0.in1 hb I (.cons rfl .nil) q) (fun v s' z => ?_) fun _ _ x => x)
  obtain ⟨z, H', I', rz, n, rfl, qz⟩ := z
  obtain ⟨t, rfl⟩ := rz
  exact ⟨.str n, H', I', ⟨_, rfl⟩, qz⟩
def rInI (C : Addr) (neg : Bool) (sp : Sp) : R2 := fun x y H Q => ∃ a dx fs, y = V.ref a ∧ H a = some (.ins C dx fs) ∧ sp [y, x] H (fun z H' => ∃ b, z = .bl b ∧ Q (.bl (neg != b)) H') E0
theorem op_inI (hd : Dun X.K C g "__contains__") (F : FnOk X.prog X.w X.K X.mg X.base (L2.CX X.prog X.w) k g fd ps sp) (hr : Room k X.A) (hb : Binds X.K fd ps []) : OpR X (compareOp .In) (rInI C false sp) := by
  intro pins s σ H x y v u Q I rx ry h
  obtain ⟨a, dx, fs, rfl, ea, q⟩ := h
  obtain rfl : u = Value.ref a := ry
  obtain ⟨mA, O, _, _, _, _⟩ := ins_get I.hok ea
  obtain ⟨od, J, _⟩ := O.look
  obtain ⟨m, hF⟩ := I.fr
  refine PySem.W.in_K hF I.ok.mod.kin J hd.at_ hd.fn (wpAny_mono (run_below (us := [.ref a, v]) (vs := [.ref a, x]) F hr I.env0 hb I (.cons rfl (.cons rx .nil)) q) (fun w s' z => ?_) fun _ _ x => x)
  obtain ⟨z, H', I', rz, b, rfl, qz⟩ := z
  obtain rfl : w = Value.bool b := rz
  exact wpAny_truthy_bool ⟨.bl b, H', I', rfl, by simpa using qz⟩
theorem op_notInI (hd : Dun X.K C g "__contains__") (F : FnOk X.prog X.w X.K X.mg X.base (L2.CX X.prog X.w) k g fd ps sp) (hr : Room k X.A) (hb : Binds X.K fd ps []) : OpR X (compareOp .NotIn) (rInI C true sp) := by
  intro pins s σ H x y v u Q I rx ry h
  obtain ⟨a, dx, fs, rfl, ea, q⟩ := h
  obtain rfl : u = Value.ref a := ry
  obtain ⟨mA, O, _, _, _, _⟩ := ins_get I.hok ea
  obtain ⟨od, J, _⟩ := O.look
  obtain ⟨m, hF⟩ := I.fr
  refine PySem.W.notIn_K hF I.ok.mod.kin J hd.at_ hd.fn (wpAny_mono (run_below (us := [.ref a, v]) (vs := [.ref a, x]) F hr I.env0 hb I (.cons rfl (.cons rx .nil)) q) (fun w s' z => ?_) fun _ _ x => x)
  obtain ⟨z, H', I', rz, b, rfl, qz⟩ := z
  obtain rfl : w = Value.bool b := rz
  exact wpAny_truthy_bool ⟨.bl (!b), H', I', rfl, by simpa using qz⟩
def rEqI (K : PySem.W.Frag) (C : Addr) (sp : Sp) : R2 := fun x y H Q => ∃ a dx fs t, x = V.ref a ∧ H a = some (.ins C dx fs) ∧ TyX K H y t ∧ PySem.W.notFirst K C t = true ∧ sp [x, y] H (fun z H' => ∃ b, z = .bl b ∧ Q (.bl b) H') E0
theorem op_eqI (hd : Dun X.K C g "__eq__") (F : FnOk X.prog X.w X.K X.mg X.base (L2.CX X.prog X.w) k g fd ps sp) (hr : Room k X.A) (hb : Binds X.K fd ps []) : OpR X (compareOp .Eq) (rEqI X.K C sp) := by
  intro pins s σ H x y v u Q I rx ry h
  obtain ⟨a, dx, fs, t, rfl, ea, ty, nf, q⟩ := h
  obtain rfl : v = Value.ref a := rx
  obtain ⟨mA, O, _, _, _, _⟩ := ins_get I.hok ea
  obtain ⟨od, J, _⟩ := O.look
  obtain ⟨m, hF⟩ := I.fr
  obtain ⟨P, Z, p, hx⟩ := kit_of I ry ty
  refine PySem.W.cmp_K (op := .Eq) (tb := t) hr.units0 hF I.ok.mod.kin J (Z.ty _ _ I.kIn p) nf hd.at_ hd.fn ?_
  refine wpAny_mono (run_below (us := [.ref a, u]) (vs := [.ref a, y]) F hr I.env0 hb I (.cons rfl (.cons ry .nil)) q) (fun w s' z => ?_) fun _ _ x => x
  obtain ⟨z, H', I', rz, b, rfl, qz⟩ := z
  obtain rfl : w = Value.bool b := rz
  exact ⟨.bl b, H', I', rfl, qz⟩
end
end DI
set_option Elab.async false
set_option linter.all false
set_option maxRecDepth 100000
namespace DI
open PySem PySem.Spec PyProof.Rows L2

section
variable {X : Cx} {W : WX} {a b : Expr} {eva evb : Ev} {pos : Pos}
/-! ### == of dicts of texts (else of data) -/
def dctEq (ks vs ls ws : List D) : Bool := (ks.length == ls.length) && (List.zip ks vs).all fun p => match getD ls ws p.1 with
  | some w => kEq w p.2
  | none => false
def txtOnly (vs : List D) : Bool := (tDs vs).isSome
def gEqX (x y : D) : Ev := fun fr hb => match vDct fr hb x, vDct fr hb y with
  | some (ks, vs), some (ls, ws) => if (ks.all D.isKey && ls.all D.isKey) && (txtOnly vs && txtOnly ws) && (decide (ks.length = vs.length) && decide (ls.length = ws.length)) then some (.ok (.bl (dctEq ks vs ls ws)), hb) else none
  | _, _ => gEq x y fr hb
theorem txt_vals {K : PySem.W.Frag} {B : Addr → Prop} {m : List Addr} {H : Hp} {vs : List D} {kvs : List (Key × V)} (h : txtOnly vs = true) (r : RelDs K B m H vs (kvs.map (·.2))) : ∀ p ∈ kvs, ∃ z, p.2 = V.str z := by
  obtain ⟨ts, e⟩ := Option.isSome_iff_exists.mp h
  have e2 := tDs_ok e r
  intro p hp
  have : p.2 ∈ kvs.map (·.2) := List.mem_map.mpr ⟨p, hp, rfl⟩
  rw [e2] at this
  obtain ⟨s, _, q⟩ := List.mem_map.mp this
  exact ⟨strC s, q.symm⟩
theorem relD_str {K : PySem.W.Frag} {B : Addr → Prop} {m : List Addr} {H : Hp} {w : D} {z : Str} (ru : RelD K B m H w (V.str z)) : ∃ t, w = .str t ∧ z = strC t := by
  match w, ru with
  | .str x, ru => unfold RelD at ru; exact ⟨_, rfl, by injection ru⟩
  | .non, ru => unfold RelD at ru; cases ru
  | .bl _, ru => unfold RelD at ru; cases ru
  | .int _, ru => unfold RelD at ru; cases ru
  | .rf _, ru => unfold RelD at ru; cases ru
  | .ty _, ru => unfold RelD at ru; cases ru
  | .loc _, ru => unfold RelD at ru; exact ru.elim
  | .box _, ru => unfold RelD at ru; obtain ⟨_, h, _⟩ := ru; cases h
  | .tup _, ru => unfold RelD at ru; obtain ⟨_, _, h, _⟩ := ru; cases h
  | .lst _, ru => unfold RelD at ru; obtain ⟨_, _, h, _⟩ := ru; cases h
  | .fz _, ru => unfold RelD at ru; obtain ⟨_, _, h, _⟩ := ru; cases h
  | .dct _ _, ru => unfold RelD at ru; obtain ⟨_, _, h, _⟩ := ru; cases h
  | .ins _ _ _, ru => unfold RelD at ru; obtain ⟨_, _, _, h, _⟩ := ru; cases h
theorem dctEq_ok {K : PySem.W.Frag} {B : Addr → Prop} {m : List Addr} {H : Hp} {ls ws : List D} {kls : List (Key × V)} (hl : KeysK ls kls) (hlw : ls.length = ws.length) (rw' : RelDs K B m H ws (kls.map (·.2))) (tw : ∀ p ∈ kls, ∃ z, p.2 = V.str z) :
    ∀ {ks vs : List D} {kks : List (Key × V)}, KeysK ks kks → RelDs K B m H vs (kks.map (·.2)) → txtOnly vs = true → ((List.zip ks vs).all fun p => match getD ls ws p.1 with
      | some w => kEq w p.2
      | none => false) = kks.all fun p => decide (valV kls p.1 = some p.2)
  | [], vs, _, .nil, r, _ => by simp
  | d :: ks, vs, (k, v) :: kks, .cons h1 h2, r, tv => by
    match vs, r, tv with
    | [], r, _ => exact absurd (RelDs.nil_iff.mp r) (by simp)
    | x :: vs, r, tv =>
      obtain ⟨v', r', e, r1, r2⟩ := RelDs.cons_inv r
      have e1 : v = v' ∧ kks.map (·.2) = r' := by simpa using e
      obtain ⟨rfl, rfl⟩ := e1
      have tx : ∃ s, x = .str s ∧ txtOnly vs = true := by
        cases x <;> simp [txtOnly, tDs] at tv
        refine ⟨_, rfl, ?_⟩
        unfold txtOnly
        cases q : tDs vs with
        | none => rw [q] at tv; simp at tv
        | some t => rfl
      obtain ⟨s, rfl, tv'⟩ := tx
      have hv : v = V.str (strC s) := by unfold RelD at r1; exact r1
      subst hv
      rw [List.zip_cons_cons, List.all_cons, List.all_cons, dctEq_ok hl hlw rw' tw h2 r2 tv']
      have gg := getD_ok h1 hl hlw K B m H rw'
      congr 1
      cases q : getD ls ws d with
      | none =>
        have := gg.2 q
        simp [q, this]
      | some w =>
        obtain ⟨u, e4, ru⟩ := gg.1 w q
        obtain ⟨z, rfl⟩ : ∃ z, u = V.str z := by
          unfold valV at e4
          cases hf : kls.find? (fun kv => decide (kv.1 = k)) with
          | none => rw [hf] at e4; cases e4
          | some kv =>
            rw [hf] at e4
            cases e4
            exact tw kv (List.mem_of_find?_eq_some hf)
        rw [e4]
        have hw := relD_str ru
        obtain ⟨t, rfl, rfl⟩ := hw
        show kEq (.str t) (.str s) = _
        unfold kEq
        by_cases hts : t = s
        · subst hts; simp
        · have : ¬ strC t = strC s := fun w => hts (strC_inj w)
          simp [hts, this]
theorem snd_eqX {k : Nat} : Snd2 X W (fun x y H Q => rEqDS x y H Q ∨ rEqD X.K x y H Q) gEqX := by
  intro M m hb fr σ H x y vx vy res hb' Q a rx ry e c
  unfold gEqX at e
  split at e
  · rename_i ks vs ls ws e1 e2
    split at e
    · rename_i hz
      rw [Bool.and_eq_true, Bool.and_eq_true, Bool.and_eq_true, Bool.and_eq_true, Bool.and_eq_true] at hz
      obtain ⟨⟨⟨h1, h2⟩, ⟨h3, h4⟩⟩, ⟨h5, h6⟩⟩ := hz
      cases e
      obtain ⟨p, kks, rfl, f1, k1, r1⟩ := vDct_no a rx e1 h1
      obtain ⟨q, kls, rfl, f2, k2, r2⟩ := vDct_no a ry e2 h2
      refine .inl ⟨p, q, kks, kls, rfl, rfl, f1, f2, txt_vals h3 r1, txt_vals h4 r2, ?_⟩
      have e3 : dctEq ks vs ls ws = (kks.length == kls.length && kks.all fun p => decide (valV kls p.1 = some p.2)) := by
        unfold dctEq
        rw [k1.len, k2.len, dctEq_ok k2 (of_decide_eq_true h6) r2 (txt_vals h4 r2) k1 r1 h3]
      rw [← e3]
      exact c.done a rBl
    · cases e
  · exact .inr (snd_eq (k := k) (W := W) a rx ry e c)
theorem se_eqx {k : Nat} (hr : Room k X.A) (ha : SE X W a eva) (hb : SE X W b evb) : SE X W (.Compare a [.Eq] [b] pos) (eOp2 gEqX eva evb) :=
  se_cmp (OpR.or (op_eqDS hr.units0) (op_eqD hr.units)) (snd_eqX (k := 0)) ha hb (nobehind _ (by decide) (by decide))
theorem st_eqx {k : Nat} (hr : Room k X.A) (ha : SE X W a eva) (hb : SE X W b evb) : ST X W (.Compare a [.Eq] [b] pos) (eOp2 gEqX eva evb) :=
  st_cmp (OpR.or (op_eqDS hr.units0) (op_eqD hr.units)) (snd_eqX (k := 0)) ha hb (nobehind _ (by decide) (by decide))
end
end DI
set_option Elab.async false
set_option linter.all false
set_option maxRecDepth 100000
namespace DI
open PySem PySem.Spec PyProof.Rows L2

/-! ### own len, repr, in, == by their defs -/
def oneI (c : String) (fev : FSem) (d : D) (as : List D) (k : D → HB → Option (R × HB)) : Ev := fun fr hb => if allVal as && d.isVal then (match insD fr hb d with
  | some (c', _, _) => if c' = c then (match fev as hb with
    | some (.ok x, hb1) => k x hb1
    | _ => none) else none
  | none => none) else none
theorem oneI_ok {c : String} {fev : FSem} {d : D} {as : List D} {k : D → HB → Option (R × HB)} {fr : Fr} {hb : HB} {r : R} {hb' : HB} (h : oneI c fev d as k fr hb = some (r, hb')) : allVal as = true ∧ d.isVal = true ∧ (∃ fs vs, insD fr hb d = some (c, fs, vs)) ∧ ∃ x hb1, fev as hb = some (.ok x, hb1) ∧ k x hb1 = some (r, hb') := by
  unfold oneI at h
  split at h
  · rename_i hv
    rw [Bool.and_eq_true] at hv
    split at h
    · rename_i c' fs vs e1
      split at h
      · rename_i hc
        subst hc
        split at h
        · rename_i x hb1 e2
          exact ⟨hv.1, hv.2, ⟨fs, vs, e1⟩, x, hb1, e2, h⟩
        · cases h
      · cases h
    · cases h
  · cases h
def kLen (x : D) (hb : HB) : Option (R × HB) := match x with
  | .int n => if decide (0 ≤ n) && decide (n < 9223372036854775808) then some (.ok (.int n), hb) else none
  | _ => none
def kStr (x : D) (hb : HB) : Option (R × HB) := match x with
  | .str n => some (.ok (.str n), hb)
  | _ => none
def kBl (neg : Bool) (x : D) (hb : HB) : Option (R × HB) := match x with
  | .bl b => some (.ok (.bl (neg != b)), hb)
  | _ => none
def gLenI (c : String) (fev : FSem) : List D → Ev := fun ds => match ds with
  | [d] => oneI c fev d [d] kLen
  | _ => fun _ _ => none
def gReprI (c : String) (fev : FSem) : List D → Ev := fun ds => match ds with
  | [d] => oneI c fev d [d] kStr
  | _ => fun _ _ => none
def gInI (c : String) (neg : Bool) (fev : FSem) : D → D → Ev := fun x y => oneI c fev y [y, x] (kBl neg)
def nfB (K : PySem.W.Frag) (c : String) (cs : List String) : Bool := (bTys.all fun t => PySem.W.notFirst K (He.ga K c) (.type t)) && (cs.all fun d => PySem.W.notFirst K (He.ga K c) (.ref (He.ga K d)))
theorem nfB_ok {K : PySem.W.Frag} {c : String} {cs : List String} (h : nfB K c cs = true) {t : TyN} (ht : okT cs t = true) : PySem.W.notFirst K (He.ga K c) (t.v K) = true := by
  unfold nfB at h
  rw [Bool.and_eq_true] at h
  cases t with
  | b t => exact List.all_eq_true.mp h.1 t (by simpa [okT] using ht)
  | o t => exact List.all_eq_true.mp h.2 t (by simpa [okT] using ht)
def gEqI (c : String) (cs : List String) (fev : FSem) : D → D → Ev := fun x y fr hb => match tyN fr hb y with
  | some t => if okT cs t then oneI c fev x [x, y] (kBl false) fr hb else none
  | none => none
section
variable {X : Cx} {W : WX} {a b : Expr} {eva evb : Ev} {pos : Pos} {c : String} {k : Nat} {g : Addr} {fd : FuncData} {ps : List Str} {fev : FSem}
theorem relTs_one {M : Addr → Prop} {m : List Addr} {H : Hp} {fr : Fr} {σ : St} {d : D} {vs : List V} (r : RelTs X.K M m H fr σ [d] vs) : ∃ v, vs = [v] ∧ RelT X.K M m H fr σ d v := by
  obtain ⟨v, w, e, h1, h2⟩ := r
  have h2' : w = [] := h2
  subst h2'
  exact ⟨v, e, h1⟩
theorem snd_lenI (hl : ps.length = 1) : SndL X W (rLenI (He.ga X.K c) (spF X.K ps.length fev)) (gLenI c fev) := by
  intro M m hb fr σ H ds vs res hb' Q a rv e cc
  unfold gLenI at e
  split at e
  · rename_i d
    obtain ⟨h1, hv, ⟨fs, us, e1⟩, x, hb1, e2, e3⟩ := oneI_ok e
    obtain ⟨v, rfl, rx⟩ := relTs_one rv
    obtain ⟨q, dx, ws, rfl, f1, l, rr⟩ := insD_ok a rx e1
    unfold kLen at e3
    split at e3
    · rename_i n
      split at e3
      · rename_i hz
        rw [Bool.and_eq_true] at hz
        cases e3
        refine ⟨q, dx, _, rfl, f1, M, m, hb, [d], .ok (.int n), _, by rw [hl]; rfl, a.wd, RelDs.cons (rx.val hv) RelDs.nil', e2, fun m' H' s' v rv => ?_⟩
        have : v = .int n := by unfold RelD at rv; exact rv
        subst this
        exact ⟨n, rfl, of_decide_eq_true hz.1, of_decide_eq_true hz.2, cc m' H' s' _ rv.t⟩
      · cases e3
    · cases e3
  · cases e
theorem snd_reprI (hl : ps.length = 1) : SndL X W (rReprI (He.ga X.K c) (spF X.K ps.length fev)) (gReprI c fev) := by
  intro M m hb fr σ H ds vs res hb' Q a rv e cc
  unfold gReprI at e
  split at e
  · rename_i d
    obtain ⟨h1, hv, ⟨fs, us, e1⟩, x, hb1, e2, e3⟩ := oneI_ok e
    obtain ⟨v, rfl, rx⟩ := relTs_one rv
    obtain ⟨q, dx, ws, rfl, f1, l, rr⟩ := insD_ok a rx e1
    unfold kStr at e3
    split at e3
    · rename_i n
      cases e3
      refine ⟨q, dx, _, rfl, f1, M, m, hb, [d], .ok (.str n), _, by rw [hl]; rfl, a.wd, RelDs.cons (rx.val hv) RelDs.nil', e2, fun m' H' s' v rv => ?_⟩
      have : v = .str (strC n) := by unfold RelD at rv; exact rv
      subst this
      exact ⟨_, rfl, cc m' H' s' _ rv.t⟩
    · cases e3
  · cases e
theorem two_isVal {x y : D} (h : allVal [x, y] = true) : x.isVal = true ∧ y.isVal = true := by
  simpa [allVal] using h
theorem snd_inI (neg : Bool) (hl : ps.length = 2) : Snd2 X W (rInI (He.ga X.K c) neg (spF X.K ps.length fev)) (gInI c neg fev) := by
  intro M m hb fr σ H x y vx vy res hb' Q a rx ry e cc
  unfold gInI at e
  obtain ⟨h1, hv, ⟨fs, us, e1⟩, z, hb1, e2, e3⟩ := oneI_ok e
  obtain ⟨q, dx, ws, rfl, f1, l, rr⟩ := insD_ok a ry e1
  unfold kBl at e3
  split at e3
  · rename_i n
    cases e3
    refine ⟨q, dx, _, rfl, f1, M, m, hb, [y, x], .ok (.bl n), _, by rw [hl]; rfl, a.wd, RelDs.cons (ry.val hv) (RelDs.cons (rx.val (two_isVal h1).2) RelDs.nil'), e2, fun m' H' s' v rv => ?_⟩
    have : v = .bl n := by unfold RelD at rv; exact rv
    subst this
    exact ⟨n, rfl, cc m' H' s' _ (by show RelD _ _ _ _ _ _; unfold RelD; rfl)⟩
  · cases e3
theorem snd_eqI {cs : List String} (hk : isiB X.K cs = true) (hn : nfB X.K c cs = true) (hl : ps.length = 2) : Snd2 X W (rEqI X.K (He.ga X.K c) (spF X.K ps.length fev)) (gEqI c cs fev) := by
  intro M m hb fr σ H x y vx vy res hb' Q a rx ry e cc
  unfold gEqI at e
  split at e
  · rename_i t e0
    split at e
    · rename_i ht
      obtain ⟨h1, hv, ⟨fs, us, e1⟩, z, hb1, e2, e3⟩ := oneI_ok e
      obtain ⟨q, dx, ws, rfl, f1, l, rr⟩ := insD_ok a rx e1
      unfold kBl at e3
      split at e3
      · rename_i n
        cases e3
        refine ⟨q, dx, _, _, rfl, f1, tyN_ok hk a ry e0 ht, nfB_ok hn ht, M, m, hb, [x, y], .ok (.bl n), _, by rw [hl]; rfl, a.wd, RelDs.cons (rx.val hv) (RelDs.cons (ry.val (two_isVal h1).2) RelDs.nil'), e2, fun m' H' s' v rv => ?_⟩
        have : v = .bl n := by unfold RelD at rv; exact rv
        subst this
        exact ⟨n, rfl, cc m' H' s' _ (by show RelD _ _ _ _ _ _; unfold RelD; cases n <;> rfl)⟩
      · cases e3
    · cases e
  · cases e
theorem se_inI (hd : Dun X.K (He.ga X.K c) g "__contains__") (F : FOk X.prog X.w X.K X.mg X.base k g fd ps fev) (hr : Room k X.A) (hbd : Binds X.K fd ps []) (hl : ps.length = 2) (ha : SE X W a eva) (hb : SE X W b evb) (hm : behindInMarks .In b = false := by rfl) : SE X W (.Compare a [.In] [b] pos) (eOp2 (gInI c false fev) eva evb) :=
  se_cmp (op_inI hd F hr hbd) (snd_inI false hl) ha hb hm
theorem st_inI (hd : Dun X.K (He.ga X.K c) g "__contains__") (F : FOk X.prog X.w X.K X.mg X.base k g fd ps fev) (hr : Room k X.A) (hbd : Binds X.K fd ps []) (hl : ps.length = 2) (ha : SE X W a eva) (hb : SE X W b evb) (hm : behindInMarks .In b = false := by rfl) : ST X W (.Compare a [.In] [b] pos) (eOp2 (gInI c false fev) eva evb) :=
  st_cmp (op_inI hd F hr hbd) (snd_inI false hl) ha hb hm
theorem se_ninI (hd : Dun X.K (He.ga X.K c) g "__contains__") (F : FOk X.prog X.w X.K X.mg X.base k g fd ps fev) (hr : Room k X.A) (hbd : Binds X.K fd ps []) (hl : ps.length = 2) (ha : SE X W a eva) (hb : SE X W b evb) (hm : behindInMarks .NotIn b = false := by rfl) : SE X W (.Compare a [.NotIn] [b] pos) (eOp2 (gInI c true fev) eva evb) :=
  se_cmp (op_notInI hd F hr hbd) (snd_inI true hl) ha hb hm
theorem se_eqI {cs : List String} (hk : isiB X.K cs = true) (hn : nfB X.K c cs = true) (hd : Dun X.K (He.ga X.K c) g "__eq__") (F : FOk X.prog X.w X.K X.mg X.base k g fd ps fev) (hr : Room k X.A) (hbd : Binds X.K fd ps []) (hl : ps.length = 2) (ha : SE X W a eva) (hb : SE X W b evb) : SE X W (.Compare a [.Eq] [b] pos) (eOp2 (gEqI c cs fev) eva evb) :=
  se_cmp (op_eqI hd F hr hbd) (snd_eqI hk hn hl) ha hb (nobehind _ (by decide) (by decide))
theorem st_eqI {cs : List String} (hk : isiB X.K cs = true) (hn : nfB X.K c cs = true) (hd : Dun X.K (He.ga X.K c) g "__eq__") (F : FOk X.prog X.w X.K X.mg X.base k g fd ps fev) (hr : Room k X.A) (hbd : Binds X.K fd ps []) (hl : ps.length = 2) (ha : SE X W a eva) (hb : SE X W b evb) : ST X W (.Compare a [.Eq] [b] pos) (eOp2 (gEqI c cs fev) eva evb) :=
  st_cmp (op_eqI hd F hr hbd) (snd_eqI hk hn hl) ha hb (nobehind _ (by decide) (by decide))
theorem se_lenI {x : Str} {p : Pos} (hd : Dun X.K (He.ga X.K c) g "__len__") (F : FOk X.prog X.w X.K X.mg X.base k g fd ps fev) (hr : Room (k + 1) X.A) (hbd : Binds X.K fd ps []) (hl : ps.length = 1) (hg : Gl X x) (hm : X.mg x = none) (hv : bootBuiltins x = some (.builtin "len")) {e : Expr} {evs : Evs} (ha : SEs X W [e] evs)
    (he : starEach [e] X.env = (false, eval e X.env) :: starEach [] X.env := by rfl) (hpl : (backTo pos (starEach [] X.env)).any (·.1) = false := by rfl) (hx : x ≠ "__name__" := by decide) (hdb : (x == ("__debug__" : Str)) = false := by decide) : SE X W (.Call (.Name x p) [e] [] pos) (eL (gLenI c fev) evs) :=
  se_callB (cr_lenI hd F hr hbd) (snd_lenI hl) hg hm hv ha hx hdb he hpl
theorem se_reprI {x : Str} {p : Pos} (hd : Dun X.K (He.ga X.K c) g "__repr__") (F : FOk X.prog X.w X.K X.mg X.base k g fd ps fev) (hr : Room (k + 1) X.A) (hbd : Binds X.K fd ps []) (hl : ps.length = 1) (hg : Gl X x) (hm : X.mg x = none) (hv : bootBuiltins x = some (.builtin "repr")) {e : Expr} {evs : Evs} (ha : SEs X W [e] evs)
    (he : starEach [e] X.env = (false, eval e X.env) :: starEach [] X.env := by rfl) (hpl : (backTo pos (starEach [] X.env)).any (·.1) = false := by rfl) (hx : x ≠ "__name__" := by decide) (hdb : (x == ("__debug__" : Str)) = false := by decide) : SE X W (.Call (.Name x p) [e] [] pos) (eL (gReprI c fev) evs) :=
  se_callB (cr_reprI hd F hr hbd) (snd_reprI hl) hg hm hv ha hx hdb he hpl
end
end DI
set_option Elab.async false
set_option linter.all false
set_option maxRecDepth 100000
namespace DI
open PySem PySem.Spec PyProof.Rows L2

/-! ### dict comprehensions -/
def dcL (t : Tg) (c ek el : Ev) : List D → List D → List D → Fr → HB → Option (List D × List D × HB)
  | [], ks, vs, _, hb => some (ks, vs, hb)
  | d :: ds, ks, vs, fr, hb => match stT t d fr with
    | none => none
    | some fr1 => match c fr1 hb with
      | some (.ok (.bl true), hb1) => (match ek fr1 hb1 with
        | some (.ok k, hb2) => if k.isKey then (match el fr1 hb2 with
          | some (.ok y, hb3) => if y.isVal && decide (ks.length < szL) then dcL t c ek el ds (putD ks vs k y).1 (putD ks vs k y).2 fr hb3 else none
          | _ => none) else none
        | _ => none)
      | some (.ok (.bl false), hb1) => dcL t c ek el ds ks vs fr hb1
      | _ => none
def cDc (iv : Iv) (t : Tg) (vs : List Nat) (c ek el : Ev) : Cv := fun fr hb => match iv fr hb with
  | some (.inl (.ls ds _), hb1) => (match dcL t c ek el ds [] [] (wipeF fr vs) hb1 with
    | some (ks, ys, hb2) => some (.inl (.dct ks ys), hb2)
    | none => none)
  | some (.inr x, hb1) => some (.inr x, hb1)
  | _ => none
theorem key_kv {K : PySem.W.Frag} {M : Addr → Prop} {m : List Addr} {H : Hp} {fr : Fr} {σ : St} {k : D} {v : V} {kk : Key} (hkk : keyD k = some kk) (rk : RelT K M m H fr σ k v) : v = kV kk := by
  cases k <;> simp [keyD] at hkk <;> subst hkk
  · exact vInt_ok rk
  · exact vStr_ok rk
theorem putD_new {K : PySem.W.Frag} {B : Addr → Prop} {m : List Addr} {H : Hp} {k d : D} {v : V} {kk : Key} (hkk : keyD k = some kk) (rd : RelD K B m H d v) {ks vs : List D} {kvs : List (Key × V)} (g2 : KeysK ks kvs) (r : RelDs K B m H vs (kvs.map (·.2))) :
    KeysK (putD ks vs k d).1 (putK kvs kk v) ∧ RelDs K B m H (putD ks vs k d).2 ((putK kvs kk v).map (·.2)) := by
  unfold putD putK
  rw [putD_keys hkk g2]
  split
  · exact putD_rep hkk rd g2 r
  · exact ⟨g2.snoc hkk, by rw [List.map_append]; exact r.append (RelDs.cons rd RelDs.nil')⟩
section
variable {J : It} {n : Nat} {G : Hp → Prop} {Y : Nat → Hp → V → Hp → Prop}
theorem dc_it (w : Walk J n G Y) {g : TG} {tt : TT} {tk tv : TE} {vs : List Nat} {σ : St} {H1 : Hp} {D : Addr} {Qd : Hp → Prop} (Pv : Nat → Hp → Prop) (h0 : Pv 0 (upd H1 D (.dK []))) (hG : ∀ i H, i ≤ n → Pv i H → G H)
    (hs : ∀ i x H H', i < n → Pv i H → Y i H x H' → g x (wipe σ vs) H' fun σ2 H2 => wipe σ2 vs = wipe σ vs ∧ tt σ2 H2 fun b H3 =>
      if b = true then tk σ2 H3 fun y H4 => tv σ2 H4 fun z H5 => ∃ kvs k, y = kV k ∧ H5 D = some (.dK kvs) ∧ kvs.length < sizeLine ∧ Pv (i + 1) (upd H5 D (.dK (putK kvs k z))) else Pv (i + 1) H3) (hd : ∀ H, Pv n H → Qd H) :
    ∃ W : Nat → Nat → Hp → Prop, (∃ m, W 0 m (upd H1 D (.dK []))) ∧ ∀ i m H, W i m H →
      (J.stop i H ∧ Qd H) ∨ (J.go i H ∧ ∃ Nx : Hp → Prop, (∀ H', Nx H' → ∃ m', m' < m ∧ W (i + 1) m' H') ∧ ∀ x H', J.yld i H x H' → g x (wipe σ vs) H' fun σ2 H2 => wipe σ2 vs = wipe σ vs ∧ tt σ2 H2 fun b H3 =>
        if b = true then tk σ2 H3 fun y H4 => tv σ2 H4 fun z H5 => ∃ kvs k, y = kV k ∧ H5 D = some (.dK kvs) ∧ kvs.length < sizeLine ∧ Nx (upd H5 D (.dK (putK kvs k z))) else Nx H3) := by
  refine ⟨fun i m H => m = n - i ∧ i ≤ n ∧ Pv i H, ⟨n, by simp, Nat.zero_le _, h0⟩, ?_⟩
  rintro i m H ⟨rfl, hi, p⟩
  have q := hG i H hi p
  by_cases hlt : i < n
  · refine .inr ⟨w.goes i H hlt q, Pv (i + 1), fun H' p' => ⟨n - (i + 1), by omega, rfl, hlt, p'⟩, fun x H' y => hs i x H H' hlt p (w.yields i H x H' hlt q y)⟩
  · have e : i = n := by omega
    subst e
    exact .inl ⟨w.stops H q, hd H p⟩
end
section
variable {X : Cx} {W : WX} {pos : Pos} {tg iter kx elt : Expr} {ifs : List Expr} {scope : Scope} {own : List (Str × Nat)} {iv : Iv} {t : Tg} {c ek el : Ev}
/-- what a dict comprehension's loop keeps -/
theorem dc_reads {K : PySem.W.Frag} {σ : St} {H : Hp} {vs : List Nat} {Q : VK} (hv : ∀ i ∈ t.slots, i ∈ vs) (h : tC' K W (cDc iv t vs c ek el) σ H Q) : tDc (tI K W iv) (gT K t) (tT K W0 c) (tE K W0 ek) (tE K W0 el) vs σ H Q := by
  obtain ⟨M, m, hb, fr, r, hb', at_, e, cc⟩ := h
  unfold cDc at e
  split at e
  · rename_i ds fz hb1 e1
    split at e
    · rename_i ks ys hb2 e2
      cases e
      refine ⟨M, m, hb, fr, .inl (.ls ds fz), hb1, at_, e1, fun m1 H1 s1 J Gd Y wd p hp => ?_⟩
      have a1 := at_.step s1
      have w1 := a1.wd.grow (o := .dK []) hp
      have hk0 : ∀ a o, H1 a = some o → upd H1 p (.dK []) a = some o := fun a o q => by rw [upd_ne (ne_of_none q hp)]; exact q
      have f1 : FrR K (Mp M p) m1 (upd H1 p (.dK [])) fr σ := ⟨a1.fr.1, fun i sv q => by
        obtain ⟨x, q1, r1⟩ := a1.fr.2 i sv q
        refine ⟨x, q1, ?_⟩
        cases sv with
        | un => trivial
        | sh d => obtain ⟨v, q2, r2⟩ := r1; exact ⟨v, q2, r2.keep (Keeps.grow hp)⟩
        | ow o => obtain ⟨a, q2, hM, nm, r2⟩ := r1; exact ⟨a, q2, .inl hM, nm, r2.keep_own (Keeps.grow hp) fun u q => hk0 a u q⟩⟩
      refine dc_it wd.walk (fun i H2 => ∃ m2 hb2' kacc acc accV, H2 p = some (.dK accV) ∧ (KeysK kacc accV ∧ RelDs K (Bd (Mp M p) m2) m2 H2 acc (accV.map (·.2))) ∧ At K (Mp M p) m2 H2 hb2' fr σ ∧ (∃ l, m2 = m1 ++ l) ∧ (∀ a ∈ m2, a ∉ m1 → H1 a = none) ∧ (∀ a o, H1 a = some o → a ∉ m1 → H2 a = some o) ∧
        dcL t c ek el (ds.drop i) kacc acc (wipeF fr vs) hb2' = some (ks, ys, hb')) ⟨m1, hb1, [], [], [], upd_same, ⟨.nil, RelDs.nil'⟩, ⟨w1, f1⟩, ⟨[], by simp⟩, fun a h n => absurd h n, fun a o q _ => hk0 a o q, e2⟩ ?_ ?_ ?_
      · rintro i H2 hi ⟨m2, hb3, kacc, acc, accV, q1, ⟨q2k, q2⟩, q3, q4, q5, q6, q7⟩
        refine wd.stand H2 fun a o q nb => q6 a o q fun z => nb ?_
        cases fz with
        | true => exact .inr z
        | false => exact z
      · rintro i x H2 H3 hi ⟨m2, hb3, kacc, acc, accV, q1, ⟨q2k, q2⟩, q3, q4, q5, q6, q7⟩ y
        have kk : Keeps (Bd M m1) (Bd (Mp M p) m2) m1 m2 H1 H2 := ⟨q4, fun a o q n => by
          have n1 : a ∉ m1 := fun z => n (.inr z)
          refine ⟨q6 a o q n1, fun z => ?_⟩
          rcases z with (z | z) | z
          · exact n (.inl z)
          · subst z; rw [hp] at q; cases q
          · have := q5 a z n1
            rw [q] at this; cases this⟩
        obtain ⟨d, hd, rd⟩ := wd.item i H2 x H3 hi y _ m2 kk fun a ha => fresh_no q3.wd ha
        have st3 : Stp K (Mp M p) m2 H2 m2 H3 hb3 := by
          rcases wd.heap i H2 x H3 y with rfl | ⟨a, ws, ha, rfl⟩
          · exact Stp.refl q3.wd
          · exact q3.wd.laid ha
        have a3 := q3.step st3
        have pn3 : p ∉ m2 := fun z => q3.wd.no p z (.inr rfl)
        have q1' : H3 p = some (.dK accV) := st3.fr p _ q1 pn3
        have q2' := q2.keep st3.keeps
        have hdrop : ds.drop i = d :: ds.drop (i + 1) := by
          have hlt := (List.getElem?_eq_some_iff.mp hd).1
          rw [List.drop_eq_getElem_cons hlt, (List.getElem?_eq_some_iff.mp hd).2]
        rw [hdrop] at q7
        unfold dcL at q7
        split at q7
        · cases q7
        · rename_i fr1 z1
          refine stT_at (a3.wipe vs) rd z1 hv fun σ4 a4 ws => ⟨ws.trans (wipe_wipe σ vs), ?_⟩
          -- back to the frame ahead
          have back : ∀ {m4 : List Addr} {H4 : Hp} {hb4 : HB}, Stp K (Mp M p) m2 H3 m4 H4 hb4 → At K (Mp M p) m4 H4 hb4 fr σ := fun s4 => a3.step s4
          have pre4 : ∀ {m4 : List Addr} {H4 : Hp} {hb4 : HB}, Stp K (Mp M p) m2 H3 m4 H4 hb4 → (∃ l, m4 = m1 ++ l) ∧ (∀ a ∈ m4, a ∉ m1 → H1 a = none) ∧ (∀ a o, H1 a = some o → a ∉ m1 → H4 a = some o) := fun s4 => by
            have st := st3.trans s4
            obtain ⟨l, hl⟩ := q4
            obtain ⟨l2, hl2⟩ := st.pre
            refine ⟨⟨l ++ l2, by rw [hl2, hl, List.append_assoc]⟩, fun a ha hn => ?_, fun a o q hn => ?_⟩
            · by_cases h2 : a ∈ m2
              · exact q5 a h2 hn
              · have := st.new a ha h2
                cases q : H1 a with
                | none => rfl
                | some o => have z := q6 a o q hn; rw [this] at z; cases z
            · refine st.fr a o (q6 a o q hn) fun z => ?_
              have := q5 a z hn
              rw [q] at this; cases this
          split at q7
          · rename_i hb4 z2
            refine ⟨Mp M p, m2, hb3, fr1, .ok (.bl true), hb4, a4.wd, a4.fr, z2, fun m4 H4 s4 => ⟨true, rfl, ift ?_⟩⟩
            split at q7
            · rename_i kd hb6 z4
              split at q7
              · rename_i hkey
                split at q7
                · rename_i yd hb5 z3
                  split at q7
                  · rename_i hz
                    obtain ⟨hz1, hz2⟩ := Bool.and_eq_true_iff.mp hz
                    obtain ⟨kk, hkk⟩ := D.isKey_some hkey
                    refine tE_mk (a4.step s4) z4 fun m6 H6 s6 kv rk => ?_
                    have ek' : kv = kV kk := key_kv hkk rk
                    subst ek'
                    refine tE_mk ((a4.step s4).step s6) z3 fun m5 H5 s5 yv ry => ?_
                    have s45 := (s4.trans s6).trans s5
                    have p5 : p ∉ m5 := fun z => s5.wd.no p z (.inr rfl)
                    have q5' : H5 p = some (.dK accV) := s45.fr p _ q1' pn3
                    have acc5 := q2'.keep s45.keeps
                    have a5 := back s45
                    obtain ⟨g1, g2, g3⟩ := pre4 s45
                    have ryv := ry.val hz1
                    -- p is written
                    have kw : Keeps (Bd (Mp M p) m5) (Bd (Mp M p) m5) m5 m5 H5 (upd H5 p (.dK (putK accV kk yv))) := ⟨⟨[], by simp⟩, fun a o q n => ⟨by
                      have : a ≠ p := fun z => n (.inl (.inr z))
                      rw [upd_ne this]; exact q, n⟩⟩
                    have nep : ∀ a ∈ m5, a ≠ p := fun a ha z => p5 (by rw [← z]; exact ha)
                    have wdw : Wd K (Mp M p) m5 (upd H5 p (.dK (putK accV kk yv))) hb5 := by
                      refine ⟨s5.wd.nd, s5.wd.no, fun a ha => ?_, s5.wd.len, fun n a ob h1 h2 => (s5.wd.ob n a ob h1 h2).keep_own kw fun u q => ?_⟩
                      · by_cases hap : a = p
                        · subst hap; exact ⟨_, upd_same⟩
                        · rw [upd_ne hap]; exact s5.wd.mt a ha
                      · rw [upd_ne (nep a (List.mem_of_getElem? h1))]; exact q
                    obtain ⟨w1k, w1r⟩ := putD_new hkk ryv q2k acc5
                    refine ⟨accV, kk, rfl, q5', ?_, m5, hb5, (putD kacc acc kd yd).1, (putD kacc acc kd yd).2, putK accV kk yv, upd_same, ⟨w1k, w1r.keep kw⟩, ⟨wdw, a5.fr.1, fun j sv q => ?_⟩, g1, g2, fun a o q hn => ?_, q7⟩
                    · rw [← q2k.len, ← szL_eq]; exact of_decide_eq_true hz2
                    · obtain ⟨x', q8, r8⟩ := a5.fr.2 j sv q
                      refine ⟨x', q8, ?_⟩
                      cases sv with
                      | un => trivial
                      | sh d' => obtain ⟨v', q9, r9⟩ := r8; exact ⟨v', q9, r9.keep kw⟩
                      | ow o =>
                        obtain ⟨a, q9, hM, nm, r9⟩ := r8
                        refine ⟨a, q9, hM, nm, r9.keep_own kw fun u q => ?_⟩
                        by_cases hap : a = p
                        · subst hap
                          obtain ⟨x0, c1, r0⟩ := a1.fr.2 j _ (by assumption)
                          obtain ⟨b, c2, _, _, r0'⟩ := r0
                          rw [q8] at c1
                          cases c1
                          rw [q9] at c2
                          cases c2
                          obtain ⟨u0, hu0⟩ := r0'.there
                          rw [hp] at hu0; cases hu0
                        · rw [upd_ne hap]; exact q
                    · have hap : a ≠ p := ne_of_none q hp
                      rw [upd_ne hap]
                      exact g3 a o q hn
                  · cases q7
                · cases q7
              · cases q7
            · cases q7
          · rename_i hb4 z2
            refine ⟨Mp M p, m2, hb3, fr1, .ok (.bl false), hb4, a4.wd, a4.fr, z2, fun m4 H4 s4 => ⟨false, rfl, iff_ ?_⟩⟩
            obtain ⟨g1, g2, g3⟩ := pre4 s4
            exact ⟨m4, hb4, kacc, acc, accV, s4.fr p _ q1' pn3, ⟨q2k, q2'.keep s4.keeps⟩, back s4, g1, g2, g3, q7⟩
          · cases q7
      · rintro H2 ⟨m2, hb3, kacc, acc, accV, q1, ⟨q2k, q2⟩, q3, ⟨l2, hl2⟩, q5, q6, q7⟩
        rw [List.drop_length] at q7
        cases q7
        obtain ⟨l1, hl1⟩ := s1.pre
        refine cc m2 H2 p ⟨⟨l1 ++ l2, by rw [hl2, hl1, List.append_assoc]⟩, fun a ha hn => ?_, fun a o q hn => ?_, q3.wd, s1.free hp at_.wd⟩ ⟨_, .inl ⟨accV, q1, q2k, rfl⟩, q2⟩
        · by_cases h1 : a ∈ m1
          · exact s1.new a h1 hn
          · have := q5 a ha h1
            cases q : H a with
            | none => rfl
            | some o => have z := s1.fr a o q hn; rw [this] at z; cases z
        · refine q6 a o (s1.fr a o q hn) fun z => ?_
          have := s1.new a z hn
          rw [q] at this; cases this
    · cases e
  · rename_i x hb1 e1
    cases e
    exact ⟨M, m, hb, fr, .inr x, _, at_, e1, fun m1 H1 s1 => cc m1 H1 s1⟩
  · cases e
theorem sc_dc (hc : X.calm = true) (hN : X.N.Nodup) (hi : SI X W tg iter iv) (ok : BlkOk X.N X.env.scope scope own) (hv : ∀ i ∈ t.slots, i ∈ own.map (·.2)) (hg : Blk X scope fun Y => SG Y tg t) (ht : Blk X scope fun Y => STs Y W0 ifs c) (hk : Blk X scope fun Y => SE Y W0 kx ek) (he : Blk X scope fun Y => SE Y W0 elt el)
    (hs : ∀ x, foldedSetIterable iter X.env x = pure x := by intro _; rfl) : SC X W (.DictComp kx elt [⟨tg, iter, ifs, 0⟩] scope pos) (cDc iv t (own.map (·.2)) c ek el) :=
  PE.mono (pe_dc hc hN hi ok hg ht hk he hs) fun _ _ _ h => dc_reads hv h
end
end DI
set_option Elab.async false
set_option linter.all false
set_option maxRecDepth 100000
namespace DI
open PySem PySem.Spec PyProof.Rows L2

/-! ### a block within a block -/
section
variable {X : Cx} {s : Shared} {H : Hp} {scope scope2 : Scope} {cl : List (Str × Addr)} {C : Addr} {fp : List Addr} {x : Str} {own : List (Str × Nat)}
theorem blkOk_nest {N : List Str} (h : blkC N scope scope2 own = true) : BlkOk N (X.blk s H scope (compEnvC scope cl C X.env) fp).env.scope scope2 own := by
  have z := blkOk_by h
  refine ⟨z.kind, z.uniq, z.ix, fun y hy e => ?_, z.own⟩
  show (relabel scope X.env).names.lookup y.1 = _ ∨ (relabel scope X.env).names.lookup y.1 = _
  rcases relabel_lookup (scope := scope) (env := X.env) (x := y.1) with q | ⟨_, q⟩
  · rw [q]; exact z.free y hy e
  · exact .inl q
end
end DI
set_option Elab.async false
set_option linter.all false
set_option maxRecDepth 100000
namespace DI
open PySem PySem.Spec PyProof.Rows L2

/-! ### C.f, an int of the class -/
def cnB (K : PySem.W.Frag) (c f : String) (i : Int) : Bool := PySem.W.readsIn K (He.ga K c) (.type "type") && (He.eqO (PySem.W.specialIn K (.ref (He.ga K c)) "__getattribute__") (some (some (.builtin "type.__getattribute__"))) &&
  (match PySem.W.findCls K (.ref (He.ga K c)) (.type "type") f with
    | some (.val (.int j _)) => decide (j = i)
    | _ => false))
theorem cnB_ok {K : PySem.W.Frag} {c f : String} {i : Int} (h : cnB K c f i = true) : ClX.CRead K (He.ga K c) (.type "type") ∧ ∃ u, ClX.CVal K (He.ga K c) (.type "type") f (.int i) u := by
  obtain ⟨h1, h⟩ := He.ba h
  obtain ⟨h2, h⟩ := He.ba h
  refine ⟨⟨h1, He.eqO_ok h2⟩, ?_⟩
  split at h
  · rename_i j t e
    obtain rfl := of_decide_eq_true h
    exact ⟨_, e, ⟨t, rfl⟩⟩
  · cases h
def gCint (c : String) (i : Int) : D → Ev := fun d fr hb => match d with
  | .rf c' => if c' = c then some (.ok (.int i), hb) else none
  | _ => none
section
variable {X : Cx} {W : WX} {e : Expr} {ev : Ev} {pos : Pos}
theorem se_cint {c f : String} {i : Int} {fn : Str} (he : SE X W e ev) (hF : cnB X.K c f i = true) (hf : fn = Str.ofString f := by rfl) (hb : attributeBase e fn X.env (eval e X.env) = eval e X.env := by rfl) : SE X W (.Attribute e fn pos) (eBind ev (gCint c i)) := by
  subst hf
  obtain ⟨r, u, k⟩ := cnB_ok hF
  refine PE.mono (ClX.pe_cval he hb) fun σ H Q h => ?_
  show tE X.K W ev σ H fun x H1 => ∃ C mc v u, x = .ref C ∧ ClX.CRead X.K C mc ∧ ClX.CVal X.K C mc (Str.ofString f) v u ∧ Q v H1
  refine tE_bind1 h fun {M m hb fr x vx H2 r2 hb'} a rx e cc => ?_
  unfold gCint at e
  split at e
  · split at e
    · rename_i hc
      subst hc
      cases e
      have r' : RelD X.K (Bd M m) m H2 (.rf _) vx := rx
      unfold RelD at r'
      exact ⟨_, _, .int i, u, r', r, k, cc.done a rInt⟩
    · cases e
  · cases e
end
end DI
set_option Elab.async false
set_option linter.all false
set_option maxRecDepth 100000
set_option maxHeartbeats 1000000
namespace DI
open PySem PySem.Spec PyProof.Rows L2

/-! ### defs by what they are called with: defaults, starred parameters -/
def spR (K : PySem.W.Frag) (ev : FSem) : Sp := fun vs H Q E => ∃ n, spF K n ev vs H Q E
abbrev FOkR (P : Program) (w : World) (K : PySem.W.Frag) (mg : Str → Option Value) (base : Heap) (k : Nat) (f : Addr) (ev : FSem) : Prop := FnR P w K mg base (L2.CX P w) k f (spR K ev)
def starF (n : Nat) (ev : FSem) : FSem := fun ds hb => if decide (n ≤ ds.length) && decide (ds.length ≤ szL) then ev (ds.take n ++ [.tup (ds.drop n)]) hb else none
def nF (n : Nat) (ev : FSem) : FSem := fun ds hb => if ds.length = n then ev ds hb else none
def dflF (n : Nat) (dds : List D) (ev : FSem) : FSem := fun ds hb => if ds.length = n then ev (ds ++ dds) hb else none
section
variable {P : Program} {w : World} {K : PySem.W.Frag} {mg : Str → Option Value} {base : Heap} {x qual : Str} {params : Arguments} {body : List Stmt} {scope : Scope} {f : Addr} {fd : FuncData} {N ps : List Str} {k : Nat} {sv : Sv} {ev : FSem}
/-- the shape of a body's derivation -/
abbrev BodyOk (P : Program) (w : World) (K : PySem.W.Frag) (mg : Str → Option Value) (base : Heap) (k : Nat) (N : List Str) (scope : Scope) (body : List Stmt) (sv : Sv) : Prop := ∀ (X : Cx) (W : WX) (G : Gh), X.prog = P → X.w = w → X.K = K → X.mg = mg → X.base = base → X.N = N → X.calm = true → X.fn = (fun _ => true) → X.env.scope = scope → Room k X.A → PassesOwn (model X.prog X.w) X.A X.env X.xe → Takes X W → X.stack = X.env :: X.outer → X.env.frame = some X.env.locals → G.pin = none → SSs X W G body sv
theorem body_run {n : Nat} (hn : n ≤ N.length) (hbody : BodyOk P w K mg base k N scope body sv) (cdv : Value) (A : Around) (outer : List Env) (s : Shared) (H : Hp) (vs : List V) (Q : VK) (E : XK) (hr : Room k (A.deeper (envOfC qual scope s.heap.objs.size f cdv))) (h : spF K n (fnE N.length sv) vs H Q E) :
    ∃ t, PSs (cxOf (L2.CX P w) P w K mg base N qual scope f cdv A outer s H E) body t ∧ t { nx := fun _ H' => Q .non H', rt := Q } (start N vs) H := by
  obtain ⟨M0, ms, hb, ds, r, hb', hl, wd, rd, e, c⟩ := h
  refine ⟨_, hbody (cxOf (L2.CX P w) P w K mg base N qual scope f cdv A outer s H E) (fun cls d _ H => E cls d H) ⟨M0, ms, H, none⟩ rfl rfl rfl rfl rfl rfl rfl rfl rfl hr (passes_of rfl) (takes_of rfl rfl rfl rfl) rfl rfl rfl, ?_⟩
  have s0 : FS K ⟨M0, ms, H, none⟩ ms H hb (fr0 N.length ds) (L2.start N vs) := FS.start wd rd (by omega)
  have toStp : ∀ {m' H' hb2 fr' σ'}, FS K ⟨M0, ms, H, none⟩ m' H' hb2 fr' σ' → Stp K M0 ms H m' H' hb2 := fun s' => ⟨s'.pre, s'.new, s'.keep, s'.at_.wd.shrink fun a h => .inl h⟩
  have shr : ∀ {m' : List Addr} {H' : Hp} {fr' : Fr} {σ' : St}, Keeps (Bd (Mf M0 fr' σ') m') (Bd M0 m') m' m' H' H' := Keeps.shrink fun b z => z.elim (fun z => .inl (.inl z)) .inr
  unfold fnE at e
  split at e
  · rename_i fr1 hb1 e1
    cases e
    exact tS_mk s0 e1 fun m' H' σ' s' _ => c m' H' (toStp s') .non (by unfold RelD; rfl)
  · rename_i d hb1 e1
    cases e
    exact tS_mk s0 e1 fun m' H' σ' fr' v s' _ rv => c m' H' (toStp s') v (rv.keep shr)
  · rename_i x hb1 e1
    cases e
    refine tS_mk s0 e1 fun m' H' σ' fr' C dd s' _ rx => c m' H' (toStp s') C dd ?_
    obtain ⟨h1, d2, vs2, h2, h3, h4, h5⟩ := rx
    exact ⟨h1, d2, vs2, h2, h3, h4, h5.keep shr⟩
  · cases e
theorem spR_n {n : Nat} {vs : List V} {H : Hp} {Q : VK} {E : XK} (h : spR K (nF n ev) vs H Q E) : spF K n ev vs H Q E := by
  obtain ⟨n', M0, ms, hb, ds, r, hb', hl, wd, rd, e, c⟩ := h
  unfold nF at e
  split at e
  · rename_i hl'
    exact ⟨M0, ms, hb, ds, r, hb', hl', wd, rd, e, c⟩
  · cases e
/-- a def without defaults -/
theorem FOk.toR (F : FOk P w K mg base k f fd ps ev) (hb : Binds K fd ps []) : FOkR P w K mg base k f (nF ps.length ev) :=
  FnR.imp (FnOk.raw F hb .nil) fun vs H Q E h => by rw [List.append_nil]; exact spR_n h
/-- constants stand in any heap -/
def ConstDs (K : PySem.W.Frag) (dds : List D) (dvs : List V) : Prop := ∀ B m H, RelDs K B m H dds dvs
theorem FOk.toDfl {ds : List Value} {dvs : List V} {dds : List D} {n : Nat} (F : FOk P w K mg base k f fd ps ev) (hb : Binds K fd ps ds) (hd : Vals dvs ds) (hc : ConstDs K dds dvs) (hn : n + dds.length = ps.length) : FOkR P w K mg base k f (dflF n dds ev) :=
  FnR.imp (FnOk.raw F hb hd) fun vs H Q E h => by
    obtain ⟨n', M0, ms, hb, ds', r, hb', hl, wd, rd, e, c⟩ := h
    unfold dflF at e
    split at e
    · rename_i hl'
      exact ⟨M0, ms, hb, ds' ++ dds, r, hb', by rw [List.length_append, hl', hn], wd, rd.append (hc _ _ _), e, c⟩
    · cases e
/-- def f(a, .., *v) -/
theorem fok_star {pv : Str} (F : FunD K x qual params body scope [] [] f fd) (S : FnScope N (ps ++ [pv]) scope)
    (hbd : ∀ (kV doc pm : Value) (an : Option Addr) (cdv ct : Value) (us rest : List Value), us.length = ps.length → bindArgs (PySem.W.fnOf x qual params body scope .none kV doc pm an cdv ct) ⟨us ++ rest, []⟩ = (newTuple rest >>= fun t => pure (ps.zip us ++ [(pv, t)])))
    (hbody : BodyOk P w K mg base k N scope body sv) : FOkR P w K mg base (k + 1) f (starF ps.length (fnE N.length sv)) := by
  obtain ⟨oc, od, dV, kV, doc, pm, an, cdv, ct, osl, rfl, lk, hcd, hD, _⟩ := F.ex
  have hdv : dV = .none := by
    rcases hD with ⟨_, e⟩ | ⟨e, _⟩
    · exact e
    · exact absurd rfl e
  subst hdv
  have hps : (ps ++ [pv]).length ≤ N.length := by have := congrArg List.length S.pre; rw [List.length_take] at this; omega
  rw [List.length_append] at hps
  refine FnR.imp (StX.fn_star (sp := spF K (ps.length + 1) (fnE N.length sv)) lk hcd S StX.cxUp (hbd kV doc pm an cdv ct) fun A outer s H vs Q E hr h => body_run hps hbody cdv A outer s H vs Q E hr h) fun vs H Q E h => ?_
  obtain ⟨n', M0, ms, hb, ds, r, hb', hl, wd, rd, e, c⟩ := h
  unfold starF at e
  split at e
  · rename_i hz
    rw [Bool.and_eq_true] at hz
    have h1 := of_decide_eq_true hz.1
    have h2 := of_decide_eq_true hz.2
    have hlv := rd.length
    refine ⟨vs.take ps.length, vs.drop ps.length, (List.take_append_drop _ _).symm, by rw [List.length_take]; omega, ?_, fun p hp => ?_⟩
    · rw [List.length_drop]
      have := szL_eq
      omega
    · have st := wd.laid (o := .tup (vs.drop ps.length)) hp
      refine ⟨M0, ms, hb, _, r, hb', ?_, st.wd, ?_, e, fun m' H' s' => c m' H' (st.trans s')⟩
      · rw [List.length_append, List.length_take]
        simp
        omega
      · refine ((RelDs.take ps.length rd).keep st.keeps).append (RelDs.cons ?_ RelDs.nil')
        have z := new_tup (fr := []) (σ := []) wd hp (RelDs.drop ps.length rd)
        exact z
  · cases e
end
end DI
set_option Elab.async false
set_option linter.all false
set_option maxRecDepth 100000
set_option maxHeartbeats 1000000
namespace DI
open PySem PySem.Spec PyProof.Rows L2

/-! ### defs that hand back a new object -/
abbrev FSemC := List D → HB → Option ((O ⊕ Xn) × HB)
def spC (K : PySem.W.Frag) (n : Nat) (ev : FSemC) : Sp := fun vs H Q E => ∃ (M0 : Addr → Prop) (ms : List Addr) (hb : HB) (ds : List D) (r : O ⊕ Xn) (hb' : HB), ds.length = n ∧ Wd K M0 ms H hb ∧ RelDs K (Bd M0 ms) ms H ds vs ∧ ev ds hb = some (r, hb') ∧
  match r with
    | .inl o => ∀ m' H' p, StpP K M0 ms H m' H' hb' p → RelO K (Bd (Mp M0 p) m') m' H' o p → Q (.ref p) H'
    | .inr x => ∀ m' H', Stp K M0 ms H m' H' hb' → ∀ C dd, RelX K (Bd M0 m') m' H' x C dd → E C dd H'
abbrev FOkC (P : Program) (w : World) (K : PySem.W.Frag) (mg : Str → Option Value) (base : Heap) (k : Nat) (f : Addr) (fd : FuncData) (ps : List Str) (ev : FSemC) : Prop := FnOk P w K mg base (L2.CX P w) k f fd ps (spC K ps.length ev)
def tSC (K : PySem.W.Frag) (W : WX) (G : Gh) (cv : Cv) : TS := fun D σ H => ∃ (m : List Addr) (hb : HB) (fr : Fr) (r : O ⊕ Xn) (hb' : HB), FS K G m H hb fr σ ∧ cv fr hb = some (r, hb') ∧ match r with
  | .inl o => ∀ m' H' p, StpP K G.M0 G.ms G.Hs m' H' hb' p → RelO K (Bd (Mp G.M0 p) m') m' H' o p → D.rt (.ref p) H'
  | .inr x => ∀ m' H' σ' fr' C dd, FS K G m' H' hb' fr' σ' → RelX K (Bd (Mf G.M0 fr' σ') m') m' H' x C dd → W C dd σ' H'
abbrev SSsC (X : Cx) (W : WX) (G : Gh) (st : List Stmt) (cv : Cv) : Prop := PSs X st (tSC X.K W G cv)
theorem FS.fin {K : PySem.W.Frag} {G : Gh} {m m1 : List Addr} {H H1 : Hp} {hb hb1 : HB} {fr : Fr} {σ : St} {p : Addr} (s : FS K G m H hb fr σ) (t : StpP K (Mf G.M0 fr σ) m H m1 H1 hb1 p) : StpP K G.M0 G.ms G.Hs m1 H1 hb1 p := by
  have s1 := s.step t.stp
  refine ⟨s1.pre, s1.new, s1.keep, t.wd.shrink fun a z => z.elim (fun z => .inl (.inl z)) .inr, ?_⟩
  cases q : G.Hs p with
  | none => rfl
  | some u =>
    by_cases hm : p ∈ G.ms
    · obtain ⟨l, e⟩ := s.pre
      obtain ⟨v, hv⟩ := s.at_.wd.there (a := p) (by rw [e]; exact List.mem_append_left _ hm)
      rw [t.pn] at hv; cases hv
    · have := s.keep p u q hm
      rw [t.pn] at this; cases this
def cSeq (sv : Sv) (cv : Cv) : Cv := fun fr hb => match sv fr hb with
  | some (.nx fr1, hb1) => cv fr1 hb1
  | some (.ex x, hb1) => some (.inr x, hb1)
  | _ => none
section
variable {X : Cx} {W : WX} {G : Gh} {e : Expr} {cv : Cv} {pos : Pos} {st : Stmt} {sts : List Stmt} {sv : Sv}
theorem ssc_ret (he : SC X W e cv) : SSsC X W G [.Return (some e) pos] cv := PSs.mono (pss_one (ps_ret he)) fun D σ H h => by
  obtain ⟨m, hb, fr, r, hb', s, e, c⟩ := h
  show tC' X.K W cv σ H D.rt
  refine ⟨_, m, hb, fr, r, hb', s.at_, e, ?_⟩
  cases r with
  | inl o => exact fun m1 H1 p t ro => c m1 H1 p (s.fin t) (ro.keep_own (Keeps.shrink fun b z => z.elim (fun z => .inl (z.elim (fun z => .inl (.inl z)) .inr)) .inr) fun _ q => q)
  | inr x => exact fun m1 H1 t C dd rx => c m1 H1 σ fr C dd (s.step t) rx
theorem ssc_cons (h1 : SS X W G st sv) (h2 : SSsC X W G sts cv) : SSsC X W G (st :: sts) (cSeq sv cv) := PSs.mono (pss_cons h1 h2) fun D σ H h => by
  obtain ⟨m, hb, fr, r, hb', s, e, c⟩ := h
  unfold cSeq at e
  show tS X.K W G sv { D with nx := tSC X.K W G cv D } σ H
  split at e
  · rename_i fr1 hb1 e1
    exact tS_mk s e1 fun m' H' σ' s' k' => ⟨m', hb1, fr1, r, hb', s', e, c⟩
  · rename_i x hb1 e1
    cases e
    exact tS_mk s e1 fun m' H' σ' fr' C dd s' k' rx => c m' H' σ' fr' C dd s' rx
  · cases e
end
section
variable {P : Program} {w : World} {K : PySem.W.Frag} {mg : Str → Option Value} {base : Heap}
def fnC (n : Nat) (body : Cv) : FSemC := fun ds hb => body (fr0 n ds) hb
theorem fokC {x qual : Str} {params : Arguments} {body : List Stmt} {scope : Scope} {dvs : List V} {kws : List (Str × V)} {f : Addr} {fd : FuncData} {N ps : List Str} {k : Nat} {cv : Cv} (F : FunD K x qual params body scope dvs kws f fd) (S : FnScope N ps scope)
    (hbody : ∀ (X : Cx) (W : WX) (G : Gh), X.prog = P → X.w = w → X.K = K → X.mg = mg → X.base = base → X.N = N → X.calm = true → X.fn = (fun _ => true) → X.env.scope = scope → Room k X.A → PassesOwn (model X.prog X.w) X.A X.env X.xe → Takes X W → X.stack = X.env :: X.outer → X.env.frame = some X.env.locals → G.pin = none → SSsC X W G body cv) :
    FOkC P w K mg base (k + 1) f fd ps (fnC N.length cv) := by
  refine F.ok (sp := spC K ps.length (fnC N.length cv)) S (fun vs H Q E h => ?_) (fun cdv A outer s H vs Q E hr h => ?_)
  · obtain ⟨M0, ms, hb, ds, r, hb', hl, _, rd, _⟩ := h
    rw [← rd.length, hl]
  · obtain ⟨M0, ms, hb, ds, r, hb', hl, wd, rd, e, c⟩ := h
    have hps : ps.length ≤ N.length := by have := congrArg List.length S.pre; rw [List.length_take] at this; omega
    refine ⟨_, hbody (cxOf (L2.CX P w) P w K mg base N qual scope f cdv A outer s H E) (fun cls d _ H => E cls d H) ⟨M0, ms, H, none⟩ rfl rfl rfl rfl rfl rfl rfl rfl rfl hr (passes_of rfl) (takes_of rfl rfl rfl rfl) rfl rfl rfl, ?_⟩
    have s0 : FS K ⟨M0, ms, H, none⟩ ms H hb (fr0 N.length ds) (L2.start N vs) := FS.start wd rd (by omega)
    refine ⟨ms, hb, _, r, hb', s0, e, ?_⟩
    cases r with
    | inl o => exact c
    | inr x =>
      refine fun m' H' σ' fr' C dd s' rx => c m' H' ⟨s'.pre, s'.new, s'.keep, s'.at_.wd.shrink fun a h => .inl h⟩ C dd ?_
      obtain ⟨h1, d2, vs2, h2, h3, h4, h5⟩ := rx
      exact ⟨h1, d2, vs2, h2, h3, h4, h5.keep (Keeps.shrink fun b z => z.elim (fun z => .inl (.inl z)) .inr)⟩
end
section
variable {K : PySem.W.Frag} {M : Addr → Prop} {m m1 m2 : List Addr} {H H1 H2 : Hp} {hb hb1 hb2 : HB} {p : Addr}
theorem Stp.thenP (s : Stp K M m H m1 H1 hb1) (w : Wd K M m H hb) (t : StpP K M m1 H1 m2 H2 hb2 p) : StpP K M m H m2 H2 hb2 p := by
  have z := s.trans t.stp
  exact ⟨z.pre, z.new, z.fr, t.wd, s.free t.pn w⟩
end
section
variable {X : Cx} {W : WX} {G : Gh} {o e : Expr} {evo : Ev} {evs : Evs} {pos apos : Pos} {es : List Expr}
def cMeth (c m : String) (n : Nat) (ev : FSemC) (o : Ev) (es : Evs) : Cv := fun fr hb => match o fr hb with
  | some (.ok d, hb1) => if d.isVal then (match insD fr hb1 d with
    | some (c', fs, _) => if c' = c && !fs.contains m then (match es fr hb1 with
      | some (.inl ds, hb2) => if allVal ds && decide (ds.length + 1 = n) then ev (d :: ds) hb2 else none
      | some (.inr x, hb2) => some (.inr x, hb2)
      | none => none) else none
    | none => none) else none
  | some (.exn x, hb1) => some (.inr x, hb1)
  | none => none
theorem tC_meth {c m : String} {n : Nat} {fev : FSemC} {σ : St} {H : Hp} {Q : VK} (h : tC' X.K W (cMeth c m n fev evo evs) σ H Q) : tMethS (He.ga X.K c) (Str.ofString m) (spC X.K n fev) (fun σ => WE W σ) (tE X.K W evo) (tEs X.K W evs) σ H Q := by
  obtain ⟨M, m0, hb, fr, r0, hb', a, e0, cc⟩ := h
  show tE X.K W evo σ H fun x H1 => ∃ a dx fs, x = .ref a ∧ H1 a = some (.ins (He.ga X.K c) dx fs) ∧ fs.lookup (Str.ofString m) = none ∧ tEs X.K W evs σ H1 fun vs H2 => spC X.K n fev (x :: vs) H2 Q (WE W σ)
  unfold cMeth at e0
  split at e0
  · rename_i d hb1 e1
    refine tE_mk a e1 fun m1 H1 s1 v rx => ?_
    have a1 := a.step s1
    split at e0
    · rename_i hv
      split at e0
      · rename_i c' fs vs e2
        split at e0
        · rename_i hc
          rw [Bool.and_eq_true, Bool.not_eq_true'] at hc
          have hc1 := of_decide_eq_true hc.1
          subst hc1
          obtain ⟨q, dx, ws, rfl, f1, l, rr⟩ := insD_ok a1 rx e2
          refine ⟨q, dx, _, rfl, f1, noF_ok hc.2, ?_⟩
          split at e0
          · rename_i ds hb2 e3
            refine ⟨M, m1, hb1, fr, .inl ds, hb2, a1.wd, a1.fr, e3, fun m2 H2 s2 us rv => ?_⟩
            split at e0
            · rename_i hz
              rw [Bool.and_eq_true] at hz
              have a2 := a1.step s2
              have s12 := s1.trans s2
              refine ⟨M, m2, hb2, d :: ds, r0, hb', by simpa using of_decide_eq_true hz.2, a2.wd, RelDs.cons ((rx.keep s2).val hv) (rv.val hz.1), e0, ?_⟩
              cases r0 with
              | inl o => exact fun m' H' p t ro => cc m' H' p (s12.thenP a.wd t) ro
              | inr x => exact fun m' H' t C dd rx => cc m' H' (s12.trans t) C dd rx
            · cases e0
          · rename_i x hb2 e3
            cases e0
            exact ⟨M, m1, hb1, fr, .inr x, _, a1.wd, a1.fr, e3, fun m2 H2 s2 => cc m2 H2 (s1.trans s2)⟩
          · cases e0
        · cases e0
      · cases e0
    · cases e0
  · rename_i x hb1 e1
    cases e0
    exact tE_mk a e1 fun m1 H1 s1 => cc m1 H1 s1
  · cases e0
end
end DI
set_option Elab.async false
set_option linter.all false
set_option maxRecDepth 100000
set_option maxHeartbeats 1000000
namespace DI
open PySem PySem.Spec PyProof.Rows L2

section
variable {X : Cx} {W : WX} {G : Gh} {e o : Expr} {ev evo eve : Ev} {pos pos' apos : Pos} {es : List Expr} {evs : Evs}
theorem run_fnRS {CX : CXT} {pins : List (Addr × Obj)} {σ : St} {H : Hp} {s : Shared} {k : Nat} {f : Addr} {sp : Sp} {E : St → XK} {Q : VK} {us : List Value} {vs : List V} (F : FnR X.prog X.w X.K X.mg X.base CX k f sp) (hr : Room k X.A) (hx : PassesAt CX X σ (E σ)) (I : Inv X pins σ H s) (r : Vals vs us) (h : sp vs H Q (E σ)) :
    wpAny (model X.prog X.w) X.A (call (.ref f) us) (EP X pins σ Q) X.xe s := by
  refine wpAny_call (codeAny_mono (F X.A X.stack s H us vs Q (E σ) hr I.env0 r h) fun r s' hq => ?_)
  cases r with
  | error e => exact hx pins H s e s' I hq
  | ok fl =>
    cases fl with
    | ret u => exact I.after hq
    | next => exact False.elim hq
    | brk => exact False.elim hq
    | cont => exact False.elim hq
/-! ### calls of defs with defaults or a starred parameter -/
theorem pe_methRR {CX : CXT} {k : Nat} {f C : Addr} {sp : Sp} {E : St → XK} {m : Str} {ta : TE} {t : TA} {pl : Sem Bool} (he : PE X o ta) (c : Cls X.K C) (hm : Meth X.K C m f)
    (F : FnR X.prog X.w X.K X.mg X.base CX k f sp) (hr : Room k X.A) (hx : ∀ σ, PassesAt CX X σ (E σ)) (ha : PA X (e :: es) t)
    (hst : starEach (e :: es) X.env = (false, eval e X.env) :: starEach es X.env := by rfl) (hpl : (backTo pos (starEach es X.env)).any (·.1) = false := by rfl)
    (ht : eval (.Call (.Attribute o m apos) (e :: es) [] pos) X.env = (do
      let ov ← eval o X.env
      standAt apos.atName
      let (f, first) ← holding [ov] (getMethod ov m pl)
      callWith pos f first (backTo pos (starEach (e :: es) X.env)) (backToKw pos (keywordEach [] X.env))) := by rfl) :
    PE X (.Call (.Attribute o m apos) (e :: es) [] pos) (tMethS C m sp E ta t) := by
  refine ⟨fun pins s σ H Q I h => ?_⟩
  refine PySem.W.methodCall_KW (pl := pl) (thn (he.run pins s σ H _ I h) fun u s1 ⟨x, H1, I1, rx, a, dx, fs, ex, ea, l, q⟩ => ?_) ht
  subst ex
  obtain rfl : u = Value.ref a := rx
  refine getmeth_ok I1 ea c hm l ?_
  refine PySem.W.callWith_K (first := [.ref a]) (h₀ := X.base) I.ok.mod.kin hm.kp (thn (ha.run pos pins s1 σ H1 _ I1 q) fun us s2 ⟨vs, H2, I2, r, q2⟩ => ⟨I2.kIn, ?_⟩) hst hpl
  exact run_fnRS (us := .ref a :: us) (vs := .ref a :: vs) F hr (hx σ) I2 (.cons rfl r) q2
theorem pe_methRR0 {CX : CXT} {k : Nat} {f C : Addr} {sp : Sp} {E : St → XK} {m : Str} {ta : TE} {pl : Sem Bool} (he : PE X o ta) (c : Cls X.K C) (hm : Meth X.K C m f)
    (F : FnR X.prog X.w X.K X.mg X.base CX k f sp) (hr : Room k X.A) (hx : ∀ σ, PassesAt CX X σ (E σ))
    (ht : eval (.Call (.Attribute o m apos) [] [] pos) X.env = (do
      let ov ← eval o X.env
      standAt apos.atName
      let (f, first) ← holding [ov] (getMethod ov m pl)
      callWith pos f first (backTo pos (starEach [] X.env)) (backToKw pos (keywordEach [] X.env))) := by rfl) :
    PE X (.Call (.Attribute o m apos) [] [] pos) (tMethS C m sp E ta tNil) := by
  refine ⟨fun pins s σ H Q I h => ?_⟩
  refine PySem.W.methodCall_KW (pl := pl) (thn (he.run pins s σ H _ I h) fun u s1 ⟨x, H1, I1, rx, a, dx, fs, ex, ea, l, q⟩ => ?_) ht
  subst ex
  obtain rfl : u = Value.ref a := rx
  refine getmeth_ok I1 ea c hm l ?_
  exact PySem.W.callWith_K0 (first := [.ref a]) I1.kIn hm.kp (run_fnRS (us := [.ref a]) (vs := [.ref a]) F hr (hx σ) I1 (.cons rfl .nil) q)
def eMethR (c m : String) (ev : FSem) (o : Ev) (es : Evs) : Ev := eBind o fun d fr hb => if d.isVal then (match insD fr hb d with
  | some (c', fs, _) => if c' = c && !fs.contains m then eL (fun ds _ hb => if allVal ds then ev (d :: ds) hb else none) es fr hb else none
  | none => none) else none
theorem tE_methR {c m : String} {fev : FSem} {σ : St} {H : Hp} {Q : VK} (h : tE X.K W (eMethR c m fev evo evs) σ H Q) : tMethS (He.ga X.K c) (Str.ofString m) (spR X.K fev) (fun σ => WE W σ) (tE X.K W evo) (tEs X.K W evs) σ H Q := by
  obtain ⟨M, m0, hb, fr, r0, hb', a, e0, cc⟩ := tE_un h
  show tE X.K W evo σ H fun x H1 => ∃ a dx fs, x = .ref a ∧ H1 a = some (.ins (He.ga X.K c) dx fs) ∧ fs.lookup (Str.ofString m) = none ∧ tEs X.K W evs σ H1 fun vs H2 => spR X.K fev (x :: vs) H2 Q (WE W σ)
  refine tE_then a e0 cc fun m1 H1 hb1 d v s1 a1 rx e1 c1 => ?_
  split at e1
  · rename_i hv
    split at e1
    · rename_i c' fs vs e2
      split at e1
      · rename_i hc
        rw [Bool.and_eq_true, Bool.not_eq_true'] at hc
        have hc1 := of_decide_eq_true hc.1
        subst hc1
        obtain ⟨q, dx, ws, rfl, f1, l, rr⟩ := insD_ok a1 rx e2
        refine ⟨q, dx, _, rfl, f1, noF_ok hc.2, ?_⟩
        unfold eL at e1
        split at e1
        · rename_i ds hb2 e3
          refine ⟨M, m1, hb1, fr, .inl ds, hb2, a1.wd, a1.fr, e3, fun m2 H2 s2 us rv => ?_⟩
          dsimp only at e1
          split at e1
          · rename_i hz
            have a2 := a1.step s2
            have z := pst_sp (n := ds.length + 1) a2 (by simp) (RelDs.cons ((rx.keep s2).val hv) (rv.val hz)) e1 (c1.step s2)
            exact ⟨_, z⟩
          · cases e1
        · rename_i x hb2 e3
          cases e1
          exact ⟨M, m1, hb1, fr, .inr x, _, a1.wd, a1.fr, e3, fun m2 H2 s2 => c1 m2 H2 s2⟩
        · cases e1
      · cases e1
    · cases e1
  · cases e1
variable {m : Str} {c mn : String} {k : Nat} {f : Addr} {fd : FuncData} {ps : List Str} {fev : FSem} {fec : FSemC} {pl : Sem Bool}
theorem se_methR (he : SE X W o evo) (cl : Cls X.K (He.ga X.K c)) (hm : Meth X.K (He.ga X.K c) m f) (F : FOkR X.prog X.w X.K X.mg X.base k f fev) (tk : Takes X W) (hr : Room k X.A) (ha : SEs X W (e :: es) evs) (hmn : m = Str.ofString mn := by rfl)
    (hst : starEach (e :: es) X.env = (false, eval e X.env) :: starEach es X.env := by rfl) (hpl : (backTo pos (starEach es X.env)).any (·.1) = false := by rfl)
    (ht : eval (.Call (.Attribute o m apos) (e :: es) [] pos) X.env = (do
      let ov ← eval o X.env
      standAt apos.atName
      let (f, first) ← holding [ov] (getMethod ov m pl)
      callWith pos f first (backTo pos (starEach (e :: es) X.env)) (backToKw pos (keywordEach [] X.env))) := by rfl) :
    SE X W (.Call (.Attribute o m apos) (e :: es) [] pos) (eMethR c mn fev evo evs) := by
  subst hmn
  exact PE.mono (pe_methRR (pl := pl) he cl hm F hr (fun σ => passAt tk σ) ha hst hpl ht) fun σ H Q h => tE_methR h
theorem se_methR0 (he : SE X W o evo) (cl : Cls X.K (He.ga X.K c)) (hm : Meth X.K (He.ga X.K c) m f) (F : FOkR X.prog X.w X.K X.mg X.base k f fev) (tk : Takes X W) (hr : Room k X.A) (hmn : m = Str.ofString mn := by rfl)
    (ht : eval (.Call (.Attribute o m apos) [] [] pos) X.env = (do
      let ov ← eval o X.env
      standAt apos.atName
      let (f, first) ← holding [ov] (getMethod ov m pl)
      callWith pos f first (backTo pos (starEach [] X.env)) (backToKw pos (keywordEach [] X.env))) := by rfl) :
    SE X W (.Call (.Attribute o m apos) [] [] pos) (eMethR c mn fev evo eNil) := by
  subst hmn
  refine PE.mono (pe_methRR0 (pl := pl) he cl hm F hr (fun σ => passAt tk σ) ht) fun σ H Q h => ?_
  have z := tE_methR h
  show tE X.K W evo σ H fun x H1 => ∃ a dx fs, x = .ref a ∧ H1 a = some (.ins (He.ga X.K c) dx fs) ∧ fs.lookup (Str.ofString mn) = none ∧ spR X.K fev [x] H1 Q (WE W σ)
  obtain ⟨M, m, hb, fr, r, hb', w, f, e, cc⟩ := z
  refine ⟨M, m, hb, fr, r, hb', w, f, e, fun m1 H1 s1 => ?_⟩
  have z := cc m1 H1 s1
  cases r with
  | exn x => exact z
  | ok d =>
    intro v rv
    obtain ⟨a, dx, fs, h1, h2, h3, M2, m2, hb2, fr2, r2, hb3, w2, f2, e2, c2⟩ := z v rv
    cases e2
    exact ⟨a, dx, fs, h1, h2, h3, c2 m2 H1 (Stp.refl w2) [] rfl⟩
/-! ### .. that hand back a new object -/
theorem sc_meth (he : SE X W o evo) (cl : Cls X.K (He.ga X.K c)) (hm : Meth X.K (He.ga X.K c) m f) (F : FOkC X.prog X.w X.K X.mg X.base k f fd ps fec) (tk : Takes X W) (hr : Room k X.A) (hb : Binds X.K fd ps []) (ha : SEs X W (e :: es) evs) (hmn : m = Str.ofString mn := by rfl)
    (hst : starEach (e :: es) X.env = (false, eval e X.env) :: starEach es X.env := by rfl) (hpl : (backTo pos (starEach es X.env)).any (·.1) = false := by rfl)
    (ht : eval (.Call (.Attribute o m apos) (e :: es) [] pos) X.env = (do
      let ov ← eval o X.env
      standAt apos.atName
      let (f, first) ← holding [ov] (getMethod ov m pl)
      callWith pos f first (backTo pos (starEach (e :: es) X.env)) (backToKw pos (keywordEach [] X.env))) := by rfl) :
    SC X W (.Call (.Attribute o m apos) (e :: es) [] pos) (cMeth c mn ps.length fec evo evs) := by
  subst hmn
  exact PE.mono (pe_methSS (pl := pl) he cl hm F hr hb (fun σ => passAt tk σ) ha hst hpl ht) fun σ H Q h => tC_meth h
theorem sc_meth0 (he : SE X W o evo) (cl : Cls X.K (He.ga X.K c)) (hm : Meth X.K (He.ga X.K c) m f) (F : FOkC X.prog X.w X.K X.mg X.base k f fd ps fec) (tk : Takes X W) (hr : Room k X.A) (hb : Binds X.K fd ps []) (hmn : m = Str.ofString mn := by rfl)
    (ht : eval (.Call (.Attribute o m apos) [] [] pos) X.env = (do
      let ov ← eval o X.env
      standAt apos.atName
      let (f, first) ← holding [ov] (getMethod ov m pl)
      callWith pos f first (backTo pos (starEach [] X.env)) (backToKw pos (keywordEach [] X.env))) := by rfl) :
    SC X W (.Call (.Attribute o m apos) [] [] pos) (cMeth c mn ps.length fec evo eNil) := by
  subst hmn
  refine PE.mono (pe_methSS0 (pl := pl) he cl hm F hr hb (fun σ => passAt tk σ) ht) fun σ H Q h => ?_
  have z := tC_meth h
  show tE X.K W evo σ H fun x H1 => ∃ a dx fs, x = .ref a ∧ H1 a = some (.ins (He.ga X.K c) dx fs) ∧ fs.lookup (Str.ofString mn) = none ∧ spC X.K ps.length fec [x] H1 Q (WE W σ)
  obtain ⟨M, m, hb, fr, r, hb', w, f, e, cc⟩ := z
  refine ⟨M, m, hb, fr, r, hb', w, f, e, fun m1 H1 s1 => ?_⟩
  have z := cc m1 H1 s1
  cases r with
  | exn x => exact z
  | ok d =>
    intro v rv
    obtain ⟨a, dx, fs, h1, h2, h3, M2, m2, hb2, fr2, r2, hb3, w2, f2, e2, c2⟩ := z v rv
    cases e2
    exact ⟨a, dx, fs, h1, h2, h3, c2 m2 H1 (Stp.refl w2) [] rfl⟩
end
end DI
set_option Elab.async false
set_option linter.all false
set_option maxRecDepth 100000
set_option maxHeartbeats 1000000
namespace DI
open PySem PySem.Spec PyProof.Rows L2

/-! ### f(e, ..): a new object; with defaults or a starred parameter -/
def cCallC (n : Nat) (ev : FSemC) (es : Evs) : Cv := fun fr hb => match es fr hb with
  | some (.inl ds, hb2) => if allVal ds && decide (ds.length = n) then ev ds hb2 else none
  | some (.inr x, hb2) => some (.inr x, hb2)
  | none => none
def eCallR (ev : FSem) (es : Evs) : Ev := eL (fun ds _ hb => if allVal ds then ev ds hb else none) es
section
variable {X : Cx} {W : WX} {pos : Pos}
theorem sc_call {k : Nat} {f : Addr} {fd : FuncData} {ps : List Str} {ev : FSemC} {x : Str} {p : Pos} {e : Expr} {es : List Expr} {evs : Evs} (F : FOkC X.prog X.w X.K X.mg X.base k f fd ps ev) (tk : Takes X W) (hr : Room k X.A) (hg : Gl X x) (hm : X.mg x = some (.ref f)) (hk : PySem.W.keepIn X.K (.ref f) = true)
    (hb : Binds X.K fd ps []) (ha : SEs X W (e :: es) evs) (hdb : (x == ("__debug__" : Str)) = false := by decide) (he : starEach (e :: es) X.env = (false, eval e X.env) :: starEach es X.env := by rfl) (hpl : (backTo pos (starEach es X.env)).any (·.1) = false := by rfl) :
    SC X W (.Call (.Name x p) (e :: es) [] pos) (cCallC ps.length ev evs) := by
  refine PE.mono (pe_callS F hr hg hm hk hb (fun σ => passAt tk σ) ha hdb he hpl) fun σ H Q h => ?_
  obtain ⟨M, m, hb, fr, r, hb', a, e, c⟩ := h
  show tEs X.K W evs σ H fun vs H1 => spC X.K ps.length ev vs H1 Q (WE W σ)
  unfold cCallC at e
  split at e
  · rename_i ds hb2 e3
    refine ⟨M, m, hb, fr, .inl ds, hb2, a.wd, a.fr, e3, fun m2 H2 s2 us rv => ?_⟩
    split at e
    · rename_i hz
      rw [Bool.and_eq_true] at hz
      have a2 := a.step s2
      refine ⟨M, m2, hb2, ds, r, hb', of_decide_eq_true hz.2, a2.wd, rv.val hz.1, e, ?_⟩
      cases r with
      | inl o => exact fun m' H' p t ro => c m' H' p (s2.thenP a.wd t) ro
      | inr x => exact fun m' H' t C dd rx => c m' H' (s2.trans t) C dd rx
    · cases e
  · rename_i x hb2 e3
    cases e
    exact ⟨M, m, hb, fr, .inr x, _, a.wd, a.fr, e3, fun m2 H2 s2 => c m2 H2 s2⟩
  · cases e
theorem se_callR {k : Nat} {f : Addr} {ev : FSem} {x : Str} {p : Pos} {e : Expr} {es : List Expr} {evs : Evs} (F : FOkR X.prog X.w X.K X.mg X.base k f ev) (tk : Takes X W) (hr : Room k X.A) (hg : Gl X x) (hm : X.mg x = some (.ref f)) (hk : PySem.W.keepIn X.K (.ref f) = true)
    (ha : SEs X W (e :: es) evs) (hdb : (x == ("__debug__" : Str)) = false := by decide) (he : starEach (e :: es) X.env = (false, eval e X.env) :: starEach es X.env := by rfl) (hpl : (backTo pos (starEach es X.env)).any (·.1) = false := by rfl) :
    SE X W (.Call (.Name x p) (e :: es) [] pos) (eCallR ev evs) := by
  refine ⟨fun pins s σ H Q I h => ?_⟩
  refine wpAny_Call_Name_kw (ld_glob I hg hm ?_ hdb)
  have h2 : tEs X.K W evs σ H fun vs H1 => spR X.K ev vs H1 Q (WE W σ) := tEs_un h fun {M m hb fr ds vs H1 r hb'} a rv e c => by
    split at e
    · rename_i hv
      exact ⟨ds.length, pst_sp a rfl (rv.val hv) e c⟩
    · cases e
  refine PySem.W.callWith_K (first := []) (h₀ := X.base) I.ok.mod.kin hk (thn (ha.run pos pins s σ H _ I h2) fun us s1 ⟨vs, H1, I1, r, q⟩ => ⟨I1.kIn, ?_⟩) he hpl
  exact run_fnRS F hr (E := fun σ => WE W σ) (passAt tk σ) I1 r q
end
end DI
set_option Elab.async false
set_option linter.all false
set_option maxRecDepth 100000
set_option maxHeartbeats 1000000
namespace DI
open PySem PySem.Spec PyProof.Rows L2

/-! ### the facts of the written part, by their place in a list -/
structure Fxs (fa : List He.Fa) (K : PySem.W.Frag) (mg : Str → Option Value) : Prop where
  ex : ∃ h : Heap, K.In h ∧ h.Ns mainGlobals mg
  all : ∀ x ∈ fa, x.ok K = true
section
variable {fa : List He.Fa} {K : PySem.W.Frag} {mg : Str → Option Value} (F : Fxs fa K mg)
include F
theorem Fxs.at_ (i : Nat) {x : He.Fa} (e : fa[i]? = some x) : x.ok K = true := F.all x (List.mem_of_getElem? e)
theorem Fxs.glo (i : Nat) {x : Str} (e : fa[i]? = some (.glo x) := by rfl) : mg x = some (.ref (He.ga K x)) := by
  obtain ⟨h, a, b⟩ := F.ex
  exact He.glo_ok a b (F.at_ i e)
theorem Fxs.free (i : Nat) {x : Str} (e : fa[i]? = some (.free x) := by rfl) : mg x = none := by
  obtain ⟨h, a, b⟩ := F.ex
  exact He.free_ok a b (F.at_ i e)
theorem Fxs.int (i : Nat) {x : Str} {n : Int} (e : fa[i]? = some (.int x n) := by rfl) : ∃ t, mg x = some (.int n t) := by
  obtain ⟨h, a, b⟩ := F.ex
  exact He.int_ok a b (F.at_ i e)
theorem Fxs.str (i : Nat) {x z : Str} (e : fa[i]? = some (.str x z) := by rfl) : ∃ t, mg x = some (.str z t) := by
  obtain ⟨h, a, b⟩ := F.ex
  exact He.str_ok a b (F.at_ i e)
theorem Fxs.cls (i : Nat) {x : Str} (e : fa[i]? = some (.cls x) := by rfl) : Cls K (He.ga K x) := He.cls_ok (F.at_ i e)
theorem Fxs.noat (i : Nat) {x f : Str} (e : fa[i]? = some (.noat x f) := by rfl) : NoAttr K (He.ga K x) f := He.noat_ok (F.at_ i e)
theorem Fxs.meth (i : Nat) {x m : Str} (e : fa[i]? = some (.meth x m) := by rfl) : Meth K (He.ga K x) m (He.ma K (He.ga K x) m) := He.meth_ok (F.at_ i e)
theorem Fxs.mkr (i : Nat) {x : Str} (e : fa[i]? = some (.mkr x) := by rfl) : Mk K (He.ga K x) (He.ma K (He.ga K x) "__init__") := He.mkr_ok (F.at_ i e)
end
/-- a name's place -/
theorem nmAt {X : Cx} {N : List Str} {i : Nat} {x : Str} (h : X.N = N) (e : N[i]? = some x) : X.N[i]? = some x := by rw [h]; exact e
theorem blkAt {X : Cx} {N : List Str} {sc scope : Scope} {own : List (Str × Nat)} (h : X.N = N) (hs : X.env.scope = sc) (e : blkC N sc scope own = true) : BlkOk X.N X.env.scope scope own := by rw [h, hs]; exact blkOk_by e
theorem blkAt2 {X : Cx} {N : List Str} {s : Shared} {H : Hp} {scope scope2 : Scope} {cl : List (Str × Addr)} {C : Addr} {fp : List Addr} {own : List (Str × Nat)} (h : X.N = N) (e : blkC N scope scope2 own = true) : BlkOk X.N (X.blk s H scope (compEnvC scope cl C X.env) fp).env.scope scope2 own := by rw [h]; exact blkOk_nest e
end DI
set_option Elab.async false
set_option linter.all false
set_option maxRecDepth 100000
set_option maxHeartbeats 1000000
namespace DI
open PySem PySem.Spec PyProof.Rows L2

theorem lc_sc {X : Cx} {sc : Scope} {x : Str} (h : X.env.scope = sc) (hk : sc.names.lookup x = some .local) : X.env.scope.names.lookup x = some .local := by rw [h]; exact hk
theorem swl {X : Cx} {sc : Scope} {elt : Expr} {gs : List Comprehension} {scope : Scope} {pos py : Pos} {y : Str} {l : Nat} (h : X.env.scope = sc) (hk : sc.kind = .function) (hy : sc.names.lookup y = some .local) (hl : (py.line == pos.line) = true) (ha : (scope.names.any fun (n, k) => n == y && (k == .local || k == .cell)) = false) :
    swapsWith (.ListComp elt gs scope pos) (some (.Name y py)) l X.env = pure true := by
  refine sw_true (by rw [h]; exact hk) (by rw [h]; exact hy) hl ha
theorem swE {α : Sort _} {X : Cx} {sc : Scope} {f : Env → α} {r : α} (h : X.env.scope = sc) (e : f { X.env with scope := sc } = r) : f X.env = r := by subst h; exact e
/-! ### an own object is frozen behind a statement -/
def sFz (i : Nat) (sv : Sv) : Sv := fun fr hb => match sv fr hb with
  | some (.nx fr1, hb1) => (match fr1[i]? with
    | some (.ow o) => some (.nx (fr1.set i (.sh o.d)), hb1)
    | _ => none)
  | r => r
section
variable {K : PySem.W.Frag} {G : Gh} {m : List Addr} {H : Hp} {hb : HB} {fr : Fr} {σ : St} {i : Nat} {o : O}
theorem FS.fzSlot (s : FS K G m H hb fr σ) (ho : fr[i]? = some (.ow o)) : FS K G m H hb (fr.set i (.sh o.d)) σ ∧ Kp G m H fr σ m H (fr.set i (.sh o.d)) σ := by
  obtain ⟨x, e1, a, e2, hM, nm, r⟩ := s.at_.fr.2 i _ ho
  subst e2
  obtain ⟨a', e3, nb, ro⟩ := s.freed ho e1
  cases e3
  have z := (s.free i).setSh (i := i) (d := o.d) (v := .ref a) (ro.d_of (fun _ h => h) nb)
  rw [List.set_set, List.set_set] at z
  have hs : σ.set i (some (V.ref a)) = σ := by
    apply List.ext_getElem?
    intro j
    by_cases hj : i = j
    · subst hj
      rw [List.getElem?_set, e1]
      have := (List.getElem?_eq_some_iff.mp e1).1
      simp [this]
    · rw [List.getElem?_set_ne hj]
  have sub : ∀ b, Mf G.M0 (fr.set i (.sh o.d)) σ b → Mf G.M0 fr σ b := fun b h => by
    rcases h with h | ⟨j, o', h1, h2⟩
    · exact .inl h
    · by_cases e : i = j
      · subst e
        rw [List.getElem?_set] at h1
        simp at h1
      · rw [List.getElem?_set_ne e] at h1
        exact .inr ⟨j, o', h1, h2⟩
  rw [hs] at z
  exact ⟨z, Keeps.shrink fun b z => z.elim (fun z => .inl (sub b z)) .inr⟩
end
section
variable {X : Cx} {W : WX} {G : Gh} {st : Stmt} {sv : Sv}
theorem ss_fzAfter (i : Nat) (h : SS X W G st sv) : SS X W G st (sFz i sv) := PS.mono h fun D σ H hh => by
  obtain ⟨m, hb, fr, r, hb', s, e, c⟩ := hh
  unfold sFz at e
  split at e
  · rename_i fr1 hb1 e1
    split at e
    · rename_i o ho
      cases e
      refine tS_mk s e1 fun m' H' σ' s' k' => ?_
      obtain ⟨s2, k2⟩ := s'.fzSlot ho
      exact c m' H' σ' s2 (k'.trans k2)
    · cases e
  · exact tS_mk s e c
end
end DI
set_option Elab.async false
set_option linter.all false
set_option maxRecDepth 100000
set_option maxHeartbeats 1000000
namespace DI
open PySem PySem.Spec PyProof.Rows L2

/-! ### defs that call themselves -/
def recE (st : FSem → FSem) : Nat → FSem
  | 0 => fun _ _ => none
  | n + 1 => st (recE st n)
section
variable {P : Program} {w : World} {K : PySem.W.Frag} {mg : Str → Option Value} {base : Heap} {k : Nat} {f : Addr} {fd : FuncData} {ps : List Str}
theorem fok_none : FOk P w K mg base k f fd ps (fun _ _ => none) :=
  ⟨fun vs H Q E h => (by obtain ⟨_, _, _, _, _, _, _, _, _, e, _⟩ := h; cases e), fun A outer s H args us vs Q E hr he hb hv h => (by obtain ⟨_, _, _, _, _, _, _, _, _, e, _⟩ := h; cases e)⟩
theorem fok_rec {st : FSem → FSem} (step : ∀ j ev, k ≤ j → FOk P w K mg base j f fd ps ev → FOk P w K mg base (j + 1) f fd ps (st ev)) : ∀ n, FOk P w K mg base (k + n) f fd ps (recE st n)
  | 0 => fok_none
  | n + 1 => step (k + n) _ (by omega) (fok_rec step n)
end
end DI
set_option Elab.async false
set_option linter.all false
set_option maxRecDepth 100000
set_option maxHeartbeats 1000000
namespace DI
open PySem PySem.Spec PyProof.Rows L2

/-! ### comprehensions with two fors -/
def lc2L (t : Tg) (c : Ev) (iv1 : Iv) (t1 : Tg) (vs1 : List Nat) (c1 el : Ev) : List D → List D → Fr → HB → Option (List D × HB)
  | [], acc, _, hb => some (acc, hb)
  | d :: ds, acc, fr, hb => match stT t d fr with
    | none => none
    | some fr1 => match c fr1 hb with
      | some (.ok (.bl true), hb1) => (match iv1 fr1 hb1 with
        | some (.inl (.ls es true), hb2) => (match lcL t1 c1 el es acc (wipeF fr1 vs1) hb2 with
          | some (acc', hb3) => lc2L t c iv1 t1 vs1 c1 el ds acc' fr hb3
          | none => none)
        | _ => none)
      | some (.ok (.bl false), hb1) => lc2L t c iv1 t1 vs1 c1 el ds acc fr hb1
      | _ => none
def cLc2 (iv : Iv) (t : Tg) (vs : List Nat) (c : Ev) (iv1 : Iv) (t1 : Tg) (vs1 : List Nat) (c1 el : Ev) : Cv := fun fr hb => match iv fr hb with
  | some (.inl (.ls ds _), hb1) => (match lc2L t c iv1 t1 vs1 c1 el ds [] (wipeF fr vs) hb1 with
    | some (ys, hb2) => some (.inl (.lst ys), hb2)
    | none => none)
  | some (.inr x, hb1) => some (.inr x, hb1)
  | _ => none
def NoP (fr : Fr) (σ : St) (p : Addr) : Prop := ∀ (j : Nat) o, fr[j]? = some (.ow o) → σ[j]? ≠ some (some (.ref p))
theorem stAll_ow : ∀ {is : List Nat} {ds : List D} {fr fr1 : Fr} {j : Nat} {o : O}, stAll is ds fr = some fr1 → fr1[j]? = some (.ow o) → fr[j]? = some (.ow o)
  | [], [], _, _, _, _, e, h => by cases e; exact h
  | i :: is, d :: ds, fr, fr1, j, o, e, h => by
    have z := stAll_ow (show stAll is ds (fr.set i (.sh d)) = some fr1 from e) h
    by_cases hi : i = j
    · subst hi; rw [List.getElem?_set] at z; simp at z
    · rw [List.getElem?_set_ne hi] at z; exact z
  | [], _ :: _, _, _, _, _, e, _ => by cases e
  | _ :: _, [], _, _, _, _, e, _ => by cases e
theorem stT_ow {t : Tg} {d : D} {fr fr1 : Fr} {j : Nat} {o : O} (e : stT t d fr = some fr1) (h : fr1[j]? = some (.ow o)) : fr[j]? = some (.ow o) := by
  unfold stT at e
  split at e
  · rename_i i
    cases e
    by_cases hi : i = j
    · subst hi; rw [List.getElem?_set] at h; simp at h
    · rw [List.getElem?_set_ne hi] at h; exact h
  · exact stAll_ow e h
  · cases e
theorem wipeF_ow : ∀ {vs : List Nat} {fr : Fr} {j : Nat} {o : O}, (wipeF fr vs)[j]? = some (.ow o) → fr[j]? = some (.ow o) ∧ j ∉ vs
  | [], _, _, _, h => ⟨h, by simp⟩
  | v :: vs, fr, j, o, h => by
    have h' : ((wipeF fr vs).set v .un)[j]? = some (.ow o) := h
    by_cases hv : v = j
    · subst hv; rw [List.getElem?_set] at h'; simp at h'
    · rw [List.getElem?_set_ne hv] at h'
      obtain ⟨a, b⟩ := wipeF_ow h'
      exact ⟨a, by simp only [List.mem_cons, not_or]; exact ⟨fun z => hv z.symm, b⟩⟩
theorem wipe_get : ∀ {vs : List Nat} {σ : St} {j : Nat}, j ∉ vs → (wipe σ vs)[j]? = σ[j]?
  | [], _, _, _ => rfl
  | v :: vs, σ, j, h => by
    simp only [List.mem_cons, not_or] at h
    show ((wipe σ vs).set v none)[j]? = _
    rw [List.getElem?_set_ne (fun z => h.1 z.symm)]
    exact wipe_get h.2
theorem NoP.turn {t : Tg} {d : D} {fr fr1 : Fr} {σ σ1 : St} {vs : List Nat} {p : Addr} (h : NoP fr σ p) (e : stT t d (wipeF fr vs) = some fr1) (w : wipe σ1 vs = wipe σ vs) : NoP fr1 σ1 p := fun j o hj => by
  obtain ⟨h1, h2⟩ := wipeF_ow (stT_ow e hj)
  have z := h j o h1
  rw [← wipe_get (σ := σ1) h2, w, wipe_get h2]
  exact z
structure PStp (p : Addr) (m1 : List Addr) (H1 : Hp) (m2 : List Addr) (H2 : Hp) : Prop where
  pre : ∃ l, m2 = m1 ++ l
  new : ∀ a ∈ m2, a ∉ m1 → H1 a = none
  fr : ∀ a o, H1 a = some o → a ∉ m1 → a ≠ p → H2 a = some o
theorem PStp.refl {p : Addr} {m1 : List Addr} {H1 : Hp} : PStp p m1 H1 m1 H1 := ⟨⟨[], by simp⟩, fun _ h n => absurd h n, fun _ _ h _ _ => h⟩
theorem PStp.trans {p : Addr} {m1 m2 m3 : List Addr} {H1 H2 H3 : Hp} (hp : p ∉ m3) (a : PStp p m1 H1 m2 H2) (b : PStp p m2 H2 m3 H3) : PStp p m1 H1 m3 H3 := by
  obtain ⟨l, hl⟩ := a.pre
  obtain ⟨l2, hl2⟩ := b.pre
  have inv : ∀ x, x ∈ m3 → x ∉ m1 → H1 x = none := fun x hx hn => by
    by_cases h2 : x ∈ m2
    · exact a.new x h2 hn
    · have z := b.new x hx h2
      cases q : H1 x with
      | none => rfl
      | some o =>
        have y := a.fr x o q hn fun e => hp (e ▸ hx)
        rw [z] at y; cases y
  refine ⟨⟨l ++ l2, by rw [hl2, hl, List.append_assoc]⟩, inv, fun x o h hn hx => b.fr x o (a.fr x o h hn hx) (fun z => ?_) hx⟩
  have := inv x (by rw [hl2]; exact List.mem_append_left _ z) hn
  rw [h] at this; cases this
theorem PStp.of {K : PySem.W.Frag} {M : Addr → Prop} {p : Addr} {m1 m2 : List Addr} {H1 H2 : Hp} {hb : HB} (s : Stp K M m1 H1 m2 H2 hb) : PStp p m1 H1 m2 H2 := ⟨s.pre, s.new, fun a o h n _ => s.fr a o h n⟩
theorem PStp.wr {p : Addr} {m1 m2 : List Addr} {H1 H2 : Hp} {o : HO} (s : PStp p m1 H1 m2 H2) : PStp p m1 H1 m2 (upd H2 p o) := ⟨s.pre, s.new, fun a u h n hp => by rw [upd_ne hp]; exact s.fr a u h n hp⟩
theorem At.wrP {K : PySem.W.Frag} {M : Addr → Prop} {p : Addr} {m : List Addr} {H : Hp} {hb : HB} {fr : Fr} {σ : St} {o : HO} (a : At K (Mp M p) m H hb fr σ) (np : NoP fr σ p) :
    At K (Mp M p) m (upd H p o) hb fr σ ∧ Keeps (Bd (Mp M p) m) (Bd (Mp M p) m) m m H (upd H p o) := by
  have pm : p ∉ m := fun z => a.wd.no p z (.inr rfl)
  have kw : Keeps (Bd (Mp M p) m) (Bd (Mp M p) m) m m H (upd H p o) := ⟨⟨[], by simp⟩, fun x u q n => ⟨by
    have : x ≠ p := fun z => n (.inl (.inr z))
    rw [upd_ne this]; exact q, n⟩⟩
  have nep : ∀ x ∈ m, x ≠ p := fun x hx z => pm (by rw [← z]; exact hx)
  refine ⟨⟨⟨a.wd.nd, a.wd.no, fun x hx => ?_, a.wd.len, fun n x ob h1 h2 => (a.wd.ob n x ob h1 h2).keep_own kw fun u q => ?_⟩, a.fr.1, fun j sv q => ?_⟩, kw⟩
  · by_cases hap : x = p
    · subst hap; exact ⟨_, upd_same⟩
    · rw [upd_ne hap]; exact a.wd.mt x hx
  · rw [upd_ne (nep x (List.mem_of_getElem? h1))]; exact q
  · obtain ⟨x', q8, r8⟩ := a.fr.2 j sv q
    refine ⟨x', q8, ?_⟩
    cases sv with
    | un => trivial
    | sh d' => obtain ⟨v', q9, r9⟩ := r8; exact ⟨v', q9, r9.keep kw⟩
    | ow o' =>
      obtain ⟨y, q9, hM, nm, r9⟩ := r8
      refine ⟨y, q9, hM, nm, r9.keep_own kw fun u q2 => ?_⟩
      have hap : y ≠ p := fun z => by
        subst z
        exact np j o' q (by rw [q8, q9])
      rw [upd_ne hap]; exact q2
section
variable {J : It} {n : Nat} {G : Hp → Prop} {Y : Nat → Hp → V → Hp → Prop}
theorem it_any (w : Walk J n G Y) {S : V → Hp → (Hp → Prop) → Prop} {H1 : Hp} {Qd : Hp → Prop} (Pv : Nat → Hp → Prop) (h0 : Pv 0 H1) (hG : ∀ i H, i ≤ n → Pv i H → G H)
    (hs : ∀ i x H H', i < n → Pv i H → Y i H x H' → S x H' (Pv (i + 1))) (hd : ∀ H, Pv n H → Qd H) :
    ∃ W : Nat → Nat → Hp → Prop, (∃ m, W 0 m H1) ∧ ∀ i m H, W i m H →
      (J.stop i H ∧ Qd H) ∨ (J.go i H ∧ ∃ Nx : Hp → Prop, (∀ H', Nx H' → ∃ m', m' < m ∧ W (i + 1) m' H') ∧ ∀ x H', J.yld i H x H' → S x H' Nx) := by
  refine ⟨fun i m H => m = n - i ∧ i ≤ n ∧ Pv i H, ⟨n, by simp, Nat.zero_le _, h0⟩, ?_⟩
  rintro i m H ⟨rfl, hi, p⟩
  have q := hG i H hi p
  by_cases hlt : i < n
  · refine .inr ⟨w.goes i H hlt q, Pv (i + 1), fun H' p' => ⟨n - (i + 1), by omega, rfl, hlt, p'⟩, fun x H' y => hs i x H H' hlt p (w.yields i H x H' hlt q y)⟩
  · have e : i = n := by omega
    subst e
    exact .inl ⟨w.stops H q, hd H p⟩
end
section
variable {K : PySem.W.Frag} {M : Addr → Prop} {p : Addr} {m1 : List Addr} {H1 : Hp} {hb1 hb' : HB} {fr : Fr} {σ : St} {es acc ys : List D} {accV : List V} {t : Tg} {c el : Ev} {vs : List Nat} {J : It} {Gd : Hp → Prop} {Y : Nat → Hp → V → Hp → Prop} {Nx : Hp → Prop}
theorem lc_inner (a1 : At K (Mp M p) m1 H1 hb1 fr σ) (np : NoP fr σ p) (q1 : H1 p = some (.lst accV)) (q2 : RelDs K (Bd (Mp M p) m1) m1 H1 acc accV) (wd : WalkD K (Mp M p) m1 H1 es true J Gd Y)
    (hv : ∀ i ∈ t.slots, i ∈ vs) (e : lcL t c el es acc (wipeF fr vs) hb1 = some (ys, hb'))
    (hN : ∀ m2 H2 accV', H2 p = some (.lst accV') → RelDs K (Bd (Mp M p) m2) m2 H2 ys accV' → At K (Mp M p) m2 H2 hb' fr σ → PStp p m1 H1 m2 H2 → Nx H2) :
    ∃ W : Nat → Nat → Hp → Prop, (∃ m, W 0 m H1) ∧ ∀ i m H, W i m H →
      (J.stop i H ∧ Nx H) ∨ (J.go i H ∧ ∃ Nx1 : Hp → Prop, (∀ H', Nx1 H' → ∃ m', m' < m ∧ W (i + 1) m' H') ∧ ∀ x H', J.yld i H x H' → gT K t x (wipe σ vs) H' fun σ2 H2 => wipe σ2 vs = wipe σ vs ∧ tT K W0 c σ2 H2 fun b H3 =>
        if b = true then tE K W0 el σ2 H3 fun y H4 => ∃ acc, H4 p = some (.lst acc) ∧ acc.length < sizeLine ∧ Nx1 (upd H4 p (.lst (acc ++ [y]))) else Nx1 H3) := by
  have pm1 : p ∉ m1 := fun z => a1.wd.no p z (.inr rfl)
  refine it_any wd.walk (fun i H2 => ∃ m2 hb2 acc accV, H2 p = some (.lst accV) ∧ RelDs K (Bd (Mp M p) m2) m2 H2 acc accV ∧ At K (Mp M p) m2 H2 hb2 fr σ ∧ PStp p m1 H1 m2 H2 ∧
    lcL t c el (es.drop i) acc (wipeF fr vs) hb2 = some (ys, hb')) ⟨m1, hb1, acc, accV, q1, q2, a1, PStp.refl, e⟩ ?_ ?_ ?_
  · rintro i H2 hi ⟨m2, hb3, acc, accV, q1, q2, q3, q4, q7⟩
    refine wd.stand H2 fun a o q nb => q4.fr a o q (fun z => nb (.inr z)) fun z => nb (.inl (.inr z))
  · rintro i x H2 H3 hi ⟨m2, hb3, acc, accV, q1, q2, q3, q4, q7⟩ y
    have kk : Keeps (Bd (Mp M p) m1) (Bd (Mp M p) m2) m1 m2 H1 H2 := ⟨q4.pre, fun a o q n => by
      have n1 : a ∉ m1 := fun z => n (.inr z)
      have n2 : a ≠ p := fun z => n (.inl (.inr z))
      refine ⟨q4.fr a o q n1 n2, fun z => ?_⟩
      rcases z with z | z
      · exact n (.inl z)
      · have := q4.new a z n1
        rw [q] at this; cases this⟩
    obtain ⟨d, hd, rd⟩ := wd.item i H2 x H3 hi y _ m2 kk fun a ha => fresh_no q3.wd ha
    have st3 : Stp K (Mp M p) m2 H2 m2 H3 hb3 := by
      rcases wd.heap i H2 x H3 y with rfl | ⟨a, ws, ha, rfl⟩
      · exact Stp.refl q3.wd
      · exact q3.wd.laid ha
    have a3 := q3.step st3
    have pn3 : p ∉ m2 := fun z => q3.wd.no p z (.inr rfl)
    have q1' : H3 p = some (.lst accV) := st3.fr p _ q1 pn3
    have q2' := q2.keep st3.keeps
    have hdrop : es.drop i = d :: es.drop (i + 1) := by
      have hlt := (List.getElem?_eq_some_iff.mp hd).1
      rw [List.drop_eq_getElem_cons hlt, (List.getElem?_eq_some_iff.mp hd).2]
    rw [hdrop] at q7
    unfold lcL at q7
    split at q7
    · cases q7
    · rename_i fr1 z1
      refine stT_at (a3.wipe vs) rd z1 hv fun σ4 a4 ws => ⟨ws.trans (wipe_wipe σ vs), ?_⟩
      have pst : ∀ {m4 : List Addr} {H4 : Hp} {hb4 : HB}, Stp K (Mp M p) m2 H3 m4 H4 hb4 → PStp p m1 H1 m4 H4 := fun s4 =>
        q4.trans (fun z => s4.wd.no p z (.inr rfl)) (.of (st3.trans s4))
      split at q7
      · rename_i hb4 z2
        refine ⟨Mp M p, m2, hb3, fr1, .ok (.bl true), hb4, a4.wd, a4.fr, z2, fun m4 H4 s4 => ⟨true, rfl, ift ?_⟩⟩
        split at q7
        · rename_i yd hb5 z3
          split at q7
          · rename_i hz
            obtain ⟨hz1, hz2⟩ := Bool.and_eq_true_iff.mp hz
            refine tE_mk (a4.step s4) z3 fun m5 H5 s5 yv ry => ?_
            have s45 := s4.trans s5
            have q5' : H5 p = some (.lst accV) := s45.fr p _ q1' pn3
            have acc5 := q2'.keep s45.keeps
            have a5 := a3.step s45
            have ryv := ry.val hz1
            obtain ⟨aw, kw⟩ := a5.wrP (o := .lst (accV ++ [yv])) np
            refine ⟨accV, q5', ?_, m5, hb5, acc ++ [yd], accV ++ [yv], upd_same, (acc5.append (RelDs.cons ryv RelDs.nil')).keep kw, aw, (pst s45).wr, q7⟩
            rw [← acc5.length, ← szL_eq]; exact of_decide_eq_true hz2
          · cases q7
        · cases q7
      · rename_i hb4 z2
        refine ⟨Mp M p, m2, hb3, fr1, .ok (.bl false), hb4, a4.wd, a4.fr, z2, fun m4 H4 s4 => ⟨false, rfl, iff_ ?_⟩⟩
        exact ⟨m4, hb4, acc, accV, s4.fr p _ q1' pn3, q2'.keep s4.keeps, a3.step s4, pst s4, q7⟩
      · cases q7
  · rintro H2 ⟨m2, hb3, acc, accV, q1, q2, q3, q4, q7⟩
    rw [List.drop_length] at q7
    cases q7
    exact hN m2 H2 accV q1 q2 q3 q4
end
section
variable {X : Cx} {W : WX} {pos : Pos} {tg iter tg1 iter1 elt : Expr} {ifs ifs1 : List Expr} {scope : Scope} {own : List (Str × Nat)} {iv iv1 : Iv} {t t1 : Tg} {c c1 el : Ev}
theorem lc2_reads {K : PySem.W.Frag} {σ : St} {H : Hp} {vs vs1 : List Nat} {Q : VK} (hv : ∀ i ∈ t.slots, i ∈ vs) (hv1 : ∀ i ∈ t1.slots, i ∈ vs1) (h : tC' K W (cLc2 iv t vs c iv1 t1 vs1 c1 el) σ H Q) :
    tLc2 (tI K W iv) (gT K t) (tT K W0 c) (tI K W0 iv1) (gT K t1) (tT K W0 c1) (tE K W0 el) vs vs1 σ H Q := by
  obtain ⟨M, m, hb, fr, r, hb', at_, e, cc⟩ := h
  unfold cLc2 at e
  split at e
  · rename_i ds fz hb1 e1
    split at e
    · rename_i ys hb2 e2
      cases e
      refine ⟨M, m, hb, fr, .inl (.ls ds fz), hb1, at_, e1, fun m1 H1 s1 J Gd Y wd p hp => ?_⟩
      have a1 := at_.step s1
      have w1 := a1.wd.grow (o := .lst []) hp
      have hk0 : ∀ a o, H1 a = some o → upd H1 p (.lst []) a = some o := fun a o q => by rw [upd_ne (ne_of_none q hp)]; exact q
      have f1 : FrR K (Mp M p) m1 (upd H1 p (.lst [])) fr σ := ⟨a1.fr.1, fun i sv q => by
        obtain ⟨x, q1, r1⟩ := a1.fr.2 i sv q
        refine ⟨x, q1, ?_⟩
        cases sv with
        | un => trivial
        | sh d => obtain ⟨v, q2, r2⟩ := r1; exact ⟨v, q2, r2.keep (Keeps.grow hp)⟩
        | ow o => obtain ⟨a, q2, hM, nm, r2⟩ := r1; exact ⟨a, q2, .inl hM, nm, r2.keep_own (Keeps.grow hp) fun u q => hk0 a u q⟩⟩
      have np : NoP fr σ p := fun j o hj hs => by
        obtain ⟨x0, c1, r0⟩ := a1.fr.2 j _ hj
        obtain ⟨b, c2, _, _, r0'⟩ := r0
        rw [hs] at c1
        cases c1
        cases c2
        obtain ⟨u0, hu0⟩ := r0'.there
        rw [hp] at hu0; cases hu0
      have pm1 : p ∉ m1 := fun z => w1.no p z (.inr rfl)
      refine it_any wd.walk (fun i H2 => ∃ m2 hb2' acc accV, H2 p = some (.lst accV) ∧ RelDs K (Bd (Mp M p) m2) m2 H2 acc accV ∧ At K (Mp M p) m2 H2 hb2' fr σ ∧ PStp p m1 H1 m2 H2 ∧
        lc2L t c iv1 t1 vs1 c1 el (ds.drop i) acc (wipeF fr vs) hb2' = some (ys, hb')) ⟨m1, hb1, [], [], upd_same, RelDs.nil', ⟨w1, f1⟩, PStp.refl.wr, e2⟩ ?_ ?_ ?_
      · rintro i H2 hi ⟨m2, hb3, acc, accV, q1, q2, q3, q4, q7⟩
        refine wd.stand H2 fun a o q nb => q4.fr a o q (fun z => nb ?_) (ne_of_none q hp)
        cases fz with
        | true => exact .inr z
        | false => exact z
      · rintro i x H2 H3 hi ⟨m2, hb3, acc, accV, q1, q2, q3, q4, q7⟩ y
        have kk : Keeps (Bd M m1) (Bd (Mp M p) m2) m1 m2 H1 H2 := ⟨q4.pre, fun a o q n => by
          have n1 : a ∉ m1 := fun z => n (.inr z)
          have n2 : a ≠ p := ne_of_none q hp
          refine ⟨q4.fr a o q n1 n2, fun z => ?_⟩
          rcases z with (z | z) | z
          · exact n (.inl z)
          · exact n2 z
          · have := q4.new a z n1
            rw [q] at this; cases this⟩
        obtain ⟨d, hd, rd⟩ := wd.item i H2 x H3 hi y _ m2 kk fun a ha => fresh_no q3.wd ha
        have st3 : Stp K (Mp M p) m2 H2 m2 H3 hb3 := by
          rcases wd.heap i H2 x H3 y with rfl | ⟨a, ws, ha, rfl⟩
          · exact Stp.refl q3.wd
          · exact q3.wd.laid ha
        have a3 := q3.step st3
        have pn3 : p ∉ m2 := fun z => q3.wd.no p z (.inr rfl)
        have q1' : H3 p = some (.lst accV) := st3.fr p _ q1 pn3
        have q2' := q2.keep st3.keeps
        have hdrop : ds.drop i = d :: ds.drop (i + 1) := by
          have hlt := (List.getElem?_eq_some_iff.mp hd).1
          rw [List.drop_eq_getElem_cons hlt, (List.getElem?_eq_some_iff.mp hd).2]
        rw [hdrop] at q7
        unfold lc2L at q7
        split at q7
        · cases q7
        · rename_i fr1 z1
          refine stT_at (a3.wipe vs) rd z1 hv fun σ4 a4 ws => ⟨ws.trans (wipe_wipe σ vs), ?_⟩
          have np1 : NoP fr1 σ4 p := np.turn z1 (ws.trans (wipe_wipe σ vs))
          have pst : ∀ {m4 : List Addr} {H4 : Hp} {hb4 : HB}, Stp K (Mp M p) m2 H3 m4 H4 hb4 → PStp p m1 H1 m4 H4 := fun s4 =>
            q4.trans (fun z => s4.wd.no p z (.inr rfl)) (.of (st3.trans s4))
          split at q7
          · rename_i hb4 z2
            refine ⟨Mp M p, m2, hb3, fr1, .ok (.bl true), hb4, a4.wd, a4.fr, z2, fun m4 H4 s4 => ⟨true, rfl, ift ?_⟩⟩
            split at q7
            · rename_i es hb5 z3
              split at q7
              · rename_i acc' hb6 z4
                refine ⟨Mp M p, m4, hb4, fr1, .inl (.ls es true), hb5, a4.step s4, z3, fun m5 H5 s5 J1 Gd1 Y1 wd1 => ?_⟩
                have s45 := s4.trans s5
                have a5 := (a4.step s4).step s5
                refine lc_inner a5 np1 (s45.fr p _ q1' pn3) (q2'.keep s45.keeps) wd1 hv1 z4 fun m6 H6 accV' r1 r2 r3 r4 => ?_
                refine ⟨m6, hb6, acc', accV', r1, r2, ?_, (pst s45).trans (fun z => r3.wd.no p z (.inr rfl)) r4, q7⟩
                -- the outer frame behind the inner loop
                have ao := a3.step s45
                refine ⟨r3.wd, ao.fr.1, fun j sv q => ?_⟩
                obtain ⟨x', q8, r8⟩ := ao.fr.2 j sv q
                have kx : Keeps (Bd (Mp M p) m5) (Bd (Mp M p) m6) m5 m6 H5 H6 := ⟨r4.pre, fun a o q n => by
                  have n1 : a ∉ m5 := fun z => n (.inr z)
                  have n2 : a ≠ p := fun z => n (.inl (.inr z))
                  refine ⟨r4.fr a o q n1 n2, fun z => ?_⟩
                  rcases z with z | z
                  · exact n (.inl z)
                  · have := r4.new a z n1
                    rw [q] at this; cases this⟩
                refine ⟨x', q8, ?_⟩
                cases sv with
                | un => trivial
                | sh d' => obtain ⟨v', q9, r9⟩ := r8; exact ⟨v', q9, r9.keep kx⟩
                | ow o' =>
                  obtain ⟨b, q9, hM, nm, r9⟩ := r8
                  have hbp : b ≠ p := fun z => by
                    subst z
                    exact np j o' q (by rw [q8, q9])
                  exact ⟨b, q9, hM, fun z => r3.wd.no b z hM, r9.keep_own kx fun u q2 => r4.fr b u q2 nm hbp⟩
              · cases q7
            · cases q7
          · rename_i hb4 z2
            refine ⟨Mp M p, m2, hb3, fr1, .ok (.bl false), hb4, a4.wd, a4.fr, z2, fun m4 H4 s4 => ⟨false, rfl, iff_ ?_⟩⟩
            exact ⟨m4, hb4, acc, accV, s4.fr p _ q1' pn3, q2'.keep s4.keeps, a3.step s4, pst s4, q7⟩
          · cases q7
      · rintro H2 ⟨m2, hb3, acc, accV, q1, q2, q3, q4, q7⟩
        rw [List.drop_length] at q7
        cases q7
        refine cc m2 H2 p ⟨?_, fun a ha hn => ?_, fun a o q hn => ?_, q3.wd, s1.free hp at_.wd⟩ ⟨accV, q1, q2⟩
        · obtain ⟨l1, hl1⟩ := s1.pre
          obtain ⟨l2, hl2⟩ := q4.pre
          exact ⟨l1 ++ l2, by rw [hl2, hl1, List.append_assoc]⟩
        · by_cases h1 : a ∈ m1
          · exact s1.new a h1 hn
          · have := q4.new a ha h1
            cases q : H a with
            | none => rfl
            | some o => have z := s1.fr a o q hn; rw [this] at z; cases z
        · have z := s1.fr a o q hn
          refine q4.fr a o z (fun k => ?_) (ne_of_none z hp)
          have := s1.new a k hn
          rw [q] at this; cases this
    · cases e
  · rename_i x hb1 e1
    cases e
    exact ⟨M, m, hb, fr, .inr x, _, at_, e1, fun m1 H1 s1 => cc m1 H1 s1⟩
  · cases e
theorem sc_lc2 {vs1 : List Nat} (hc : X.calm = true) (hN : X.N.Nodup) (hi : SI X W tg iter iv) (ok : BlkOk X.N X.env.scope scope own) (hv1 : ∀ i ∈ t1.slots, i ∈ vs1) (hw1 : ∀ i ∈ vs1, i ∈ own.map (·.2)) (hv : ∀ i ∈ t.slots, i ∈ own.map (·.2))
    (hg : Blk X scope fun Y => SG Y tg t) (ht : Blk X scope fun Y => STs Y W0 ifs c) (hi1 : Blk X scope fun Y => SI Y W0 tg1 iter1 iv1) (hg1 : Blk X scope fun Y => SG Y tg1 t1) (ht1 : Blk X scope fun Y => STs Y W0 ifs1 c1) (he : Blk X scope fun Y => SE Y W0 elt el)
    (hs : ∀ x, foldedSetIterable iter X.env x = pure x := by intro _; rfl) (hs1 : ∀ env x, foldedSetIterable iter1 env x = pure x := by intro _ _; rfl) :
    SC X W (.ListComp elt [⟨tg, iter, ifs, 0⟩, ⟨tg1, iter1, ifs1, 0⟩] scope pos) (cLc2 iv t (own.map (·.2)) c iv1 t1 vs1 c1 el) :=
  PE.mono (pe_lc2 hc hN hi ok hw1 hg ht hi1 hg1 ht1 he hs hs1) fun _ _ _ h => lc2_reads hv hv1 h
theorem ss_ownLc2 {G : Gh} {i : Nat} {y : Str} {py spos : Pos} {vs1 : List Nat} (hpin : G.pin = none ∨ i ≠ 0) (hc : X.calm = true) (hN : X.N.Nodup) (hy : X.N[i]? = some y) (hyl : X.env.scope.names.lookup y = some .local)
    (hsw : swapsWith (.ListComp elt [⟨tg, iter, ifs, 0⟩, ⟨tg1, iter1, ifs1, 0⟩] scope pos) (some (.Name y py)) spos.line X.env = pure true)
    (hi : SI X W tg iter iv) (ok : BlkOk X.N X.env.scope scope own) (hv1 : ∀ i ∈ t1.slots, i ∈ vs1) (hw1 : ∀ i ∈ vs1, i ∈ own.map (·.2)) (hv : ∀ i ∈ t.slots, i ∈ own.map (·.2))
    (hg : Blk X scope fun Y => SG Y tg t) (ht : Blk X scope fun Y => STs Y W0 ifs c) (hi1 : Blk X scope fun Y => SI Y W0 tg1 iter1 iv1) (hg1 : Blk X scope fun Y => SG Y tg1 t1) (ht1 : Blk X scope fun Y => STs Y W0 ifs1 c1) (he : Blk X scope fun Y => SE Y W0 elt el)
    (hs : ∀ x, foldedSetIterable iter X.env x = pure x := by intro _; rfl) (hs1 : ∀ env x, foldedSetIterable iter1 env x = pure x := by intro _ _; rfl) :
    SS X W G (.Assign [.Name y py] (.ListComp elt [⟨tg, iter, ifs, 0⟩, ⟨tg1, iter1, ifs1, 0⟩] scope pos) spos) (sOwn i (cLc2 iv t (own.map (·.2)) c iv1 t1 vs1 c1 el)) :=
  PS.mono (ps_setLc2 hc hN hy hyl hsw hi ok hw1 hg ht hi1 hg1 ht1 he hs hs1) fun D σ H h => by
    have z := tS_own hpin h
    show tLc2 (tI X.K W iv) (gT X.K t) (tT X.K W0 c) (tI X.K W0 iv1) (gT X.K t1) (tT X.K W0 c1) (tE X.K W0 el) (own.map (·.2)) vs1 σ H (fun x H1 => gName i x σ H1 D.nx)
    exact lc2_reads hv hv1 z
end
end DI
set_option Elab.async false
set_option linter.all false
set_option maxRecDepth 100000
set_option maxHeartbeats 1000000
/-! what an evaluator answers, by rules -/
namespace DI
open PySem
/-- it answers, and so that Q -/
@[irreducible] def wp {α : Type} (o : Option (α × HB)) (Q : α → HB → Prop) : Prop := match o with
  | some (a, h) => Q a h
  | none => False
section
variable {α : Type} {o : Option (α × HB)} {Q Q' : α → HB → Prop} {a : α} {h hb : HB} {fr : Fr}
@[simp] theorem wp_some : wp (some (a, h)) Q = Q a h := by with_unfolding_all rfl
theorem wp_i (q : Q a h) : wp (some (a, h)) Q := by rw [wp_some]; exact q
@[simp] theorem wp_none : wp (none : Option (α × HB)) Q = False := by with_unfolding_all rfl
theorem wp_ex : wp o Q ↔ ∃ a h, o = some (a, h) ∧ Q a h := by
  unfold wp
  constructor
  · intro h
    split at h
    · exact ⟨_, _, rfl, h⟩
    · exact h.elim
  · rintro ⟨a, h, rfl, q⟩
    exact q
theorem wp_mono (h : wp o Q) (i : ∀ a h, Q a h → Q' a h) : wp o Q' := by
  obtain ⟨a, h', rfl, q⟩ := wp_ex.mp h
  rw [wp_some]
  exact i _ _ q
@[simp] theorem wp_ite {c : Prop} [Decidable c] {o' : Option (α × HB)} : wp (if c then o else o') Q = if c then wp o Q else wp o' Q := by split <;> with_unfolding_all rfl
theorem wp_if {c : Prop} [Decidable c] : wp (if c then some (a, h) else none) Q = if c then Q a h else False := by rw [wp_ite, wp_some, wp_none]
/-- the answer of a value, else as it is -/
abbrev onOk (k : D → HB → Prop) (Q : R → HB → Prop) : R → HB → Prop := fun r h => match r with
  | .ok d => k d h
  | .exn x => Q (.exn x) h
abbrev onL {β : Type} (k : β → HB → Prop) (q : Xn → HB → Prop) : β ⊕ Xn → HB → Prop := fun r h => match r with
  | .inl d => k d h
  | .inr x => q x h
theorem wpR {β : Type} {o : Option (R × HB)} {F : D → HB → Option (β × HB)} {G : Xn → β} {Q : β → HB → Prop} : wp (match o with
  | some (.ok d, h) => F d h
  | some (.exn x, h) => some (G x, h)
  | none => none) Q = wp o (fun r h => match r with
    | .ok d => wp (F d h) Q
    | .exn x => Q (G x) h) := by
  cases o with
  | none => with_unfolding_all rfl
  | some p => obtain ⟨r, h⟩ := p; cases r <;> with_unfolding_all rfl
theorem wpL {β γ : Type} {o : Option ((γ ⊕ Xn) × HB)} {F : γ → HB → Option (β × HB)} {G : Xn → β} {Q : β → HB → Prop} : wp (match o with
  | some (.inl d, h) => F d h
  | some (.inr x, h) => some (G x, h)
  | none => none) Q = wp o (onL (fun d h => wp (F d h) Q) fun x h => Q (G x) h) := by
  cases o with
  | none => with_unfolding_all rfl
  | some p => obtain ⟨r, h⟩ := p; cases r <;> with_unfolding_all rfl
theorem wpN {β γ : Type} {o : Option γ} {F : γ → Option (β × HB)} {Q : β → HB → Prop} : wp (match o with
  | some d => F d
  | none => none) Q = (match o with
    | some d => wp (F d) Q
    | none => False) := by
  cases o <;> with_unfolding_all rfl
end
section
variable {ev ev2 ev3 : Ev} {evs evs2 : Evs} {fr : Fr} {hb : HB} {Q : R → HB → Prop} {QL : List D ⊕ Xn → HB → Prop} {QS : SR → HB → Prop} {QO : O ⊕ Xn → HB → Prop} {QI : Src ⊕ Xn → HB → Prop} {d d2 : D} {g : D → D → Ev} {i : Nat}
theorem wpE_bind {k : D → Ev} : wp (eBind ev k fr hb) Q = wp (ev fr hb) (onOk (fun d h => wp (k d fr h) Q) Q) := by
  unfold eBind wp
  cases ev fr hb with
  | none => with_unfolding_all rfl
  | some p => obtain ⟨r, h⟩ := p; cases r <;> with_unfolding_all rfl
@[simp] theorem wpE_c : wp (eC d fr hb) Q = Q (.ok d) hb := by with_unfolding_all rfl
@[simp] theorem wpE_v : wp (eV i fr hb) Q = match fr[i]? with
  | some (.sh d) => Q (.ok d) hb
  | some (.ow _) => Q (.ok (.loc i)) hb
  | _ => False := by
  unfold eV
  rcases fr[i]? with _ | (_ | _ | _) <;> with_unfolding_all rfl
@[simp] theorem wpE_op2 : wp (eOp2 g ev ev2 fr hb) Q = wp (ev fr hb) (onOk (fun x h => wp (ev2 fr h) (onOk (fun y h2 => wp (g x y fr h2) Q) Q)) Q) := by
  unfold eOp2; simp only [wpE_bind]
@[simp] theorem wpEs_nil : wp (eNil fr hb) QL = QL (.inl []) hb := by with_unfolding_all rfl
@[simp] theorem wpEs_cons : wp (eCons ev evs fr hb) QL = wp (ev fr hb) (fun r h => match r with
  | .ok d => wp (evs fr h) (fun r h => match r with
    | .inl ds => QL (.inl (d :: ds)) h
    | .inr x => QL (.inr x) h)
  | .exn x => QL (.inr x) h) := by
  unfold eCons
  rcases ev fr hb with _ | ⟨d | x, h⟩
  · with_unfolding_all rfl
  · simp only [wp_some]
    rcases evs fr h with _ | ⟨_ | _, _⟩ <;> with_unfolding_all rfl
  · with_unfolding_all rfl
theorem wpE_es {β : Type} {o : Option ((List D ⊕ Xn) × HB)} {f : List D → HB → Option (β × HB)} {x : Xn → β} {Q : β → HB → Prop} : wp (match (motive := Option ((List D ⊕ Xn) × HB) → Option (β × HB)) o with
  | some (.inl ds, h) => f ds h
  | some (.inr z, h) => some (x z, h)
  | none => none) Q = wp o (onL (fun ds h => wp (f ds h) Q) fun z h => Q (x z) h) := by
  cases o with
  | none => with_unfolding_all rfl
  | some p => obtain ⟨r, h⟩ := p; cases r <;> with_unfolding_all rfl
@[simp] theorem wpE_eL {g : List D → Ev} : wp (eL g evs fr hb) Q = wp (evs fr hb) (onL (fun ds h => wp (g ds fr h) Q) fun x h => Q (.exn x) h) := by
  unfold eL wp
  cases evs fr hb with
  | none => with_unfolding_all rfl
  | some p => obtain ⟨r, h⟩ := p; cases r <;> with_unfolding_all rfl
@[simp] theorem wpE_callN {n : Nat} {f : FSem} : wp (eCallN n f evs fr hb) Q = wp (evs fr hb) (onL (fun ds h => if (allVal ds && ds.length == n) = true then wp (f ds h) Q else False) fun x h => Q (.exn x) h) := by
  unfold eCallN
  rw [wpE_eL]
  simp only [wp_ite, wp_none]
@[simp] theorem wpE_callR {f : FSem} : wp (eCallR f evs fr hb) Q = wp (evs fr hb) (onL (fun ds h => if allVal ds = true then wp (f ds h) Q else False) fun x h => Q (.exn x) h) := by
  unfold eCallR
  rw [wpE_eL]
  simp only [wp_ite, wp_none]
@[simp] theorem wpE_tup : wp (eTup evs fr hb) Q = wp (evs fr hb) (onL (fun ds h => if (allVal ds && decide (ds.length ≤ szL)) = true then Q (.ok (.tup ds)) h else False) fun x h => Q (.exn x) h) := by
  unfold eTup
  rcases evs fr hb with _ | ⟨ds | x, h⟩
  · with_unfolding_all rfl
  · simp only [wp_some, onL]
    rw [wp_ite]; with_unfolding_all rfl
  · with_unfolding_all rfl
@[simp] theorem wpE_lst : wp (eLst evs fr hb) Q = wp (evs fr hb) (onL (fun ds h => if (allVal ds && decide (ds.length ≤ szL)) = true then Q (.ok (.lst ds)) h else False) fun x h => Q (.exn x) h) := by
  unfold eLst
  rcases evs fr hb with _ | ⟨ds | x, h⟩
  · with_unfolding_all rfl
  · simp only [wp_some, onL]
    rw [wp_ite]; with_unfolding_all rfl
  · with_unfolding_all rfl
@[simp] theorem wpE_and : wp (eAnd ev ev2 fr hb) Q = wp (ev fr hb) (onOk (fun x h => match x with
  | .bl true => wp (ev2 fr h) Q
  | .bl false => Q (.ok (.bl false)) h
  | _ => False) Q) := by
  unfold eAnd; rw [wpE_bind]; congr 1; funext r h; cases r with
  | exn x => with_unfolding_all rfl
  | ok d => cases d <;> first | with_unfolding_all rfl | (rename_i b; cases b <;> with_unfolding_all rfl)
@[simp] theorem wpE_or : wp (eOr ev ev2 fr hb) Q = wp (ev fr hb) (onOk (fun x h => match x with
  | .bl true => Q (.ok (.bl true)) h
  | .bl false => wp (ev2 fr h) Q
  | _ => False) Q) := by
  unfold eOr; rw [wpE_bind]; congr 1; funext r h; cases r with
  | exn x => with_unfolding_all rfl
  | ok d => cases d <;> first | with_unfolding_all rfl | (rename_i b; cases b <;> with_unfolding_all rfl)
@[simp] theorem wpE_not : wp (eNot ev fr hb) Q = wp (ev fr hb) (onOk (fun x h => match x with
  | .bl b => Q (.ok (.bl (!b))) h
  | _ => False) Q) := by
  unfold eNot; rw [wpE_bind]; congr 1; funext r h; cases r with
  | exn x => with_unfolding_all rfl
  | ok d => cases d <;> with_unfolding_all rfl
@[simp] theorem wpE_if : wp (eIf ev ev2 ev3 fr hb) Q = wp (ev fr hb) (onOk (fun x h => match x with
  | .bl true => wp (ev2 fr h) Q
  | .bl false => wp (ev3 fr h) Q
  | _ => False) Q) := by
  unfold eIf; rw [wpE_bind]; congr 1; funext r h; cases r with
  | exn x => with_unfolding_all rfl
  | ok d => cases d <;> first | with_unfolding_all rfl | (rename_i b; cases b <;> with_unfolding_all rfl)
@[simp] theorem wpE_isN {b : Bool} : wp (gIsN b d fr hb) Q = Q (.ok (.bl (b != d.isN))) hb := by with_unfolding_all rfl
@[simp] theorem wpE_chain {g g' : D → D → Ev} : wp (eChain g g' ev ev2 ev3 fr hb) Q = wp (ev fr hb) (onOk (fun x h => wp (ev2 fr h) (onOk (fun y h => wp (g x y fr h) (onOk (fun z h => match z with
  | .bl true => wp (ev3 fr h) (onOk (fun w h => wp (g' y w fr h) Q) Q)
  | .bl false => Q (.ok (.bl false)) h
  | _ => False) Q)) Q)) Q) := by
  unfold eChain
  simp only [wpE_bind]
  congr 1; funext r h; cases r with
  | exn x => with_unfolding_all rfl
  | ok d =>
    show wp (ev2 fr h) _ = wp (ev2 fr h) _
    congr 1; funext r h; cases r with
    | exn x => with_unfolding_all rfl
    | ok d2 =>
      show wp (g d d2 fr h) _ = wp (g d d2 fr h) _
      congr 1; funext r h; cases r with
      | exn x => with_unfolding_all rfl
      | ok d => cases d <;> first | with_unfolding_all rfl | (rename_i b; cases b <;> first | with_unfolding_all rfl | exact wpE_bind)
/-! slices -/
theorem wpE_cut {lo hi : Eo} : wp (eCut ev lo hi fr hb) Q = wp (ev fr hb) (onOk (fun x h => wp (lo fr h) (onL (fun l h => wp (hi fr h) (onL (fun u h => wp (gCut l u x fr h) Q) fun x h => Q (.exn x) h)) fun x h => Q (.exn x) h)) Q) := by
  unfold eCut; rw [wpE_bind]; congr 1; funext r h; cases r with
  | exn x => with_unfolding_all rfl
  | ok d =>
    dsimp only [onOk]
    rcases lo fr h with _ | ⟨l | x, h⟩
    · with_unfolding_all rfl
    · simp only [wp_some, onL]
      rcases hi fr h with _ | ⟨l | x, h⟩ <;> with_unfolding_all rfl
    · with_unfolding_all rfl
@[simp] theorem wpO_none {Qo : Option Int ⊕ Xn → HB → Prop} : wp (oNone fr hb) Qo = Qo (.inl none) hb := by with_unfolding_all rfl
@[simp] theorem wpO_some {Qo : Option Int ⊕ Xn → HB → Prop} : wp (oSome ev fr hb) Qo = wp (ev fr hb) (fun r h => match r with
  | .ok (.int i) => Qo (.inl (some i)) h
  | .exn x => Qo (.inr x) h
  | _ => False) := by
  unfold oSome wp
  cases ev fr hb with
  | none => with_unfolding_all rfl
  | some p => obtain ⟨r, h⟩ := p; cases r with
    | exn x => with_unfolding_all rfl
    | ok d => cases d <;> with_unfolding_all rfl
/-! creators -/
variable {cv : Cv}
@[simp] theorem wpE_fz : wp (eFz cv fr hb) Q = wp (cv fr hb) (onL (fun o h => Q (.ok o.d) h) fun x h => Q (.exn x) h) := by
  unfold eFz wp
  cases cv fr hb with
  | none => with_unfolding_all rfl
  | some p => obtain ⟨r, h⟩ := p; cases r <;> with_unfolding_all rfl
@[simp] theorem wpE_bx : wp (eBx cv fr hb) Q = wp (cv fr hb) (onL (fun o h => Q (.ok (.box h.length)) (h ++ [o])) fun x h => Q (.exn x) h) := by
  unfold eBx wp
  cases cv fr hb with
  | none => with_unfolding_all rfl
  | some p => obtain ⟨r, h⟩ := p; cases r <;> with_unfolding_all rfl
@[simp] theorem wpC_lst : wp (cLst evs fr hb) QO = wp (evs fr hb) (onL (fun ds h => if (allVal ds && decide (ds.length ≤ szL)) = true then QO (.inl (.lst ds)) h else False) fun x h => QO (.inr x) h) := by
  unfold cLst
  rcases evs fr hb with _ | ⟨ds | x, h⟩
  · with_unfolding_all rfl
  · simp only [wp_some, onL]
    rw [wp_ite]; with_unfolding_all rfl
  · with_unfolding_all rfl
@[simp] theorem wpC_call {gl : GL} : wp (cCall gl evs fr hb) QO = wp (evs fr hb) (onL (fun ds h => match gl ds fr h with
  | some ys => QO (.inl (.lst ys)) h
  | none => False) fun x h => QO (.inr x) h) := by
  unfold cCall
  rcases evs fr hb with _ | ⟨ds | x, h⟩
  · with_unfolding_all rfl
  · simp only [wp_some, onL]
    cases gl ds fr h <;> with_unfolding_all rfl
  · with_unfolding_all rfl
@[simp] theorem wpC_lrg : wp (cLRg evs fr hb) QO = wp (evs fr hb) (fun r h => match r with
  | .inl [.int j] => if (smI j && decide (j ≤ szL)) = true then QO (.inl (.lst (rngD 0 j))) h else False
  | .inr x => QO (.inr x) h
  | _ => False) := by
  unfold cLRg
  cases evs fr hb with
  | none => with_unfolding_all rfl
  | some p =>
    obtain ⟨r, h⟩ := p
    cases r with
    | inr x => with_unfolding_all rfl
    | inl ds =>
      rcases ds with _ | ⟨d, _ | ⟨_, _⟩⟩
      · with_unfolding_all rfl
      · cases d <;> first | with_unfolding_all rfl | (simp only [wp_some, wp_ite, wp_none])
      · cases d <;> with_unfolding_all rfl
/-! sources -/
@[simp] theorem wpI_val : wp (iVal ev fr hb) QI = wp (ev fr hb) (onOk (fun d h => match d with
  | .str s => QI (.inl (.ls (s.map fun ch => .str [ch]) true)) h
  | .tup xs => QI (.inl (.ls xs true)) h
  | .lst xs => QI (.inl (.ls xs true)) h
  | .fz xs => QI (.inl (.ls xs true)) h
  | .loc i => (match vLst fr h (.loc i) with
    | some xs => QI (.inl (.ls xs false)) h
    | none => False)
  | .box n => (match h[n]? with
    | some (.lst _) => QI (.inl (.bx n false)) h
    | _ => False)
  | _ => False) fun r h => match r with
    | .exn x => QI (.inr x) h
    | _ => False) := by
  unfold iVal
  cases ev fr hb with
  | none => with_unfolding_all rfl
  | some p =>
    obtain ⟨r, h⟩ := p
    cases r with
    | exn x => with_unfolding_all rfl
    | ok d =>
      cases d <;> first | with_unfolding_all rfl | skip
      · rename_i n; show wp (match h[n]? with | some (.lst _) => some (.inl (.bx n false), h) | _ => none) QI = _
        simp only [wp_some, onOk]
        rcases h[n]? with _ | (_ | _ | _) <;> with_unfolding_all rfl
      · rename_i i
        simp only [wp_some, onOk]
        cases vLst fr h (.loc i) <;> with_unfolding_all rfl
@[simp] theorem wpI_rng1 : wp (iRng1D evs fr hb) QI = wp (evs fr hb) (fun r h => match r with
  | .inl [.int j] => if smI j = true then QI (.inl (.ls (rngD 0 j) true)) h else False
  | .inr x => QI (.inr x) h
  | _ => False) := by
  unfold iRng1D
  cases evs fr hb with
  | none => with_unfolding_all rfl
  | some p =>
    obtain ⟨r, h⟩ := p
    cases r with
    | inr x => with_unfolding_all rfl
    | inl ds =>
      rcases ds with _ | ⟨d, _ | ⟨_, _⟩⟩
      · with_unfolding_all rfl
      · cases d <;> first | with_unfolding_all rfl | (simp only [wp_some, wp_ite, wp_none])
      · cases d <;> with_unfolding_all rfl
@[simp] theorem wpI_rng2 : wp (iRng2D evs fr hb) QI = wp (evs fr hb) (fun r h => match r with
  | .inl [.int i, .int j] => if (smI i && smI j) = true then QI (.inl (.ls (rngD i j) true)) h else False
  | .inr x => QI (.inr x) h
  | _ => False) := by
  unfold iRng2D
  cases evs fr hb with
  | none => with_unfolding_all rfl
  | some p =>
    obtain ⟨r, h⟩ := p
    cases r with
    | inr x => with_unfolding_all rfl
    | inl ds =>
      rcases ds with _ | ⟨d, _ | ⟨d2, _ | ⟨_, _⟩⟩⟩
      · with_unfolding_all rfl
      · cases d <;> with_unfolding_all rfl
      · cases d <;> first | with_unfolding_all rfl | (cases d2 <;> first | with_unfolding_all rfl | (simp only [wp_some, wp_ite, wp_none]))
      · cases d <;> first | with_unfolding_all rfl | (cases d2 <;> with_unfolding_all rfl)
/-! statements -/
variable {sv sv2 : Sv}
@[simp] theorem wpS_nil : wp (sNil fr hb) QS = QS (.nx fr) hb := by with_unfolding_all rfl
@[simp] theorem wpS_seq : wp (sSeq sv sv2 fr hb) QS = wp (sv fr hb) (fun r h => match r with
  | .nx fr1 => wp (sv2 fr1 h) QS
  | .rt d => QS (.rt d) h
  | .bk f => QS (.bk f) h
  | .ct f => QS (.ct f) h
  | .ex x => QS (.ex x) h) := by
  unfold sSeq wp
  cases sv fr hb with
  | none => with_unfolding_all rfl
  | some p => obtain ⟨r, h⟩ := p; cases r <;> with_unfolding_all rfl
@[simp] theorem wpS_drop : wp (sDrop ev fr hb) QS = wp (ev fr hb) (fun r h => match r with
  | .ok _ => QS (.nx fr) h
  | .exn x => QS (.ex x) h) := by
  unfold sDrop wp
  cases ev fr hb with
  | none => with_unfolding_all rfl
  | some p => obtain ⟨r, h⟩ := p; cases r <;> with_unfolding_all rfl
@[simp] theorem wpS_set : wp (sSet i ev fr hb) QS = wp (ev fr hb) (fun r h => match r with
  | .ok d => if d.isVal = true then QS (.nx (fr.set i (.sh d))) h else False
  | .exn x => QS (.ex x) h) := by
  refine (wpR (β := SR) (F := fun d h => if d.isVal = true then some (.nx (fr.set i (.sh d)), h) else none) (G := .ex)).trans ?_
  simp only [wp_ite, wp_some, wp_none]
@[simp] theorem wpS_if : wp (sIf ev sv sv2 fr hb) QS = wp (ev fr hb) (fun r h => match r with
  | .ok (.bl true) => wp (sv fr h) QS
  | .ok (.bl false) => wp (sv2 fr h) QS
  | .exn x => QS (.ex x) h
  | _ => False) := by
  unfold sIf wp
  cases ev fr hb with
  | none => with_unfolding_all rfl
  | some p => obtain ⟨r, h⟩ := p; cases r with
    | exn x => with_unfolding_all rfl
    | ok d => cases d <;> first | with_unfolding_all rfl | (rename_i b; cases b <;> with_unfolding_all rfl)
/-- what a slot's own object is as a value -/
def rtD (fr : Fr) (d : D) : Option D := match d with
  | .loc i => match fr[i]? with
    | some (.ow o) => some o.d
    | _ => none
  | d => some d
@[simp] theorem wpS_ret : wp (sRet ev fr hb) QS = wp (ev fr hb) (fun r h => match r with
  | .ok d => (match rtD fr d with
    | some x => QS (.rt x) h
    | none => False)
  | .exn x => QS (.ex x) h) := by
  unfold sRet rtD
  cases ev fr hb with
  | none => with_unfolding_all rfl
  | some p => obtain ⟨r, h⟩ := p; cases r with
    | exn x => with_unfolding_all rfl
    | ok d =>
      cases d <;> first | with_unfolding_all rfl | skip
      rename_i i
      simp only [D.isVal, wp_some]
      rcases fr[i]? with _ | (_ | _ | (_ | _ | _)) <;> with_unfolding_all rfl
@[simp] theorem wpS_own : wp (sOwn i cv fr hb) QS = wp (cv fr hb) (onL (fun o h => if i < fr.length then QS (.nx (fr.set i (.ow o))) h else False) fun x h => QS (.ex x) h) := by
  unfold sOwn
  rcases cv fr hb with _ | ⟨ds | x, h⟩
  · with_unfolding_all rfl
  · simp only [wp_some, onL]
    rw [wp_ite]; with_unfolding_all rfl
  · with_unfolding_all rfl
@[simp] theorem wpS_fz : wp (sFz i sv fr hb) QS = wp (sv fr hb) (fun r h => match r with
  | .nx fr1 => (match fr1[i]? with
    | some (.ow o) => QS (.nx (fr1.set i (.sh o.d))) h
    | _ => False)
  | r => QS r h) := by
  unfold sFz
  cases sv fr hb with
  | none => with_unfolding_all rfl
  | some p =>
    obtain ⟨r, h⟩ := p
    cases r with
    | nx f => simp only [wp_some]; rcases f[i]? with _ | (_ | _ | _) <;> with_unfolding_all rfl
    | _ => with_unfolding_all rfl
@[simp] theorem wpS_asg {t : Tg} : wp (sAsg t ev fr hb) QS = wp (ev fr hb) (fun r h => match r with
  | .ok d => if d.isVal = true then (match stT t d fr with
    | some fr1 => QS (.nx fr1) h
    | none => False) else False
  | .exn x => QS (.ex x) h) := by
  unfold sAsg
  rcases ev fr hb with _ | ⟨d | x, h⟩
  · with_unfolding_all rfl
  · simp only [wp_some]
    rw [wp_ite, wp_none]
    congr 1
    cases stT t d fr <;> with_unfolding_all rfl
  · with_unfolding_all rfl
/-! several at once -/
variable {QM : List MI ⊕ Xn → HB → Prop} {mxs : List Mx}
@[simp] theorem wpM_nil : wp (eMs [] fr hb) QM = QM (.inl []) hb := by with_unfolding_all rfl
@[simp] theorem wpM_v : wp (eMs (.v ev :: mxs) fr hb) QM = wp (ev fr hb) (fun r h => match r with
  | .ok d => if d.isVal = true then wp (eMs mxs fr h) (onL (fun is h => QM (.inl (.v d :: is)) h) fun x h => QM (.inr x) h) else False
  | .exn x => QM (.inr x) h) := by
  rw [eMs]
  rcases ev fr hb with _ | ⟨d | x, h⟩
  · with_unfolding_all rfl
  · simp only [wp_some]
    rw [wp_ite, wp_none]
    congr 1
    rcases eMs mxs fr h with _ | ⟨_ | _, _⟩ <;> with_unfolding_all rfl
  · with_unfolding_all rfl
@[simp] theorem wpM_o : wp (eMs (.o cv :: mxs) fr hb) QM = wp (cv fr hb) (onL (fun o h => wp (eMs mxs fr h) (onL (fun is h => QM (.inl (.o o :: is)) h) fun x h => QM (.inr x) h)) fun x h => QM (.inr x) h) := by
  rw [eMs]
  rcases cv fr hb with _ | ⟨d | x, h⟩
  · with_unfolding_all rfl
  · simp only [wp_some, onL]
    rcases eMs mxs fr h with _ | ⟨_ | _, _⟩ <;> with_unfolding_all rfl
  · with_unfolding_all rfl
@[simp] theorem wpS_multi {is : List Nat} : wp (sMulti is mxs fr hb) QS = wp (eMs mxs fr hb) (onL (fun items h => match stMI is items fr with
  | some fr1 => QS (.nx fr1) h
  | none => False) fun x h => QS (.ex x) h) := by
  unfold sMulti
  rcases eMs mxs fr hb with _ | ⟨its | x, h⟩
  · with_unfolding_all rfl
  · simp only [wp_some, onL]
    cases stMI is its fr <;> with_unfolding_all rfl
  · with_unfolding_all rfl
/-! defs -/
@[simp] theorem wpF {n : Nat} {ds : List D} : wp (fnE n sv ds hb) Q = wp (sv (fr0 n ds) hb) (fun r h => match r with
  | .nx _ => Q (.ok .non) h
  | .rt d => Q (.ok d) h
  | .ex x => Q (.exn x) h
  | _ => False) := by
  unfold fnE wp
  cases sv (fr0 n ds) hb with
  | none => with_unfolding_all rfl
  | some p => obtain ⟨r, h⟩ := p; cases r <;> with_unfolding_all rfl
/-! puts, methods that write -/
@[simp] theorem wpS_put : wp (sPut ev ev2 ev3 fr hb) QS = wp (ev fr hb) (fun r h => match r with
  | .ok d => if d.isVal = true then wp (ev2 fr h) (fun r h => match r with
    | .ok x => wp (ev3 fr h) (fun r h => match r with
      | .ok k => if k.isVal = true then (match rdO fr h x with
        | some ob => (match putO k d ob with
          | some ob' => QS (.nx (wrO x ob' fr h).1) (wrO x ob' fr h).2
          | none => False)
        | none => False) else False
      | .exn z => QS (.ex z) h)
    | .exn z => QS (.ex z) h) else False
  | .exn z => QS (.ex z) h) := by
  unfold sPut
  rcases ev fr hb with _ | ⟨d | x, h⟩
  · with_unfolding_all rfl
  · simp only [wp_some]
    rw [wp_ite, wp_none]
    congr 1
    rcases ev2 fr h with _ | ⟨x | x, h⟩
    · with_unfolding_all rfl
    · simp only [wp_some]
      rcases ev3 fr h with _ | ⟨k | x, h⟩
      · with_unfolding_all rfl
      · simp only [wp_some]
        rw [wp_ite, wp_none]
        congr 1
        rcases rdO fr h x with _ | ob
        · with_unfolding_all rfl
        · dsimp only
          rcases putO k d ob with _ | ob' <;> with_unfolding_all rfl
      · with_unfolding_all rfl
    · with_unfolding_all rfl
  · with_unfolding_all rfl
@[simp] theorem wpS_bm {T : String} {om : OM} {t : Option Nat} : wp (sBM T om t ev evs fr hb) QS = wp (ev fr hb) (fun r h => match r with
  | .ok d => if isK T d fr h = true then wp (evs fr h) (onL (fun ds h => if allVal ds = true then (match rdO fr h d with
    | some ob => (match om ob ds with
      | some p => QS (.nx (toN t p.2 (wrO d p.1 fr h).1)) (wrO d p.1 fr h).2
      | none => False)
    | none => False) else False) fun x h => QS (.ex x) h) else False
  | .exn x => QS (.ex x) h) := by
  unfold sBM
  rcases ev fr hb with _ | ⟨d | x, h⟩
  · with_unfolding_all rfl
  · simp only [wp_some]
    rw [wp_ite, wp_none]
    congr 1
    rcases evs fr h with _ | ⟨ds | x, h⟩
    · with_unfolding_all rfl
    · simp only [wp_some, onL]
      unfold sBMg
      rw [wp_ite, wp_none]
      congr 1
      rcases rdO fr h d with _ | ob
      · with_unfolding_all rfl
      · dsimp only
        rcases om ob ds with _ | ⟨ob', x⟩ <;> with_unfolding_all rfl
    · with_unfolding_all rfl
  · with_unfolding_all rfl
@[simp] theorem wpE_bm {T : String} {om : OM} : wp (eBM T om ev evs fr hb) Q = wp (ev fr hb) (onOk (fun d h => if isK T d fr h = true then wp (evs fr h) (onL (fun ds h => match d with
  | .box n => (match h[n]? with
    | some ob => if allVal ds = true then (match om ob ds with
      | some p => Q (.ok p.2) (h.set n p.1)
      | none => False) else False
    | none => False)
  | _ => False) fun x h => Q (.exn x) h) else False) Q) := by
  unfold eBM; rw [wpE_bind]; congr 1; funext r h; cases r with
  | exn x => with_unfolding_all rfl
  | ok d =>
    dsimp only [onOk]
    rw [wp_ite, wp_none]
    congr 1
    rw [wpE_eL]; congr 1; funext r h; cases r with
    | inr x => with_unfolding_all rfl
    | inl ds =>
      unfold eBMg
      cases d <;> first | with_unfolding_all rfl | skip
      rename_i n
      dsimp only [onL]
      cases h[n]? with
      | none => with_unfolding_all rfl
      | some ob =>
        dsimp only
        rw [wp_ite, wp_none]
        congr 1
        cases om ob ds <;> with_unfolding_all rfl
end
end DI
set_option Elab.async false
set_option linter.all false
set_option maxRecDepth 100000
namespace DI
open PySem PySem.Spec PyProof.Rows L2
/-! ### the head: any check of the written part, and the defs -/
def obsC (chk : PySem.W.Frag → Bool) (fn : List He5.DefA) (K : PySem.W.Frag) : He.AlD := (chk K && fn.all fun d => d.ok K, fn.map fun d => He5.fnA K (d.at_ K))
def valC (fn : List He5.DefA) : He.AlD := (true, fn.map He5.DefA.val)
def SaysC (chk : PySem.W.Frag → Bool) (fn : List He5.DefA) (K : PySem.W.Frag) : Prop := obsC chk fn K = valC fn
def obsCG (n : Nat) (chk : PySem.W.Frag → Bool) (fn : List He5.DefA) (g : Addr → Option Obj) : He.AlD := obsC chk fn (He.frG g (He5.asA g n))
def hookC (n : Nat) (chk : PySem.W.Frag → Bool) (fn : List He5.DefA) : PySem.W.Hook where
  α := He.AlD
  obs := fun s => obsCG n chk fn s.heap.get?
  val := fun _ => valC fn
  says := fun _ h => ∃ K : PySem.W.Frag, K.In h ∧ SaysC chk fn K
  of := fun _ _ e => ⟨_, He.frG_in, e⟩
  keeps := fun _ _ _ ⟨K, hK, c⟩ k => ⟨K, PySem.W.Frag.In.keeps hK k, c⟩
theorem obsCG_eq {n : Nat} {chk : PySem.W.Frag → Bool} {fn : List He5.DefA} {g : Addr → Option Obj} {s : Shared} (h : ∀ a, g a = s.heap.get? a) : obsCG n chk fn g = (hookC n chk fn).obs s := by
  obtain rfl : g = s.heap.get? := funext h
  exact rfl
section
variable {chk : PySem.W.Frag → Bool} {fn : List He5.DefA} {K : PySem.W.Frag}
theorem SaysC.chk_ (c : SaysC chk fn K) : chk K = true :=
  (Bool.and_eq_true_iff.mp (show (chk K && fn.all fun d => d.ok K) = true from congrArg Prod.fst c)).1
theorem SaysC.def_ (c : SaysC chk fn K) (i : Nat) {d : He5.DefA} (h : fn[i]? = some d := by rfl) : ∃ fd, FunD K d.name d.qual d.params d.body d.scope (d.dvs K) (d.kws K) (d.at_ K) fd := by
  have c2 := (Bool.and_eq_true_iff.mp (show (chk K && fn.all fun d => d.ok K) = true from congrArg Prod.fst c)).2
  have e : fn.map (fun d => He5.fnA K (d.at_ K)) = fn.map He5.DefA.val := congrArg Prod.snd c
  have e2 : (fn.map fun d => He5.fnA K (d.at_ K))[i]? = (fn.map He5.DefA.val)[i]? := congrArg (fun l => l[i]?) e
  rw [List.getElem?_map, List.getElem?_map, h] at e2
  exact He5.DefA.funD (Option.some.inj e2) (List.all_eq_true.mp c2 d (List.mem_of_getElem? h))
end
end DI
set_option Elab.async false
set_option linter.all false
set_option maxRecDepth 100000
set_option maxHeartbeats 1000000
namespace DI
open PySem PySem.Spec PyProof.Rows L2

/-! ### more facts, by their place -/
def pa (K : PySem.W.Frag) (C : Addr) (f : Str) : Addr := match PySem.W.findIn K (.ref C) f with
  | some (some (.ref a)) => a
  | _ => 0
def pg (K : PySem.W.Frag) (C : Addr) (f : Str) : Addr := match PySem.W.recIn K (pa K C f) "property" with
  | some (.ref g :: _) => g
  | _ => 0
inductive Xf where
  | dun (c : String) (n : Str) | prop (c : String) (f : Str) | cint (c f : String) (i : Int) | nf (c : String) (cs : List String) | isi (cs : List String)
def Xf.ok (K : PySem.W.Frag) : Xf → Bool
  | .dun c n => He.eqO (PySem.W.findIn K (.ref (He.ga K c)) n) (some (some (.ref (He.ma K (He.ga K c) n)))) && PySem.W.isFn K (.ref (He.ma K (He.ga K c) n))
  | .prop c f => He.eqO (PySem.W.findIn K (.ref (He.ga K c)) f) (some (some (.ref (pa K (He.ga K c) f)))) && (He.eqO (PySem.W.specialIn K (.ref (pa K (He.ga K c) f)) "__get__") (some (some (.builtin "property.__get__"))) &&
    (decide (PySem.W.takesIn K (.ref (pa K (He.ga K c) f)) = some true) && (match PySem.W.recIn K (pa K (He.ga K c) f) "property" with
      | some (.ref g :: _) => decide (g = pg K (He.ga K c) f)
      | _ => false)))
  | .cint c f i => cnB K c f i
  | .nf c cs => nfB K c cs
  | .isi cs => isiB K cs
structure Fc (fa : List He.Fa) (xf : List Xf) (fn : List He5.DefA) (K : PySem.W.Frag) (mg : Str → Option Value) : Prop where
  fx : Fxs fa K mg
  xs : ∀ x ∈ xf, x.ok K = true
  def_ : ∀ (i : Nat) d, fn[i]? = some d → ∃ fd, FunD K d.name d.qual d.params d.body d.scope (d.dvs K) (d.kws K) (d.at_ K) fd
section
variable {fa : List He.Fa} {xf : List Xf} {fn : List He5.DefA} {K : PySem.W.Frag} {mg : Str → Option Value} (F : Fc fa xf fn K mg)
include F
theorem Fc.at_ (i : Nat) {x : Xf} (e : xf[i]? = some x) : x.ok K = true := F.xs x (List.mem_of_getElem? e)
theorem Fc.dun (i : Nat) {c : String} {n : Str} (e : xf[i]? = some (.dun c n) := by rfl) : Dun K (He.ga K c) (He.ma K (He.ga K c) n) n := by
  obtain ⟨h1, h2⟩ := He.ba (F.at_ i e)
  exact ⟨He.eqO_ok h1, h2⟩
theorem Fc.prop (i : Nat) {c : String} {f : Str} (e : xf[i]? = some (.prop c f) := by rfl) : PropOf K (He.ga K c) f (pa K (He.ga K c) f) (pg K (He.ga K c) f) := by
  obtain ⟨h1, h⟩ := He.ba (F.at_ i e)
  obtain ⟨h2, h⟩ := He.ba h
  obtain ⟨h3, h⟩ := He.ba h
  refine ⟨He.eqO_ok h1, He.eqO_ok h2, of_decide_eq_true h3, ?_⟩
  split at h
  · rename_i g rest e
    obtain rfl := of_decide_eq_true h
    exact ⟨rest, e⟩
  · cases h
theorem Fc.cint (i : Nat) {c f : String} {n : Int} (e : xf[i]? = some (.cint c f n) := by rfl) : cnB K c f n = true := F.at_ i e
theorem Fc.nf (i : Nat) {c : String} {cs : List String} (e : xf[i]? = some (.nf c cs) := by rfl) : nfB K c cs = true := F.at_ i e
theorem Fc.isi (i : Nat) {cs : List String} (e : xf[i]? = some (.isi cs) := by rfl) : isiB K cs = true := F.at_ i e
end
theorem fldF1 {K : PySem.W.Frag} {c f : String} (h1 : Cls K (He.ga K c)) (h2 : NoAttr K (He.ga K c) f) : FldF K [c] f := fun x hx => by
  rw [List.mem_singleton] at hx
  subst hx
  exact ⟨h1, h2⟩

section
variable {X : Cx} {s : Shared} {H : Hp} {scope : Scope} {cl : List (Str × Addr)} {C : Addr} {fp : List Addr} {x : Str}
theorem loc_blk (hk : locB scope x = true) : Loc (X.blk s H scope (compEnvC scope cl C X.env) fp).env.scope x := by
  show (relabel scope X.env).names.lookup x = _ ∨ (relabel scope X.env).names.lookup x = _
  unfold locB at hk
  rcases relabel_lookup (scope := scope) (env := X.env) (x := x) with e | ⟨e, _⟩
  · rw [e]
    split at hk
    · exact .inl (by assumption)
    · exact .inr (by assumption)
    · cases hk
  · rw [e] at hk; cases hk
theorem fnl_blk (hk : locB scope x = true) : (X.blk s H scope (compEnvC scope cl C X.env) fp).fn x = true ∨ (X.blk s H scope (compEnvC scope cl C X.env) fp).env.scope.names.lookup x = some .local := by
  unfold locB at hk
  split at hk
  · exact .inr (lcl_blk (by assumption))
  · refine .inl ?_
    show (scope.names.lookup x == some .cell) = true
    rename_i e
    rw [e]; rfl
  · cases hk
end
/-! ### an own object is boxed behind a statement -/
def sBx (i : Nat) (sv : Sv) : Sv := fun fr hb => match sv fr hb with
  | some (.nx fr1, hb1) => (match fr1[i]? with
    | some (.ow o) => some (.nx (fr1.set i (.sh (.box hb1.length))), hb1 ++ [o])
    | _ => none)
  | r => r
section
variable {K : PySem.W.Frag} {G : Gh} {m : List Addr} {H : Hp} {hb : HB} {fr : Fr} {σ : St} {i : Nat} {o : O}
theorem FS.bxSlot (s : FS K G m H hb fr σ) (ho : fr[i]? = some (.ow o)) : ∃ m', FS K G m' H (hb ++ [o]) (fr.set i (.sh (.box hb.length))) σ ∧ Kp G m H fr σ m' H (fr.set i (.sh (.box hb.length))) σ := by
  obtain ⟨x, e1, a, e2, hM, nm, r⟩ := s.at_.fr.2 i _ ho
  subst e2
  obtain ⟨a', e3, nb, ro⟩ := s.freed ho e1
  cases e3
  have il := (List.getElem?_eq_some_iff.mp ho).1
  have z := s.free i
  have hs : ∀ v, (σ.set i none).set i v = σ.set i v := fun v => by rw [List.set_set]
  have hss : σ.set i (some (V.ref a)) = σ := by
    apply List.ext_getElem?
    intro j
    by_cases hj : i = j
    · subst hj
      rw [List.getElem?_set, e1]
      have := (List.getElem?_eq_some_iff.mp e1).1
      simp [this]
    · rw [List.getElem?_set_ne hj]
  -- the state in which nobody owns it
  have sub : ∀ b, Mf G.M0 (fr.set i (.sh (.box hb.length))) σ b → Mf G.M0 (fr.set i .un) (σ.set i none) b := fun b h => by
    rcases h with h | ⟨j, o', h1, h2⟩
    · exact .inl h
    · by_cases e : i = j
      · subst e
        rw [List.getElem?_set] at h1
        simp at h1
      · rw [List.getElem?_set_ne e] at h1
        exact .inr ⟨j, o', by rw [List.getElem?_set_ne e]; exact h1, by rw [List.getElem?_set_ne e]; exact h2⟩
  have sub0 : ∀ b, Mf G.M0 (fr.set i .un) (σ.set i none) b → Mf G.M0 (fr.set i (.sh (.box hb.length))) σ b := fun b h => by
    rcases h with h | ⟨j, o', h1, h2⟩
    · exact .inl h
    · by_cases e : i = j
      · subst e
        rw [List.getElem?_set] at h1
        simp at h1
      · rw [List.getElem?_set_ne e] at h1 h2
        exact .inr ⟨j, o', by rw [List.getElem?_set_ne e]; exact h1, h2⟩
  have nM : ¬ Mf G.M0 (fr.set i .un) (σ.set i none) a := fun q => nb (.inl q)
  have kp : Keeps (Bd (Mf G.M0 (fr.set i .un) (σ.set i none)) m) (Bd (Mf G.M0 (fr.set i (.sh (.box hb.length))) σ) (m ++ [a])) m (m ++ [a]) H H → True := fun _ => trivial
  -- what is frozen stays
  have k0 : Keeps (Bd (Mf G.M0 fr σ) m) (Bd (Mf G.M0 (fr.set i (.sh (.box hb.length))) σ) (m ++ [a])) m (m ++ [a]) H H := ⟨⟨[a], rfl⟩, fun b u q n => ⟨q, fun y => n (by
    rcases y with y | y
    · rcases sub b y with y | ⟨j, o', h1, h2⟩
      · exact .inl (.inl y)
      · by_cases e : i = j
        · subst e
          rw [List.getElem?_set] at h1
          simp at h1
        · rw [List.getElem?_set_ne e] at h1 h2
          exact .inl (.inr ⟨j, o', h1, h2⟩)
    · rcases List.mem_append.mp y with y | y
      · exact .inr y
      · have : b = a := by simpa using y
        subst this
        exact .inl hM)⟩⟩
  have k1 : ∀ {B : Addr → Prop}, True := fun {_} => trivial
  -- relations of others' objects
  have kB : Keeps (Bd (Mf G.M0 (fr.set i .un) (σ.set i none)) m) (Bd (Mf G.M0 (fr.set i .un) (σ.set i none)) m) m m H H := Keeps.refl
  refine ⟨m ++ [a], ⟨⟨⟨?_, fun b hb2 y => ?_, fun b y => s.at_.wd.mt b ?_, by simp [s.at_.wd.len], fun n b ob h1 h2 => ?_⟩, by rw [List.length_set]; exact s.at_.fr.1, fun j sv e => ?_⟩, s.m0, ?_, fun b hb2 hn => ?_, fun b u q hn => s.keep b u q hn, ?_, fun j o' b h1 h2 => ?_, fun j k o1 o2 b h1 h2 h3 h4 => ?_⟩, k0⟩
  · rw [List.nodup_append]
    refine ⟨s.at_.wd.nd, by simp, fun b hb2 c hc e => ?_⟩
    have : c = a := by simpa using hc
    subst this
    subst e
    exact nm hb2
  · have y' := sub b y
    rcases List.mem_append.mp hb2 with q | q
    · refine s.at_.wd.no b q ?_
      rcases y' with y' | ⟨j, o', h1, h2⟩
      · exact .inl y'
      · by_cases e : i = j
        · subst e
          rw [List.getElem?_set] at h1
          simp at h1
        · rw [List.getElem?_set_ne e] at h1 h2
          exact .inr ⟨j, o', h1, h2⟩
    · have : b = a := by simpa using q
      subst this
      exact nM y'
  · rcases sub b y with y | ⟨j, o', h1, h2⟩
    · exact .inl y
    · by_cases e : i = j
      · subst e
        rw [List.getElem?_set] at h1
        simp at h1
      · rw [List.getElem?_set_ne e] at h1 h2
        exact .inr ⟨j, o', h1, h2⟩
  · by_cases hn : n < m.length
    · rw [List.getElem?_append_left hn] at h1
      rw [List.getElem?_append_left (by rw [s.at_.wd.len]; exact hn)] at h2
      exact (s.at_.wd.ob n b ob h1 h2).keep_own k0 fun _ q => q
    · rw [List.getElem?_append_right (by omega)] at h1
      rw [List.getElem?_append_right (by rw [s.at_.wd.len]; omega), s.at_.wd.len] at h2
      cases kk : n - m.length with
      | succ j => rw [kk] at h1; simp at h1
      | zero =>
        rw [kk] at h1 h2
        simp at h1 h2
        subst h1
        subst h2
        exact r.keep_own k0 fun _ q => q
  · by_cases hj : i = j
    · subst hj
      rw [List.getElem?_set] at e
      simp only [if_true, il] at e
      cases e
      refine ⟨_, e1, .ref a, rfl, ?_⟩
      unfold RelD
      exact ⟨a, rfl, by rw [s.at_.wd.len, List.getElem?_append_right (Nat.le_refl _)]; simp⟩
    · rw [List.getElem?_set_ne hj] at e
      obtain ⟨x', q8, r8⟩ := s.at_.fr.2 j sv e
      refine ⟨x', q8, ?_⟩
      cases sv with
      | un => trivial
      | sh d' => obtain ⟨v', q9, r9⟩ := r8; exact ⟨v', q9, r9.keep k0⟩
      | ow o' =>
        obtain ⟨b, q9, hM', nm', r9⟩ := r8
        subst q9
        refine ⟨b, rfl, .inr ⟨j, o', by rw [List.getElem?_set_ne hj]; exact e, q8⟩, fun y => ?_, r9.keep_own k0 fun u q2 => q2⟩
        rcases List.mem_append.mp y with y | y
        · exact nm' y
        · have : b = a := by simpa using y
          subst this
          exact hj (s.dist i j o o' b ho e e1 q8)
  · obtain ⟨l, hl⟩ := s.pre
    exact ⟨l ++ [a], by rw [hl, List.append_assoc]⟩
  · rcases List.mem_append.mp hb2 with q | q
    · exact s.new b q hn
    · have : b = a := by simpa using q
      subst this
      exact s.own i o b ho e1
  · have := s.pin.sh (i := i) (d := .box hb.length) (x := some (V.ref a))
    rw [hss] at this
    exact this
  · by_cases hj : i = j
    · subst hj
      rw [List.getElem?_set] at h1
      simp at h1
    · rw [List.getElem?_set_ne hj] at h1
      exact s.own j o' b h1 h2
  · by_cases hj : i = j
    · subst hj
      rw [List.getElem?_set] at h1
      simp at h1
    · by_cases hk : i = k
      · subst hk
        rw [List.getElem?_set] at h2
        simp at h2
      · rw [List.getElem?_set_ne hj] at h1
        rw [List.getElem?_set_ne hk] at h2
        exact s.dist j k o1 o2 b h1 h2 h3 h4
end
section
variable {X : Cx} {W : WX} {G : Gh} {st : Stmt} {sv : Sv}
theorem ss_bxAfter (i : Nat) (h : SS X W G st sv) : SS X W G st (sBx i sv) := PS.mono h fun D σ H hh => by
  obtain ⟨m, hb, fr, r, hb', s, e, c⟩ := hh
  unfold sBx at e
  split at e
  · rename_i fr1 hb1 e1
    split at e
    · rename_i o ho
      cases e
      refine tS_mk s e1 fun m' H' σ' s' k' => ?_
      obtain ⟨m2, s2, k2⟩ := s'.bxSlot ho
      exact c m2 H' σ' s2 (k'.trans k2)
    · cases e
  · exact tS_mk s e c
end
/-! ### keywords for parameters without defaults -/
section
variable {K : PySem.W.Frag} {x qual : Str} {params : Arguments} {body : List Stmt} {scope : Scope} {kws : List (Str × V)} {f : Addr} {fd : FuncData} {ps : List Str}
theorem FunD.kbn (F : FunD K x qual params body scope [] kws f fd) (n : Nat) (ks : List Str) (g : List Value → List Value → List Value) (gV : List V → List V → List V)
    (hrel : ∀ {vs zs : List V} {us ws : List Value}, Vals vs us → Vals zs ws → Vals (gV vs zs) (g us ws))
    (h : ∀ (kV doc pm : Value) (an : Option Addr) (cdv ct : Value) (us ws : List Value), us.length = n → ws.length = ks.length → bindArgs (PySem.W.fnOf x qual params body scope .none kV doc pm an cdv ct) ⟨us, ks.zip ws⟩ = pure (ps.zip (g us ws))) : KBn K fd ps n ks g gV := by
  obtain ⟨oc, od, dV, kV, doc, pm, an, cdv, ct, osl, rfl, lk, hcd, hD, hK⟩ := F.ex
  rcases hD with ⟨_, rfl⟩ | ⟨e, _⟩
  · exact ⟨fun s us ws _ h1 h2 => .of_eq (h kV doc pm an cdv ct us ws h1 h2), hrel⟩
  · exact absurd rfl e
end
/-- the values by name, put in order: p the places -/
def perm {α : Type} (p : List Nat) (ds es : List α) : List α := ds ++ p.filterMap fun i => es[i]?
theorem valsGet : ∀ {zs : List V} {ws : List Value} (i : Nat), Vals zs ws → ((zs[i]? = none ∧ ws[i]? = none) ∨ ∃ z w, zs[i]? = some z ∧ ws[i]? = some w ∧ Vals [z] [w])
  | [], _, i, h => by cases h; exact .inl ⟨by simp, by simp⟩
  | _ :: _, _, 0, h => by
    cases h with
    | cons e r => exact .inr ⟨_, _, by simp, by simp, .cons e .nil⟩
  | _ :: _, _, i + 1, h => by
    cases h with
    | cons e r => simpa using valsGet i r
theorem valsPerm {vs zs : List V} {us ws : List Value} (r1 : Vals vs us) (r2 : Vals zs ws) : ∀ p : List Nat, Vals (perm p vs zs) (perm p us ws) := fun p => by
  unfold perm
  refine r1.append ?_
  induction p with
  | nil => exact .nil
  | cons i p ih =>
    rw [List.filterMap_cons, List.filterMap_cons]
    rcases valsGet i r2 with ⟨e1, e2⟩ | ⟨z, w, e1, e2, e3⟩
    · rw [e1, e2]; exact ih
    · rw [e1, e2]
      cases e3 with
      | cons e _ => exact .cons e ih
theorem relPerm {K : PySem.W.Frag} {B : Addr → Prop} {m : List Addr} {H : Hp} {ds es : List D} {vs zs : List V} (r1 : RelDs K B m H ds vs) (r2 : RelDs K B m H es zs) (p : List Nat) : RelDs K B m H (perm p ds es) (perm p vs zs) := by
  unfold perm
  refine r1.append ?_
  induction p with
  | nil => exact RelDs.nil'
  | cons i p ih =>
    rw [List.filterMap_cons, List.filterMap_cons]
    cases h : es[i]? with
    | none =>
      have : zs[i]? = none := by
        rw [List.getElem?_eq_none_iff] at h ⊢
        rw [← r2.length]; exact h
      rw [this]; exact ih
    | some d =>
      obtain ⟨v, e1, r⟩ := r2.get h
      rw [e1]; exact RelDs.cons r ih
theorem kbi_kw {K : PySem.W.Frag} {fd : FuncData} {ps ks : List Str} {n : Nat} (p : List Nat) (hb : KBn K fd ps (n + 1) ks (fun us ws => perm p us ws) (fun vs zs => perm p vs zs)) (hp : ∀ i ∈ p, i < ks.length) (hn : n + 1 + p.length = ps.length) : KBI K fd ps n ks (fun ds es => perm p ds es) := by
  refine ⟨_, _, fun vs zs => perm p vs zs, hb, fun _ _ _ _ _ => rfl, fun {B m H ds es vs zs} h1 h2 r1 r2 => ⟨relPerm r1 r2 p, ?_⟩⟩
  have hl : ∀ q : List Nat, (∀ i ∈ q, i < ks.length) → (q.filterMap fun i => es[i]?).length = q.length := fun q => by
    induction q with
    | nil => intro _; rfl
    | cons i q ih =>
      intro h
      have hi : i < es.length := by rw [h2]; exact h i List.mem_cons_self
      rw [List.filterMap_cons, List.getElem?_eq_getElem hi]
      simp [ih fun j hj => h j (List.mem_cons_of_mem _ hj)]
  unfold perm
  rw [List.length_append, hl p hp, h1]
  omega
theorem kbd_kw {K : PySem.W.Frag} {fd : FuncData} {ps ks : List Str} {n : Nat} (p : List Nat) (hb : KBn K fd ps n ks (fun us ws => perm p us ws) (fun vs zs => perm p vs zs)) (hp : ∀ i ∈ p, i < ks.length) (hn : n + p.length = ps.length) : KBD K fd ps n ks (fun ds es => perm p ds es) := by
  refine ⟨_, _, hb, fun {B m H ds es vs zs} h1 h2 r1 r2 => ⟨relPerm r1 r2 p, ?_⟩⟩
  have hl : ∀ q : List Nat, (∀ i ∈ q, i < ks.length) → (q.filterMap fun i => es[i]?).length = q.length := fun q => by
    induction q with
    | nil => intro _; rfl
    | cons i q ih =>
      intro h
      have hi : i < es.length := by rw [h2]; exact h i List.mem_cons_self
      rw [List.filterMap_cons, List.getElem?_eq_getElem hi]
      simp [ih fun j hj => h j (List.mem_cons_of_mem _ hj)]
  unfold perm
  rw [List.length_append, hl p hp, h1]
  omega
theorem FunD.kbp {K : PySem.W.Frag} {x qual : Str} {params : Arguments} {body : List Stmt} {scope : Scope} {kws : List (Str × V)} {f : Addr} {fd : FuncData} {ps : List Str} (F : FunD K x qual params body scope [] kws f fd) (n : Nat) (ks : List Str) (p : List Nat)
    (h : ∀ (kV doc pm : Value) (an : Option Addr) (cdv ct : Value) (us ws : List Value), us.length = n → ws.length = ks.length → bindArgs (PySem.W.fnOf x qual params body scope .none kV doc pm an cdv ct) ⟨us, ks.zip ws⟩ = pure (ps.zip (perm p us ws))) :
    KBn K fd ps n ks (fun us ws => perm p us ws) (fun vs zs => perm p vs zs) := FunD.kbn F n ks _ _ (fun r1 r2 => valsPerm r1 r2 p) h
end DI
set_option Elab.async false
set_option linter.all false
set_option maxRecDepth 100000
set_option maxHeartbeats 1000000
/-! rules for loops, comprehensions, methods; values -/
namespace DI
open PySem
section
variable {α : Type} {o : Option (α × HB)} {fr : Fr} {hb : HB}
theorem wp_eq {a : α} {h : HB} : wp o (fun x y => x = a ∧ y = h) ↔ o = some (a, h) := by
  rw [wp_ex]
  constructor
  · rintro ⟨_, _, e, rfl, rfl⟩; exact e
  · intro e; exact ⟨_, _, e, rfl, rfl⟩
theorem wp_of {a : α} {h : HB} {Q : α → HB → Prop} (e : o = some (a, h)) (q : Q a h) : wp o Q := by rw [e]; exact wp_i q
end
section
variable {iv : Iv} {t : Tg} {vs : List Nat} {c el ek ev ev2 : Ev} {evs evs2 : Evs} {fr : Fr} {hb : HB} {QO : O ⊕ Xn → HB → Prop} {QS : SR → HB → Prop} {Q : R → HB → Prop} {b sv : Sv}
@[simp] theorem wpC_lc : wp (cLc iv t vs c el fr hb) QO = wp (iv fr hb) (fun r h => match r with
  | .inl (.ls ds _) => wp (lcL t c el ds [] (wipeF fr vs) h) fun ys h2 => QO (.inl (.lst ys)) h2
  | .inr x => QO (.inr x) h
  | _ => False) := by
  unfold cLc
  rcases iv fr hb with _ | ⟨(_ | _) | x, h⟩
  · with_unfolding_all rfl
  · simp only [wp_some]
    rcases lcL t c el _ [] (wipeF fr vs) h with _ | ⟨ys, h2⟩ <;> with_unfolding_all rfl
  · with_unfolding_all rfl
  · with_unfolding_all rfl
@[simp] theorem wpC_lc2 {c1 : Ev} {iv1 : Iv} {t1 : Tg} {vs1 : List Nat} : wp (cLc2 iv t vs c iv1 t1 vs1 c1 el fr hb) QO = wp (iv fr hb) (fun r h => match r with
  | .inl (.ls ds _) => wp (lc2L t c iv1 t1 vs1 c1 el ds [] (wipeF fr vs) h) fun ys h2 => QO (.inl (.lst ys)) h2
  | .inr x => QO (.inr x) h
  | _ => False) := by
  unfold cLc2
  rcases iv fr hb with _ | ⟨(_ | _) | x, h⟩
  · with_unfolding_all rfl
  · simp only [wp_some]
    rcases lc2L t c iv1 t1 vs1 c1 el _ [] (wipeF fr vs) h with _ | ⟨ys, h2⟩ <;> with_unfolding_all rfl
  · with_unfolding_all rfl
  · with_unfolding_all rfl
@[simp] theorem wpC_dc : wp (cDc iv t vs c ek el fr hb) QO = wp (iv fr hb) (fun r h => match r with
  | .inl (.ls ds _) => (match dcL t c ek el ds [] [] (wipeF fr vs) h with
    | some (ks, ys, h2) => QO (.inl (.dct ks ys)) h2
    | none => False)
  | .inr x => QO (.inr x) h
  | _ => False) := by
  unfold cDc
  rcases iv fr hb with _ | ⟨(_ | _) | x, h⟩
  · with_unfolding_all rfl
  · simp only [wp_some]
    rcases dcL t c ek el _ [] [] (wipeF fr vs) h with _ | ⟨ks, ys, h2⟩ <;> with_unfolding_all rfl
  · with_unfolding_all rfl
  · with_unfolding_all rfl
@[simp] theorem wpI_enum {QI : Src ⊕ Xn → HB → Prop} : wp (iEnumD evs fr hb) QI = wp (evs fr hb) (fun r h => match r with
  | .inl [d] => (match d with
    | .box n => (match h[n]? with
      | some (.lst _) => QI (.inl (.bx n true)) h
      | _ => False)
    | d => (match srD fr h d with
      | some p => QI (.inl (.ls (enumD p.1) p.2)) h
      | none => False))
  | .inr x => QI (.inr x) h
  | _ => False) := by
  unfold iEnumD
  rcases evs fr hb with _ | ⟨ds | x, h⟩
  · with_unfolding_all rfl
  · rcases ds with _ | ⟨d, _ | ⟨_, _⟩⟩
    · with_unfolding_all rfl
    · simp only [wp_some]
      cases d <;> first | (dsimp only; rcases srD fr h _ with _ | ⟨_, _⟩ <;> with_unfolding_all rfl) | skip
      rename_i n
      dsimp only
      rcases h[n]? with _ | (_ | _ | _) <;> with_unfolding_all rfl
    · cases d <;> with_unfolding_all rfl
  · with_unfolding_all rfl
@[simp] theorem wpI_zip {QI : Src ⊕ Xn → HB → Prop} : wp (iZipD evs fr hb) QI = wp (evs fr hb) (fun r h => match r with
  | .inl [d1, d2] => (match srD fr h d1, srD fr h d2 with
    | some p, some q => QI (.inl (.ls (zipD p.1 q.1) (p.2 && q.2))) h
    | _, _ => False)
  | .inr x => QI (.inr x) h
  | _ => False) := by
  unfold iZipD
  rcases evs fr hb with _ | ⟨ds | x, h⟩
  · with_unfolding_all rfl
  · rcases ds with _ | ⟨d, _ | ⟨d2, _ | ⟨_, _⟩⟩⟩
    · with_unfolding_all rfl
    · with_unfolding_all rfl
    · simp only [wp_some]
      rcases srD fr h d with _ | ⟨_, _⟩
      · with_unfolding_all rfl
      · rcases srD fr h d2 with _ | ⟨_, _⟩ <;> with_unfolding_all rfl
    · with_unfolding_all rfl
  · with_unfolding_all rfl
/-! comprehensions -/
theorem lcL_pure {p : D → Bool} {f : D → D} : ∀ (ds acc : List D), (∀ d ∈ ds, ∃ fr1, stT t d fr = some fr1 ∧ wp (c fr1 hb) (fun r h => r = .ok (.bl (p d)) ∧ h = hb) ∧ (p d = true → wp (el fr1 hb) (fun r h => r = .ok (f d) ∧ h = hb) ∧ (f d).isVal = true)) → acc.length + ds.length ≤ szL →
    lcL t c el ds acc fr hb = some (acc ++ (ds.filter p).map f, hb)
  | [], acc, _, _ => by simp [lcL]
  | d :: ds, acc, h, hl => by
    obtain ⟨fr1, h1, h2, h3⟩ := h d List.mem_cons_self
    rw [wp_eq] at h2
    have ih := fun acc' hl' => lcL_pure ds acc' (fun x hx => h x (List.mem_cons_of_mem _ hx)) hl'
    unfold lcL
    rw [h1]
    dsimp only
    rw [h2]
    simp only [List.length_cons] at hl
    cases hp : p d with
    | true =>
      obtain ⟨h4, h5⟩ := h3 hp
      rw [wp_eq] at h4
      dsimp only
      rw [h4]
      dsimp only
      have : (decide (acc.length < szL)) = true := decide_eq_true (by omega)
      rw [h5, this]
      simp only [Bool.and_self, if_true]
      rw [ih _ (by simp; omega)]
      simp [List.filter_cons, hp]
    | false =>
      dsimp only
      rw [ih _ (by omega)]
      simp [List.filter_cons, hp]
theorem wp_lc {ds acc : List D} {Qc : List D → HB → Prop} (p : D → Bool) (f : D → D) (h : ∀ d ∈ ds, ∃ fr1, stT t d fr = some fr1 ∧ wp (c fr1 hb) (fun r h => r = .ok (.bl (p d)) ∧ h = hb) ∧ (p d = true → wp (el fr1 hb) (fun r h => r = .ok (f d) ∧ h = hb) ∧ (f d).isVal = true)) (hl : acc.length + ds.length ≤ szL)
    (hq : Qc (acc ++ (ds.filter p).map f) hb) : wp (lcL t c el ds acc fr hb) Qc := by
  rw [lcL_pure ds acc h hl]
  exact wp_i (hq)
/-- with a state -/
theorem wp_lcI {Qc : List D → HB → Prop} (I : List D → List D → List D → HB → Prop) : ∀ (done ds acc : List D) (hb : HB), I done ds acc hb → (∀ done d ds acc hb, I done (d :: ds) acc hb → ∃ fr1, stT t d fr = some fr1 ∧ wp (c fr1 hb) (fun r h => match r with
      | .ok (.bl true) => wp (el fr1 h) (fun r h2 => ∃ y, r = .ok y ∧ y.isVal = true ∧ acc.length < szL ∧ I (done ++ [d]) ds (acc ++ [y]) h2)
      | .ok (.bl false) => I (done ++ [d]) ds acc h
      | _ => False)) → (∀ done acc hb, I done [] acc hb → Qc acc hb) → wp (lcL t c el ds acc fr hb) Qc
  | done, [], acc, hb, hi, hs, hq => by
    unfold lcL
    exact wp_i (hq done acc hb hi)
  | done, d :: ds, acc, hb, hi, hs, hq => by
    obtain ⟨fr1, h1, h2⟩ := hs done d ds acc hb hi
    obtain ⟨r, h, e, h3⟩ := wp_ex.mp h2
    unfold lcL
    rw [h1]
    dsimp only
    rw [e]
    match r, h3 with
    | .ok (.bl true), h3 =>
      obtain ⟨r2, h', e2, y, rfl, hv, hl, hi'⟩ := wp_ex.mp h3
      dsimp only
      rw [e2]
      dsimp only
      have : (decide (acc.length < szL)) = true := decide_eq_true hl
      rw [hv, this]
      simp only [Bool.and_self, if_true]
      exact wp_lcI I (done ++ [d]) ds _ _ hi' hs hq
    | .ok (.bl false), h3 => exact wp_lcI I (done ++ [d]) ds _ _ h3 hs hq
/-! for -/
theorem wp_for (I : List D → List D → Fr → HB → Prop) : ∀ (done ds : List D) (fr : Fr) (hb : HB), I done ds fr hb → (∀ done d ds fr hb, I done (d :: ds) fr hb → ∃ fr1, stT t d fr = some fr1 ∧ wp (b fr1 hb) (fun r h => match r with
      | .nx fr2 => I (done ++ [d]) ds fr2 h
      | .ct fr2 => I (done ++ [d]) ds fr2 h
      | .bk fr2 => QS (.nx fr2) h
      | .rt d => QS (.rt d) h
      | .ex x => QS (.ex x) h)) → (∀ done fr hb, I done [] fr hb → QS (.nx fr) hb) → wp (sForL t b ds fr hb) QS
  | done, [], fr, hb, hi, hs, hq => by
    unfold sForL
    exact wp_i (hq done fr hb hi)
  | done, d :: ds, fr, hb, hi, hs, hq => by
    obtain ⟨fr1, h1, h2⟩ := hs done d ds fr hb hi
    obtain ⟨r, h, e, h3⟩ := wp_ex.mp h2
    unfold sForL
    rw [h1]
    dsimp only
    rw [e]
    match r, h3 with
    | .nx fr2, h3 => exact wp_for I (done ++ [d]) ds fr2 h h3 hs hq
    | .ct fr2, h3 => exact wp_for I (done ++ [d]) ds fr2 h h3 hs hq
    | .bk fr2, h3 => exact wp_i (h3)
    | .rt d, h3 => exact wp_i (h3)
    | .ex x, h3 => exact wp_i (h3)
/-- over a box that stays -/
theorem wp_forB {n : Nat} {en : Bool} {xs : List D} (I : List D → List D → Fr → HB → Prop) (hx : ∀ done ds fr hb, I done ds fr hb → hb[n]? = some (.lst xs)) : ∀ (done ds : List D) (fr : Fr) (hb : HB), xs = done ++ ds → I done ds fr hb → (∀ done d ds fr hb, xs = done ++ d :: ds → I done (d :: ds) fr hb → ∃ fr1, stT t (if en then .tup [.int (done.length : Nat), d] else d) fr = some fr1 ∧ wp (b fr1 hb) (fun r h => match r with
      | .nx fr2 => I (done ++ [d]) ds fr2 h
      | .ct fr2 => I (done ++ [d]) ds fr2 h
      | .bk fr2 => QS (.nx fr2) h
      | .rt d => QS (.rt d) h
      | .ex x => QS (.ex x) h)) → (∀ done fr hb, I done [] fr hb → QS (.nx fr) hb) → wp (sForB t b n en ds.length done.length fr hb) QS
  | done, [], fr, hb, hd, hi, hs, hq => by
    show wp (sForB t b n en 0 done.length fr hb) QS
    unfold sForB
    rw [hx _ _ _ _ hi]
    subst hd
    simp only [List.append_nil, if_true, wp_some]
    exact hq done fr hb hi
  | done, d :: ds, fr, hb, hd, hi, hs, hq => by
    obtain ⟨fr1, h1, h2⟩ := hs done d ds fr hb hd hi
    obtain ⟨r, h, e, h3⟩ := wp_ex.mp h2
    show wp (sForB t b n en (ds.length + 1) done.length fr hb) QS
    unfold sForB
    rw [hx _ _ _ _ hi]
    dsimp only
    have hg : xs[done.length]? = some d := by rw [hd]; simp
    rw [hg]
    dsimp only
    rw [h1]
    dsimp only
    rw [e]
    have hl : done.length + 1 = (done ++ [d]).length := by simp
    have hd' : xs = (done ++ [d]) ++ ds := by rw [hd]; simp
    match r, h3 with
    | .nx fr2, h3 => dsimp only; rw [hl]; exact wp_forB I hx (done ++ [d]) ds fr2 h hd' h3 hs hq
    | .ct fr2, h3 => dsimp only; rw [hl]; exact wp_forB I hx (done ++ [d]) ds fr2 h hd' h3 hs hq
    | .bk fr2, h3 => exact wp_i (h3)
    | .rt d, h3 => exact wp_i (h3)
    | .ex x, h3 => exact wp_i (h3)
@[simp] theorem wpS_for : wp (sFor iv t b fr hb) QS = wp (iv fr hb) (fun r h => match r with
  | .inl (.ls ds true) => wp (sForL t b ds fr h) QS
  | .inl (.bx n en) => (match h[n]? with
    | some (.lst xs) => wp (sForB t b n en xs.length 0 fr h) QS
    | _ => False)
  | .inr x => QS (.ex x) h
  | _ => False) := by
  unfold sFor
  rcases iv fr hb with _ | ⟨(⟨ds, _ | _⟩ | ⟨n, en⟩) | x, h⟩
  · with_unfolding_all rfl
  · with_unfolding_all rfl
  · with_unfolding_all rfl
  · simp only [wp_some]
    rcases h[n]? with _ | (_ | _ | _) <;> with_unfolding_all rfl
  · with_unfolding_all rfl
/-! while -/
theorem wp_while (I : Fr → HB → Prop) (ms : Fr → HB → Nat) (hs : ∀ fr hb, I fr hb → wp (c fr hb) (fun r h => match r with
    | .ok (.bl true) => wp (b fr h) (fun r h2 => match r with
      | .nx fr2 => I fr2 h2 ∧ ms fr2 h2 < ms fr hb
      | .ct fr2 => I fr2 h2 ∧ ms fr2 h2 < ms fr hb
      | .bk fr2 => QS (.nx fr2) h2
      | .rt d => QS (.rt d) h2
      | .ex x => QS (.ex x) h2)
    | .ok (.bl false) => QS (.nx fr) h
    | .exn x => QS (.ex x) h
    | _ => False)) : ∀ (n : Nat) (fr : Fr) (hb : HB), ms fr hb = n → I fr hb → wp (sWhile c b fr hb) QS := by
  intro n
  induction n using Nat.strongRecOn with
  | ind n ih =>
    intro fr hb hn hi
    have z := hs fr hb hi
    obtain ⟨r, h, e, h3⟩ := wp_ex.mp z
    rw [sWhile, e]
    match r, h3 with
    | .ok (.bl true), h3 =>
      obtain ⟨r2, h', e2, h4⟩ := wp_ex.mp h3
      dsimp only
      rw [e2]
      match r2, h4 with
      | .nx fr2, h4 => exact ih _ (by rw [← hn]; exact h4.2) fr2 h' rfl h4.1
      | .ct fr2, h4 => exact ih _ (by rw [← hn]; exact h4.2) fr2 h' rfl h4.1
      | .bk fr2, h4 => exact wp_i (h4)
      | .rt d, h4 => exact wp_i (h4)
      | .ex x, h4 => exact wp_i (h4)
    | .ok (.bl false), h3 => exact wp_i (h3)
    | .exn x, h3 => exact wp_i (h3)
/-! objects -/
@[simp] theorem wpA_args {QA : (List D × List D) ⊕ Xn → HB → Prop} : wp (eArgs evs evs2 fr hb) QA = wp (evs fr hb) (onL (fun ds h => wp (evs2 fr h) (onL (fun es h => QA (.inl (ds, es)) h) fun x h => QA (.inr x) h)) fun x h => QA (.inr x) h) := by
  unfold eArgs
  rcases evs fr hb with _ | ⟨ds | x, h⟩
  · with_unfolding_all rfl
  · simp only [wp_some, onL]
    rcases evs2 fr h with _ | ⟨es | x, h⟩ <;> with_unfolding_all rfl
  · with_unfolding_all rfl
@[simp] theorem wpC_make {n m : Nat} {gD : List D → List D → List D} {f : ISem} {ar : Ea} : wp (cMake n m gD f ar fr hb) QO = wp (ar fr hb) (onL (fun p h => if (allVal p.1 && allVal p.2 && decide (p.1.length = n) && decide (p.2.length = m)) = true then wp (f (gD p.1 p.2) h) QO else False) fun x h => QO (.inr x) h) := by
  unfold cMake
  rcases ar fr hb with _ | ⟨⟨ds, es⟩ | x, h⟩
  · with_unfolding_all rfl
  · simp only [wp_some, onL]
    rw [wp_ite]; with_unfolding_all rfl
  · with_unfolding_all rfl
@[simp] theorem wpI {c : String} {n : Nat} {ds : List D} : wp (inE c n sv ds hb) QO = wp (sv (frI c n ds) hb) (fun r h => match r with
  | .nx fr => (match fr[(0 : Nat)]? with
    | some (.ow o) => QO (.inl o) h
    | _ => False)
  | .ex x => QO (.inr x) h
  | _ => False) := by
  unfold inE
  rcases sv (frI c n ds) hb with _ | ⟨r, h⟩
  · with_unfolding_all rfl
  · cases r <;> first | with_unfolding_all rfl | skip
    rename_i f
    simp only [wp_some]
    rcases f[(0 : Nat)]? with _ | (_ | _ | _) <;> with_unfolding_all rfl
@[simp] theorem wpC {n : Nat} {cv : Cv} {ds : List D} : wp (fnC n cv ds hb) QO = wp (cv (fr0 n ds) hb) QO := by with_unfolding_all rfl
@[simp] theorem wpC_seq {cv : Cv} : wp (cSeq sv cv fr hb) QO = wp (sv fr hb) (fun r h => match r with
  | .nx fr1 => wp (cv fr1 h) QO
  | .ex x => QO (.inr x) h
  | _ => False) := by
  unfold cSeq
  rcases sv fr hb with _ | ⟨r, h⟩
  · with_unfolding_all rfl
  · cases r <;> with_unfolding_all rfl
@[simp] theorem wpC_callC {n : Nat} {f : FSemC} : wp (cCallC n f evs fr hb) QO = wp (evs fr hb) (onL (fun ds h => if (allVal ds && decide (ds.length = n)) = true then wp (f ds h) QO else False) fun x h => QO (.inr x) h) := by
  unfold cCallC
  rcases evs fr hb with _ | ⟨ds | x, h⟩
  · with_unfolding_all rfl
  · simp only [wp_some, onL]
    rw [wp_ite]; with_unfolding_all rfl
  · with_unfolding_all rfl
/-- a method's object -/
def mOk (c m : String) (fr : Fr) (h : HB) (d : D) : Bool := d.isVal && (match insD fr h d with
  | some (c', fs, _) => decide (c' = c) && !fs.contains m
  | none => false)
@[simp] theorem wpE_meth {c m : String} {n : Nat} {f : FSem} : wp (eMeth c m n f ev evs fr hb) Q = wp (ev fr hb) (onOk (fun d h => if mOk c m fr h d = true then wp (evs fr h) (onL (fun ds h => if (allVal ds && decide (ds.length + 1 = n)) = true then wp (f (d :: ds) h) Q else False) fun x h => Q (.exn x) h) else False) Q) := by
  unfold eMeth; rw [wpE_bind]; congr 1; funext r h; cases r with
  | exn x => with_unfolding_all rfl
  | ok d =>
    dsimp only [onOk]
    by_cases hv : d.isVal = true
    · simp only [mOk, hv, if_true, Bool.true_and]
      rcases insD fr h d with _ | ⟨c', fs, vs⟩
      · simp
      · dsimp only
        rw [wp_ite, wpE_eL]
        simp only [wp_ite, wp_none]
    · simp [mOk, hv]
@[simp] theorem wpE_methR {c m : String} {f : FSem} : wp (eMethR c m f ev evs fr hb) Q = wp (ev fr hb) (onOk (fun d h => if mOk c m fr h d = true then wp (evs fr h) (onL (fun ds h => if allVal ds = true then wp (f (d :: ds) h) Q else False) fun x h => Q (.exn x) h) else False) Q) := by
  unfold eMethR; rw [wpE_bind]; congr 1; funext r h; cases r with
  | exn x => with_unfolding_all rfl
  | ok d =>
    dsimp only [onOk]
    by_cases hv : d.isVal = true
    · simp only [mOk, hv, if_true, Bool.true_and]
      rcases insD fr h d with _ | ⟨c', fs, vs⟩
      · simp
      · dsimp only
        rw [wp_ite, wpE_eL]
        simp only [wp_ite, wp_none]
    · simp [mOk, hv]
@[simp] theorem wpC_meth {c m : String} {n : Nat} {f : FSemC} : wp (cMeth c m n f ev evs fr hb) QO = wp (ev fr hb) (fun r h => match r with
  | .ok d => if mOk c m fr h d = true then wp (evs fr h) (onL (fun ds h => if (allVal ds && decide (ds.length + 1 = n)) = true then wp (f (d :: ds) h) QO else False) fun x h => QO (.inr x) h) else False
  | .exn x => QO (.inr x) h) := by
  unfold cMeth
  rcases ev fr hb with _ | ⟨d | x, h⟩
  · with_unfolding_all rfl
  · simp only [wp_some]
    by_cases hv : d.isVal = true
    · simp only [mOk, hv, if_true, Bool.true_and]
      rcases insD fr h d with _ | ⟨c', fs, vs⟩
      · simp
      · dsimp only
        rw [wp_ite, wp_none]
        congr 1
        rcases evs fr h with _ | ⟨ds | x, h⟩
        · with_unfolding_all rfl
        · simp only [wp_some, onL]
          rw [wp_ite]; with_unfolding_all rfl
        · with_unfolding_all rfl
    · simp [mOk, hv]
  · with_unfolding_all rfl
@[simp] theorem wpS_bx {i : Nat} : wp (sBx i sv fr hb) QS = wp (sv fr hb) (fun r h => match r with
  | .nx fr1 => (match fr1[i]? with
    | some (.ow o) => QS (.nx (fr1.set i (.sh (.box h.length)))) (h ++ [o])
    | _ => False)
  | r => QS r h) := by
  unfold sBx
  rcases sv fr hb with _ | ⟨r, h⟩
  · with_unfolding_all rfl
  · cases r <;> first | with_unfolding_all rfl | skip
    rename_i f
    simp only [wp_some]
    rcases f[i]? with _ | (_ | _ | _) <;> with_unfolding_all rfl
end
end DI
set_option Elab.async false
set_option linter.all false
set_option maxRecDepth 100000
set_option maxHeartbeats 1000000
/-! values: what the operators answer -/
namespace DI
open PySem L2
section
variable {fr : Fr} {hb : HB} {Q : R → HB → Prop} {i j : Int} {s t : List Char} {xs ys ks vs : List D} {d x y : D} {n : Nat} {b c : Bool}
theorem atI_eq {α : Type} (xs : List α) (i : Int) : atI xs i = if 0 ≤ i then xs[i.toNat]? else if -(xs.length : Int) ≤ i then xs[(i + xs.length).toNat]? else none := by
  unfold atI ixN
  by_cases h0 : 0 ≤ i
  · rw [if_pos h0, if_pos h0]
    by_cases h1 : i < xs.length
    · rw [if_pos h1]; with_unfolding_all rfl
    · rw [if_neg h1]
      have : xs[i.toNat]? = none := List.getElem?_eq_none (by omega)
      rw [this]; with_unfolding_all rfl
  · rw [if_neg h0, if_neg h0]
    by_cases h1 : -(xs.length : Int) ≤ i
    · rw [if_pos h1, if_pos h1]; with_unfolding_all rfl
    · rw [if_neg h1, if_neg h1]; with_unfolding_all rfl
theorem atI_nat {α : Type} (xs : List α) (k : Nat) : atI xs (k : Int) = xs[k]? := by
  rw [atI_eq, if_pos (by omega), Int.toNat_natCast]
/-- an item, or nothing -/
def wpO (o : Option D) (Q : R → HB → Prop) (hb : HB) : Prop := match o with
  | some d => Q (.ok d) hb
  | none => False
@[simp] theorem wpO_s : wpO (some d) Q hb = Q (.ok d) hb := by with_unfolding_all rfl
@[simp] theorem wpO_n : wpO none Q hb = False := by with_unfolding_all rfl
@[simp] theorem v_ixL : wp (gIxD (.lst xs) (.int i) fr hb) Q = wpO (atI xs i) Q hb := by
  show wp (match atI xs i with | some d => some (R.ok d, hb) | none => none) Q = _
  cases atI xs i <;> with_unfolding_all rfl
@[simp] theorem v_ixF : wp (gIxD (.fz xs) (.int i) fr hb) Q = wpO (atI xs i) Q hb := by
  show wp (match atI xs i with | some d => some (R.ok d, hb) | none => none) Q = _
  cases atI xs i <;> with_unfolding_all rfl
@[simp] theorem v_ixT : wp (gIxD (.tup xs) (.int i) fr hb) Q = wpO (atI xs i) Q hb := by
  show wp (match atI xs i with | some d => some (R.ok d, hb) | none => none) Q = _
  cases atI xs i <;> with_unfolding_all rfl
@[simp] theorem v_ixS : wp (gIxD (.str s) (.int i) fr hb) Q = if s.length ≤ szL then wpO ((atI s i).map fun ch => .str [ch]) Q hb else False := by
  show wp (if s.length ≤ szL then (match atI s i with | some ch => some (R.ok (.str [ch]), hb) | none => none) else none) Q = _
  rw [wp_ite]
  cases atI s i <;> with_unfolding_all rfl
theorem v_ixB (e : hb[n]? = some (.lst xs)) : wp (gIxD (.box n) (.int i) fr hb) Q = wpO (atI xs i) Q hb := by
  have h1 : vDct fr hb (.box n) = none := by simp only [vDct, e]
  have h2 : vSeq fr hb (.box n) = some xs := by simp only [vSeq, vLst, e]
  have h3 : gIxD (.box n) (.int i) fr hb = gIx (.box n) (.int i) fr hb := by unfold gIxD; rw [h1]
  have h4 : gIx (.box n) (.int i) fr hb = match atI xs i with
    | some d => some (R.ok d, hb)
    | none => none := by
    show (match vSeq fr hb (.box n) with | some xs => (match atI xs i with | some d => some (R.ok d, hb) | none => none) | none => none) = _
    rw [h2]
  rw [h3, h4]
  cases atI xs i <;> with_unfolding_all rfl
theorem v_ixD (h1 : y.isKey = true) (h2 : ks.all D.isKey = true) (h3 : ks.length = vs.length) : wp (gIxD (.dct ks vs) y fr hb) Q = wpO (getD ks vs y) Q hb := by
  unfold gIxD vDct
  simp only [h1, h2, h3, decide_true, Bool.and_self, if_true]
  cases getD ks vs y <;> with_unfolding_all rfl
@[simp] theorem v_addI : wp (gAdd (.int i) (.int j) fr hb) Q = Q (.ok (.int (i + j))) hb := by with_unfolding_all rfl
@[simp] theorem v_addS : wp (gAdd (.str s) (.str t) fr hb) Q = if s.length + t.length ≤ szL then Q (.ok (.str (s ++ t))) hb else False := wp_if
@[simp] theorem v_addT : wp (gAdd (.tup xs) (.tup ys) fr hb) Q = if xs.length + ys.length ≤ szL then Q (.ok (.tup (xs ++ ys))) hb else False := wp_if
@[simp] theorem v_addL : wp (gAdd (.lst xs) (.lst ys) fr hb) Q = if xs.length + ys.length ≤ szL then Q (.ok (.lst (xs ++ ys))) hb else False := wp_if
theorem v_addO {k : Nat} (e : fr[k]? = some (.ow (.lst xs))) : wp (gAdd (.loc k) (.lst ys) fr hb) Q = if xs.length + ys.length ≤ szL then Q (.ok (.lst (xs ++ ys))) hb else False := by
  have h1 : vLst fr hb (.loc k) = some xs := by simp only [vLst, e]
  have h2 : gAdd (.loc k) (.lst ys) fr hb = if xs.length + ys.length ≤ szL then some (R.ok (.lst (xs ++ ys)), hb) else none := by
    show (match vLst fr hb (.loc k), vLst fr hb (.lst ys) with
      | some xs, some ys => if xs.length + ys.length ≤ szL then some (R.ok (.lst (xs ++ ys)), hb) else none
      | _, _ => none) = _
    rw [h1]; with_unfolding_all rfl
  rw [h2]
  exact wp_if
@[simp] theorem v_sub : wp (gSub (.int i) (.int j) fr hb) Q = Q (.ok (.int (i - j))) hb := by with_unfolding_all rfl
@[simp] theorem v_mod : wp (gMod (.int i) (.int j) fr hb) Q = if 0 < j then Q (.ok (.int (i % j))) hb else False := wp_if
@[simp] theorem v_fdiv : wp (gFdiv (.int i) (.int j) fr hb) Q = if 0 < j ∧ j < 1073741824 then Q (.ok (.int (i / j))) hb else False := wp_if
@[simp] theorem v_pow : wp (gPow (.int i) (.int j) fr hb) Q = if 0 ≤ j ∧ j ≤ 1000000 ∧ i.natAbs < 2 ^ 64 then Q (.ok (.int (i ^ j.toNat))) hb else False := wp_if
@[simp] theorem v_mulI : wp (gMul (.int i) (.int j) fr hb) Q = if (-(2 ^ 64) < i ∧ i < 2 ^ 64) ∨ (-(2 ^ 64) < j ∧ j < 2 ^ 64) then Q (.ok (.int (i * j))) hb else False := wp_if
@[simp] theorem v_mulS : wp (gMul (.str s) (.int j) fr hb) Q = if 0 ≤ j ∧ j ≤ szL ∧ s.length * j.toNat ≤ szL then Q (.ok (.str (List.replicate j.toNat s).flatten)) hb else False := wp_if
@[simp] theorem v_ordI {o : Ord4} : wp (gOrd o (.int i) (.int j) fr hb) Q = Q (.ok (.bl (o.i i j))) hb := by with_unfolding_all rfl
@[simp] theorem v_ordS {o : Ord4} : wp (gOrd o (.str s) (.str t) fr hb) Q = Q (.ok (.bl (o.s s t))) hb := by with_unfolding_all rfl
@[simp] theorem v_neg : wp (gNeg (.int i) fr hb) Q = Q (.ok (.int (-i))) hb := by with_unfolding_all rfl
@[simp] theorem v_lenS : wp (gLen [.str s] fr hb) Q = if s.length ≤ szL then Q (.ok (.int s.length)) hb else False := wp_if
@[simp] theorem v_lenL : wp (gLen [.lst xs] fr hb) Q = Q (.ok (.int xs.length)) hb := by with_unfolding_all rfl
@[simp] theorem v_lenF : wp (gLen [.fz xs] fr hb) Q = Q (.ok (.int xs.length)) hb := by with_unfolding_all rfl
@[simp] theorem v_lenT : wp (gLen [.tup xs] fr hb) Q = Q (.ok (.int xs.length)) hb := by with_unfolding_all rfl
theorem v_lenB (e : hb[n]? = some (.lst xs)) : wp (gLen [.box n] fr hb) Q = Q (.ok (.int xs.length)) hb := by
  have h : vSeq fr hb (.box n) = some xs := by simp only [vSeq, vLst, e]
  have h2 : gLen [.box n] fr hb = some (R.ok (.int xs.length), hb) := by
    show (match vSeq fr hb (.box n) with | some xs => some (R.ok (.int xs.length), hb) | none => none) = _
    rw [h]
  rw [h2]; with_unfolding_all rfl
@[simp] theorem v_intI : wp (gInt [.int i] fr hb) Q = Q (.ok (.int i)) hb := by with_unfolding_all rfl
@[simp] theorem v_min2I : wp (gMin2 [.int i, .int j] fr hb) Q = Q (.ok (.int (if j < i then j else i))) hb := by with_unfolding_all rfl
@[simp] theorem v_max2I : wp (gMax2 [.int i, .int j] fr hb) Q = Q (.ok (.int (if j > i then j else i))) hb := by with_unfolding_all rfl
@[simp] theorem v_min2S : wp (gMin2 [.str s, .str t] fr hb) Q = Q (.ok (.str (if ltC t s then t else s))) hb := by with_unfolding_all rfl
@[simp] theorem v_max2S : wp (gMax2 [.str s, .str t] fr hb) Q = Q (.ok (.str (if ltC s t then t else s))) hb := by with_unfolding_all rfl
@[simp] theorem v_cutS {lo hi : Option Int} : wp (gCut lo hi (.str s) fr hb) Q = if s.length ≤ szL then Q (.ok (.str (cutL s lo hi))) hb else False := wp_if
@[simp] theorem v_cutT {lo hi : Option Int} : wp (gCut lo hi (.tup xs) fr hb) Q = Q (.ok (.tup (cutL xs lo hi))) hb := by with_unfolding_all rfl
@[simp] theorem v_cutF {lo hi : Option Int} : wp (gCut lo hi (.fz xs) fr hb) Q = Q (.ok (.lst (cutL xs lo hi))) hb := by with_unfolding_all rfl
@[simp] theorem v_cutL {lo hi : Option Int} : wp (gCut lo hi (.lst xs) fr hb) Q = Q (.ok (.lst (cutL xs lo hi))) hb := by with_unfolding_all rfl
@[simp] theorem v_revS : wp (gRev (.str s) fr hb) Q = if s.length ≤ szL then Q (.ok (.str s.reverse)) hb else False := wp_if
@[simp] theorem v_revT : wp (gRev (.tup xs) fr hb) Q = Q (.ok (.tup xs.reverse)) hb := by with_unfolding_all rfl
@[simp] theorem v_revL : wp (gRev (.lst xs) fr hb) Q = Q (.ok (.lst xs.reverse)) hb := by with_unfolding_all rfl
@[simp] theorem v_fmtS : wp (gFmt (.str s) fr hb) Q = if s.length ≤ szL then Q (.ok (.str s)) hb else False := wp_if
@[simp] theorem v_fmtI : wp (gFmt (.int i) fr hb) Q = if i.natAbs.log2 < 1920 then Q (.ok (.str (istr i))) hb else False := wp_if
@[simp] theorem v_strI : wp (gStr [.int i] fr hb) Q = if i.natAbs.log2 < 1920 then Q (.ok (.str (istr i))) hb else False := wp_if
@[simp] theorem v_tupL : wp (gTuple [.lst xs] fr hb) Q = Q (.ok (.tup xs)) hb := by with_unfolding_all rfl
@[simp] theorem v_tupT : wp (gTuple [.tup xs] fr hb) Q = Q (.ok (.tup xs)) hb := by with_unfolding_all rfl
@[simp] theorem v_cint {cl : String} {k : Int} : wp (gCint cl k (.rf cl) fr hb) Q = Q (.ok (.int k)) hb := by
  show wp (if cl = cl then some (R.ok (.int k), hb) else none) Q = _
  rw [if_pos rfl]; with_unfolding_all rfl
@[simp] theorem v_fld {cl f : String} {cs fs : List String} : wp (gFld cs f (.ins cl fs vs) fr hb) Q = if cs.contains cl = true then wpO (getF fs vs f) Q hb else False := by
  show wp (if cs.contains cl then (match getF fs vs f with | some x => some (R.ok x, hb) | none => none) else none) Q = _
  rw [wp_ite]
  cases getF fs vs f <;> with_unfolding_all rfl
/-! in -/
@[simp] theorem v_inCh {ch : Char} {neg : Bool} : wp (gInD neg (.str [ch]) (.str t) fr hb) Q = Q (.ok (.bl (neg != decide (ch ∈ t)))) hb := by with_unfolding_all rfl
theorem gInD_seq {neg : Bool} (hs : vSeq fr hb y = some ys) (hd : vDct fr hb y = none) : gInD neg x y fr hb = if dat 64 x && ys.all (dat 63) then some (.ok (.bl (neg != anyEq ys x)), hb) else none := by
  unfold gInD
  rw [hd]
  show gIn neg x y fr hb = _
  unfold gIn
  split
  · simp [vSeq, vLst] at hs
  · rw [hs]
theorem v_inL {neg : Bool} (hx : dat 64 x = true) (hy : xs.all (dat 63) = true) : wp (gInD neg x (.lst xs) fr hb) Q = Q (.ok (.bl (neg != anyEq xs x))) hb := by
  rw [gInD_seq (ys := xs) rfl rfl, hx, hy]; with_unfolding_all rfl
theorem v_inT {neg : Bool} (hx : dat 64 x = true) (hy : xs.all (dat 63) = true) : wp (gInD neg x (.tup xs) fr hb) Q = Q (.ok (.bl (neg != anyEq xs x))) hb := by
  rw [gInD_seq (ys := xs) rfl rfl, hx, hy]; with_unfolding_all rfl
theorem v_inF {neg : Bool} (hx : dat 64 x = true) (hy : xs.all (dat 63) = true) : wp (gInD neg x (.fz xs) fr hb) Q = Q (.ok (.bl (neg != anyEq xs x))) hb := by
  rw [gInD_seq (ys := xs) rfl rfl, hx, hy]; with_unfolding_all rfl
theorem v_inB {neg : Bool} (eb : hb[n]? = some (.lst xs)) (hx : dat 64 x = true) (hy : xs.all (dat 63) = true) : wp (gInD neg x (.box n) fr hb) Q = Q (.ok (.bl (neg != anyEq xs x))) hb := by
  rw [gInD_seq (ys := xs) (by simp only [vSeq, vLst, eb]) (by simp only [vDct, eb]), hx, hy]; with_unfolding_all rfl
/-! equality of data -/
theorem strC_iff {s t : List Char} : strC s = strC t ↔ s = t := by
  constructor
  · intro h
    unfold strC at h
    injection h with h
    have h2 : s.map Char.toNat = t.map Char.toNat := by simpa using congrArg Array.toList h
    exact List.map_inj_right (fun a b e => by
      apply Char.ext
      apply UInt32.toNat_inj.mp
      exact e) |>.mp h2
  · rintro rfl; with_unfolding_all rfl
@[simp] theorem deqS : deq (.str s) (.str t) = decide (s = t) := by
  show (strC s == strC t) = _
  by_cases h : s = t
  · subst h; simp
  · have : strC s ≠ strC t := fun e => h (strC_iff.mp e)
    rw [decide_eq_false h]
    exact beq_eq_false_iff_ne.mpr this
@[simp] theorem deqI : deq (.int i) (.int j) = decide (i = j) := by with_unfolding_all rfl
@[simp] theorem deqB : deq (.bl b) (.bl c) = decide (b = c) := by cases b <;> cases c <;> with_unfolding_all rfl
@[simp] theorem deqN : deq .non .non = true := by
  show PyData.eqv .none .none = true
  unfold PyData.eqv; with_unfolding_all rfl
@[simp] theorem deqNS : deq .non (.str s) = false := by show PyData.eqv .none (.str _) = false; unfold PyData.eqv; with_unfolding_all rfl
@[simp] theorem deqSN : deq (.str s) .non = false := by show PyData.eqv (.str _) .none = false; unfold PyData.eqv; with_unfolding_all rfl
/-- item by item -/
def deqs : List D → List D → Bool
  | [], [] => true
  | x :: xs, y :: ys => deq x y && deqs xs ys
  | _, _ => false
theorem eqvAll_pys : ∀ xs ys : List D, PyData.eqvAll (D.pys xs) (D.pys ys) = deqs xs ys
  | [], [] => by unfold D.pys PyData.eqvAll deqs; with_unfolding_all rfl
  | [], _ :: _ => by unfold D.pys PyData.eqvAll deqs; with_unfolding_all rfl
  | _ :: _, [] => by unfold D.pys PyData.eqvAll deqs; with_unfolding_all rfl
  | x :: xs, y :: ys => by
    unfold D.pys PyData.eqvAll deqs
    rw [eqvAll_pys xs ys]; with_unfolding_all rfl
@[simp] theorem deqL : deq (.lst xs) (.lst ys) = deqs xs ys := by
  show PyData.eqv (.list (D.pys xs)) (.list (D.pys ys)) = _
  rw [show PyData.eqv (.list (D.pys xs)) (.list (D.pys ys)) = PyData.eqvAll (D.pys xs) (D.pys ys) by unfold PyData.eqv; with_unfolding_all rfl]
  exact eqvAll_pys xs ys
@[simp] theorem deqT : deq (.tup xs) (.tup ys) = deqs xs ys := by
  show PyData.eqv (.tuple (D.pys xs)) (.tuple (D.pys ys)) = _
  rw [show PyData.eqv (.tuple (D.pys xs)) (.tuple (D.pys ys)) = PyData.eqvAll (D.pys xs) (D.pys ys) by unfold PyData.eqv; with_unfolding_all rfl]
  exact eqvAll_pys xs ys
@[simp] theorem deqs_nil : deqs [] [] = true := by with_unfolding_all rfl
@[simp] theorem deqs_cons : deqs (x :: xs) (y :: ys) = (deq x y && deqs xs ys) := by with_unfolding_all rfl
@[simp] theorem deqs_nc : deqs [] (y :: ys) = false := by with_unfolding_all rfl
@[simp] theorem deqs_cn : deqs (x :: xs) [] = false := by with_unfolding_all rfl
theorem deqs_map {α : Type} [DecidableEq α] {f : α → D} (h : ∀ a b, deq (f a) (f b) = decide (a = b)) : ∀ as bs : List α, deqs (as.map f) (bs.map f) = decide (as = bs)
  | [], [] => rfl
  | [], _ :: _ => rfl
  | _ :: _, [] => rfl
  | a :: as, b :: bs => by
    show (deq (f a) (f b) && deqs (as.map f) (bs.map f)) = _
    rw [h, deqs_map h as bs]
    simp
theorem anyEq_map {α : Type} [DecidableEq α] {f : α → D} (h : ∀ a b, deq (f a) (f b) = decide (a = b)) (as : List α) (b : α) : anyEq (as.map f) (f b) = decide (b ∈ as) := by
  unfold anyEq
  induction as with
  | nil => with_unfolding_all rfl
  | cons a as ih =>
    rw [List.map_cons, List.any_cons, ih, h]
    simp [eq_comm]
@[simp] theorem datS {k : Nat} : dat k (.str s) = true := by cases k <;> with_unfolding_all rfl
@[simp] theorem datI {k : Nat} : dat k (.int i) = true := by cases k <;> with_unfolding_all rfl
@[simp] theorem datB {k : Nat} : dat k (.bl b) = true := by cases k <;> with_unfolding_all rfl
@[simp] theorem datN {k : Nat} : dat k .non = true := by cases k <;> with_unfolding_all rfl
@[simp] theorem datT {k : Nat} : dat (k + 1) (.tup xs) = xs.all (dat k) := by with_unfolding_all rfl
@[simp] theorem datL {k : Nat} : dat (k + 1) (.lst xs) = xs.all (dat k) := by with_unfolding_all rfl
@[simp] theorem datF {k : Nat} : dat (k + 1) (.fz xs) = xs.all (dat k) := by with_unfolding_all rfl
theorem dat_map {α : Type} {f : α → D} {k : Nat} (h : ∀ a, dat k (f a) = true) (as : List α) : (as.map f).all (dat k) = true := by
  rw [List.all_map]
  exact List.all_eq_true.mpr fun a _ => h a
theorem v_eq (h1 : dat 64 (rz fr hb x) = true) (h2 : dat 64 (rz fr hb y) = true) : wp (gEq x y fr hb) Q = Q (.ok (.bl (deq (rz fr hb x) (rz fr hb y)))) hb := by
  unfold gEq; rw [h1, h2]; with_unfolding_all rfl
theorem v_ne (h1 : dat 64 (rz fr hb x) = true) (h2 : dat 64 (rz fr hb y) = true) : wp (gNe x y fr hb) Q = Q (.ok (.bl (!deq (rz fr hb x) (rz fr hb y)))) hb := by
  unfold gNe; rw [h1, h2]; with_unfolding_all rfl
@[simp] theorem rzS : rz fr hb (.str s) = .str s := by with_unfolding_all rfl
@[simp] theorem rzI : rz fr hb (.int i) = .int i := by with_unfolding_all rfl
@[simp] theorem rzB : rz fr hb (.bl b) = .bl b := by with_unfolding_all rfl
@[simp] theorem rzN : rz fr hb .non = .non := by with_unfolding_all rfl
@[simp] theorem rzT : rz fr hb (.tup xs) = .tup xs := by with_unfolding_all rfl
@[simp] theorem rzL : rz fr hb (.lst xs) = .lst xs := by with_unfolding_all rfl
@[simp] theorem rzF : rz fr hb (.fz xs) = .fz xs := by with_unfolding_all rfl
theorem rzX (e : hb[n]? = some (.lst xs)) : rz fr hb (.box n) = .lst xs := by
  simp only [rz, vLst, e]
theorem rzO {k : Nat} (e : fr[k]? = some (.ow (.lst xs))) : rz fr hb (.loc k) = .lst xs := by
  simp only [rz, vLst, e]
@[simp] theorem v_eqI : wp (gEq (.int i) (.int j) fr hb) Q = Q (.ok (.bl (decide (i = j)))) hb := v_eq rfl rfl
@[simp] theorem v_neI : wp (gNe (.int i) (.int j) fr hb) Q = Q (.ok (.bl (!decide (i = j)))) hb := v_ne rfl rfl
@[simp] theorem v_eqS : wp (gEq (.str s) (.str t) fr hb) Q = Q (.ok (.bl (decide (s = t)))) hb := by rw [v_eq rfl rfl]; simp
@[simp] theorem v_neS : wp (gNe (.str s) (.str t) fr hb) Q = Q (.ok (.bl (!decide (s = t)))) hb := by rw [v_ne rfl rfl]; simp
@[simp] theorem v_eqB : wp (gEq (.bl b) (.bl c) fr hb) Q = Q (.ok (.bl (decide (b = c)))) hb := by rw [v_eq rfl rfl]; simp
@[simp] theorem v_neB : wp (gNe (.bl b) (.bl c) fr hb) Q = Q (.ok (.bl (!decide (b = c)))) hb := by rw [v_ne rfl rfl]; simp
/-! kinds -/
@[simp] theorem isV_s : (D.str s).isVal = true := by with_unfolding_all rfl
@[simp] theorem isV_i : (D.int i).isVal = true := by with_unfolding_all rfl
@[simp] theorem isV_b : (D.bl b).isVal = true := by with_unfolding_all rfl
@[simp] theorem isV_n : D.non.isVal = true := by with_unfolding_all rfl
@[simp] theorem isV_t : (D.tup xs).isVal = true := by with_unfolding_all rfl
@[simp] theorem isV_l : (D.lst xs).isVal = true := by with_unfolding_all rfl
@[simp] theorem isV_f : (D.fz xs).isVal = true := by with_unfolding_all rfl
@[simp] theorem isV_d : (D.dct ks vs).isVal = true := by with_unfolding_all rfl
@[simp] theorem isV_x : (D.box n).isVal = true := by with_unfolding_all rfl
@[simp] theorem isV_c {cl : String} {fs : List String} : (D.ins cl fs vs).isVal = true := by with_unfolding_all rfl
@[simp] theorem isV_r {cl : String} : (D.rf cl).isVal = true := by with_unfolding_all rfl
@[simp] theorem isV_y {cl : String} : (D.ty cl).isVal = true := by with_unfolding_all rfl
@[simp] theorem isN_n : D.non.isN = true := by with_unfolding_all rfl
@[simp] theorem isN_t : (D.tup xs).isN = false := by with_unfolding_all rfl
@[simp] theorem isN_s : (D.str s).isN = false := by with_unfolding_all rfl
@[simp] theorem isN_i : (D.int i).isN = false := by with_unfolding_all rfl
@[simp] theorem allVal_nil : allVal [] = true := by with_unfolding_all rfl
@[simp] theorem allVal_cons : allVal (d :: xs) = (d.isVal && allVal xs) := by with_unfolding_all rfl
@[simp] theorem O_dl : (O.lst xs).d = .lst xs := by with_unfolding_all rfl
@[simp] theorem O_dd : (O.dct ks vs).d = .dct ks vs := by with_unfolding_all rfl
@[simp] theorem O_di {cl : String} {fs : List String} : (O.ins cl fs vs).d = .ins cl fs vs := by with_unfolding_all rfl
@[simp] theorem rtD_s : rtD fr (.str s) = some (.str s) := by with_unfolding_all rfl
@[simp] theorem rtD_i : rtD fr (.int i) = some (.int i) := by with_unfolding_all rfl
@[simp] theorem rtD_b : rtD fr (.bl b) = some (.bl b) := by with_unfolding_all rfl
@[simp] theorem rtD_n : rtD fr .non = some .non := by with_unfolding_all rfl
@[simp] theorem rtD_t : rtD fr (.tup xs) = some (.tup xs) := by with_unfolding_all rfl
@[simp] theorem rtD_l : rtD fr (.lst xs) = some (.lst xs) := by with_unfolding_all rfl
@[simp] theorem rtD_x : rtD fr (.box n) = some (.box n) := by with_unfolding_all rfl
theorem szL_big : 1000000 ≤ szL := by unfold szL; decide
end
/-! sequence with what is known between -/
section
variable {sv sv2 : Sv} {fr : Fr} {hb : HB} {QS : SR → HB → Prop}
theorem wp_seq (P : Fr → HB → Prop) (h1 : wp (sv fr hb) (fun r h => match r with
    | .nx f => P f h
    | .rt d => QS (.rt d) h
    | .bk f => QS (.bk f) h
    | .ct f => QS (.ct f) h
    | .ex x => QS (.ex x) h)) (h2 : ∀ f h, P f h → wp (sv2 f h) QS) : wp (sSeq sv sv2 fr hb) QS := by
  rw [wpS_seq]
  refine wp_mono h1 fun r h q => ?_
  cases r <;> first | exact h2 _ _ q | exact q
end
end DI
set_option Elab.async false
set_option linter.all false
set_option maxRecDepth 100000
set_option maxHeartbeats 0
/-! evaluators of k01; printed by gen2.py -/
namespace Lw
open PySem DI
def sv__law_open : Sv := (sSeq (sFz 1 (sOwn 1 (cLc (iVal (eCut (eV 0) oNone (oSome (eC (.int 63))))) (.nm 3) [3] (eC (.bl true)) (eL gInt (eCons (eV 3) eNil))))) (sSeq (sSet 2 (eOp2 gAdd (eC (.int 5647)) (eOp2 gMul (eC (.int 97)) (eL gLen (eCons (eV 1) eNil))))) (sSeq (sFor (iVal (eV 1)) (.nm 3) (sSet 2 (eOp2 gMod (eL gInt (eCons (eOp2 gAdd (eOp2 gMul (eV 2) (eC (.int 6367))) (eV 3)) eNil)) (eC (.int 2147483549))))) (sRet (eBx (cLst (eCons (eV 1) (eCons (eC (.int 0)) (eCons (eC (.int 0)) (eCons (eV 2) eNil))))))))))
def ev__law_open : FSem := fnE 4 sv__law_open
def sv__law_pull : Sv := (sSeq (sIf (eOp2 (gOrd .lt) (eOp2 gIxD (eV 0) (eC (.int 2))) (eC (.int 2))) (sSeq (sPut (eOp2 gAdd (eOp2 gIxD (eV 0) (eC (.int 1))) (eC (.int 1))) (eV 0) (eC (.int 1))) (sSeq (sSet 3 (eOp2 gAdd (eOp2 gIxD (eV 0) (eC (.int 3))) (eOp2 gMul (eOp2 gIxD (eV 0) (eC (.int 1))) (eC (.int 8009))))) (sSeq (sIf (eOp2 (gOrd .le) (eOp2 gIxD (eV 0) (eC (.int 1))) (eL gLen (eCons (eOp2 gIxD (eV 0) (eC (.int 0))) eNil))) (sSet 3 (eOp2 gIxD (eOp2 gIxD (eV 0) (eC (.int 0))) (eOp2 gSub (eOp2 gIxD (eV 0) (eC (.int 1))) (eC (.int 1))))) sNil) (sSeq (sIf (eOr (eOp2 (gOrd .gt) (eOp2 gIxD (eV 0) (eC (.int 1))) (eL gLen (eCons (eOp2 gIxD (eV 0) (eC (.int 0))) eNil))) (eOp2 (gOrd .lt) (eV 3) (eOp2 gPow (eC (.int 10)) (eC (.int 18))))) (sSeq (sSet 4 (eOp2 gMod (eL gInt (eCons (eOp2 gAdd (eOp2 gAdd (eOp2 gMul (eV 3) (eC (.int 45742))) (eOp2 gMul (eOp2 gIxD (eV 0) (eC (.int 1))) (eC (.int 30269)))) (eOp2 gIxD (eV 0) (eC (.int 3)))) eNil)) (eC (.int 2147483587)))) (sSeq (sSet 5 (eOp2 gMod (eL gInt (eCons (eOp2 gAdd (eOp2 gMul (eV 4) (eV 4)) (eOp2 gMul (eOp2 gIxD (eV 0) (eC (.int 1))) (eC (.int 17257)))) eNil)) (eC (.int 1000000009)))) (sRet (eOp2 gMod (eOp2 gFdiv (eOp2 gMod (eL gInt (eCons (eOp2 gAdd (eOp2 gMul (eV 5) (eC (.int 41358))) (eV 4)) eNil)) (eC (.int 2147483323))) (eC (.int 19))) (eV 1))))) sNil) (sPut (eV 3) (eV 0) (eC (.int 2))))))) sNil) (sSeq (sSet 2 (eOp2 gMod (eL gInt (eCons (eOp2 gIxD (eV 0) (eC (.int 2))) eNil)) (eV 1))) (sSeq (sPut (eOp2 gFdiv (eL gInt (eCons (eOp2 gIxD (eV 0) (eC (.int 2))) eNil)) (eV 1)) (eV 0) (eC (.int 2))) (sRet (eV 2)))))
def ev__law_pull : FSem := fnE 6 sv__law_pull
def sv__law_pick : Sv := (sRet (eOp2 gIxD (eV 1) (eCallN 2 ev__law_pull (eCons (eV 0) (eCons (eL gLen (eCons (eV 1) eNil)) eNil)))))
def ev__law_pick : FSem := fnE 2 sv__law_pick
def sv__law_letters : Sv := (sRet (eCut (eCallN 2 ev__law_pick (eCons (eV 0) (eCons (eLst (eCons (eC (.str [Char.ofNat 97, Char.ofNat 98, Char.ofNat 99, Char.ofNat 100, Char.ofNat 101, Char.ofNat 102, Char.ofNat 103])) (eCons (eC (.str [Char.ofNat 97, Char.ofNat 100, Char.ofNat 103, Char.ofNat 107, Char.ofNat 110, Char.ofNat 113, Char.ofNat 122])) (eCons (eC (.str [Char.ofNat 99, Char.ofNat 100, Char.ofNat 101, Char.ofNat 118, Char.ofNat 119, Char.ofNat 120, Char.ofNat 121])) eNil)))) eNil))) oNone (oSome (eV 1))))
def ev__law_letters : FSem := fnE 2 sv__law_letters
def sv__law_mixed : Sv := (sSeq (sMulti [2, 3] [.v (eBx (cCall glList (eCons (eV 1) eNil))), .o (cLst eNil)]) (sSeq (sWhile (eOp2 gNe (eV 2) (eLst eNil)) (sBM "list" omAppend none (eV 3) (eCons (eBM "list" omPopAt (eV 2) (eCons (eCallN 2 ev__law_pull (eCons (eV 0) (eCons (eL gLen (eCons (eV 2) eNil)) eNil))) eNil)) eNil))) (sRet (eV 3))))
def ev__law_mixed : FSem := fnE 4 sv__law_mixed
def sv__law_joins : Sv := (sRet (eOp2 (gInD false) (eOp2 gAdd (eL gMin2 (eCons (eV 1) (eCons (eV 2) eNil))) (eL gMax2 (eCons (eV 1) (eCons (eV 2) eNil)))) (eV 0)))
def ev__law_joins : FSem := fnE 3 sv__law_joins
def sv__law_square : Sv := (sSeq (sFor (iRng1D (eCons (eL gLen (eCons (eV 0) eNil)) eNil)) (.nm 2) (sFor (iRng2D (eCons (eOp2 gAdd (eV 2) (eC (.int 1))) (eCons (eL gLen (eCons (eV 0) eNil)) eNil))) (.nm 3) (sSeq (sMulti [5, 6] [.v (eOp2 gIxD (eV 0) (eV 2)), .v (eOp2 gIxD (eV 0) (eV 3))]) (sSeq (sFz 4 (sOwn 4 (cLc (iVal (eV 0)) (.nm 7) [7] (eCallN 3 ev__law_joins (eCons (eV 1) (eCons (eV 5) (eCons (eV 7) eNil)))) (eV 7)))) (sIf (eOp2 (gOrd .gt) (eL gLen (eCons (eFz (cLc (iVal (eV 4)) (.nm 7) [7] (eCallN 3 ev__law_joins (eCons (eV 1) (eCons (eV 6) (eCons (eV 7) eNil)))) (eV 7))) eNil)) (eC (.int 1))) (sRet (eTup (eCons (eV 5) (eCons (eV 6) eNil)))) sNil))))) (sRet (eC .non)))
def ev__law_square : FSem := fnE 8 sv__law_square
def sv__law_table : Sv := (sSeq (sSet 2 (eOp2 gAdd (eC (.int 2)) (eCallN 2 ev__law_pull (eCons (eV 0) (eCons (eOp2 gSub (eV 1) (eC (.int 1))) eNil))))) (sSeq (sMulti [4, 5] [.v (eCallN 2 ev__law_letters (eCons (eV 0) (eCons (eV 2) eNil))), .o (cLst eNil)]) (sSeq (sFor (iVal (eCallN 2 ev__law_mixed (eCons (eV 0) (eCons (eFz (cLRg (eCons (eOp2 gMul (eV 2) (eV 2)) eNil))) eNil)))) (.nm 3) (sSeq (sMulti [6, 7] [.v (eOp2 gIxD (eV 4) (eOp2 gFdiv (eV 3) (eV 2))), .v (eOp2 gIxD (eV 4) (eOp2 gMod (eL gInt (eCons (eV 3) eNil)) (eV 2)))]) (sIf (eAnd (eOp2 (gOrd .lt) (eV 6) (eV 7)) (eOp2 (gOrd .gt) (eCallN 2 ev__law_pull (eCons (eV 0) (eCons (eC (.int 4)) eNil))) (eC (.int 0)))) (sIf (eBind (eCallN 2 ev__law_square (eCons (eV 4) (eCons (eOp2 gAdd (eV 5) (eLst (eCons (eOp2 gAdd (eV 6) (eV 7)) eNil))) eNil))) (gIsN false)) (sBM "list" omAppend none (eV 5) (eCons (eOp2 gAdd (eV 6) (eV 7)) eNil)) sNil) sNil))) (sRet (eTup (eCons (eV 4) (eCons (eFz (cCall glSort (eCons (eV 5) eNil))) eNil)))))))
def ev__law_table : FSem := fnE 8 sv__law_table
def sv_is_ascending : Sv := (sRet (eAnd (eL (gAll false) (eCons (eFz (cLc (iVal (eV 0)) (.nm 1) [1] (eC (.bl true)) (eOp2 (gInD false) (eV 1) (eC (.str [Char.ofNat 97, Char.ofNat 98, Char.ofNat 99, Char.ofNat 100, Char.ofNat 101, Char.ofNat 102, Char.ofNat 103, Char.ofNat 104, Char.ofNat 105, Char.ofNat 106, Char.ofNat 107, Char.ofNat 108, Char.ofNat 109, Char.ofNat 110, Char.ofNat 111, Char.ofNat 112, Char.ofNat 113, Char.ofNat 114, Char.ofNat 115, Char.ofNat 116, Char.ofNat 117, Char.ofNat 118, Char.ofNat 119, Char.ofNat 120, Char.ofNat 121, Char.ofNat 122]))))) eNil)) (eL (gAll false) (eCons (eFz (cLc (iZipD (eCons (eV 0) (eCons (eCut (eV 0) (oSome (eC (.int 1))) oNone) eNil))) (.tp [2, 3]) [2, 3] (eC (.bl true)) (eOp2 (gOrd .lt) (eV 2) (eV 3)))) eNil))))
def ev_is_ascending : FSem := fnE 4 sv_is_ascending
def sv_is_pair : Sv := (sRet (eAnd (eOp2 gEq (eL gLen (eCons (eV 0) eNil)) (eC (.int 2))) (eAnd (eOp2 (gInD false) (eOp2 gIxD (eV 0) (eC (.int 0))) (eV 1)) (eAnd (eOp2 (gInD false) (eOp2 gIxD (eV 0) (eC (.int 1))) (eV 1)) (eOp2 gNe (eOp2 gIxD (eV 0) (eC (.int 0))) (eOp2 gIxD (eV 0) (eC (.int 1))))))))
def ev_is_pair : FSem := fnE 2 sv_is_pair
def sv_first_square : Sv := (sSeq (sFor (iEnumD (eCons (eV 0) eNil)) (.tp [2, 3]) (sFor (iVal (eCut (eV 0) (oSome (eOp2 gAdd (eV 2) (eC (.int 1)))) oNone)) (.nm 4) (sIf (eOp2 (gOrd .gt) (eL gLen (eCons (eFz (cLc (iVal (eOp2 gIxD (eV 1) (eV 3))) (.nm 5) [5] (eOp2 (gInD false) (eV 5) (eOp2 gIxD (eV 1) (eV 4))) (eV 5))) eNil)) (eC (.int 1))) (sRet (eTup (eCons (eV 3) (eCons (eV 4) eNil)))) sNil))) (sRet (eC .non)))
def ev_first_square : FSem := fnE 6 sv_first_square
def sv_Table___init__ : Sv := (sSeq (sIf (eOr (eNot (eChain (gOrd .le) (gOrd .le) (eC (.int 2)) (eL gLen (eCons (eV 1) eNil)) (eBind (eC (.rf "Table")) (gCint "Table" 7)))) (eNot (eCallN 1 ev_is_ascending (eCons (eV 1) eNil)))) (fun _ _ => none) sNil) (sSeq (sFor (iEnumD (eCons (eV 2) eNil)) (.tp [4, 5]) (sIf (eNot (eCallN 2 ev_is_pair (eCons (eV 5) (eCons (eV 1) eNil)))) (fun _ _ => none) sNil)) (sSeq (sStore ["Table"] "signs" (eV 1) (eV 0)) (sSeq (sStore ["Table"] "joined" (eFz (cDc (iVal (eV 1)) (.nm 6) [6] (eC (.bl true)) (eV 6) (eMt "str" gJoin (eC (.str [])) (eCons (eFz (cLc (iVal (eV 1)) (.nm 7) [7] (eOr (eOp2 (gInD false) (eOp2 gAdd (eV 6) (eV 7)) (eV 2)) (eOp2 (gInD false) (eOp2 gAdd (eV 7) (eV 6)) (eV 2))) (eV 7))) eNil)))) (eV 0)) (sSeq (sSet 3 (eCallN 2 ev_first_square (eCons (eV 1) (eCons (eBind (eV 0) (gFld ["Table"] "joined")) eNil)))) (sIf (eBind (eV 3) (gIsN true)) (fun _ _ => none) sNil))))))
def ev_Table___init__ : ISem := inE "Table" 8 sv_Table___init__
def sv__law_like (ev__law_like : FSem) : Sv := (sSeq (sIf (eL (gIsi []) (eCons (eV 1) (eCons (eTup (eCons (eC (.ty "list")) (eCons (eC (.ty "tuple")) eNil))) eNil))) (sSeq (sIf (eOr (eOp2 gNe (eL (gIsi []) (eCons (eV 0) (eCons (eC (.ty "list")) eNil))) (eL (gIsi []) (eCons (eV 1) (eCons (eC (.ty "list")) eNil)))) (eOp2 gNe (eL (gIsi []) (eCons (eV 0) (eCons (eC (.ty "tuple")) eNil))) (eL (gIsi []) (eCons (eV 1) (eCons (eC (.ty "tuple")) eNil))))) (sRet (eC (.bl false))) sNil) (sRet (eAnd (eOp2 gEq (eL gLen (eCons (eV 0) eNil)) (eL gLen (eCons (eV 1) eNil))) (eL (gAll false) (eCons (eFz (cLc (iRng1D (eCons (eL gLen (eCons (eV 1) eNil)) eNil)) (.nm 2) [2] (eC (.bl true)) (eCallN 2 ev__law_like (eCons (eOp2 gIxD (eV 0) (eV 2)) (eCons (eOp2 gIxD (eV 1) (eV 2)) eNil))))) eNil))))) sNil) (sSeq (sIf (eOr (eL (gIsi []) (eCons (eV 0) (eCons (eTup (eCons (eC (.ty "list")) (eCons (eC (.ty "tuple")) eNil))) eNil))) (eOp2 gNe (eL (gIsi []) (eCons (eV 0) (eCons (eC (.ty "bool")) eNil))) (eL (gIsi []) (eCons (eV 1) (eCons (eC (.ty "bool")) eNil))))) (sRet (eC (.bl false))) sNil) (sRet (eOp2 gEq (eV 0) (eV 1)))))
def ev__law_like : FSem := recE (fun ev => fnE 3 (sv__law_like ev)) 8
def sv_Table_labels : Sv := (sRet (eBind (eV 0) (gFld ["Table"] "signs")))
def ev_Table_labels : FSem := fnE 1 sv_Table_labels
def sv_Table_pairs : Cv := (cLc2 (iVal (eBind (eV 0) (gFld ["Table"] "signs"))) (.nm 1) [1, 2] (eC (.bl true)) (iVal (eOp2 gIxD (eBind (eV 0) (gFld ["Table"] "joined")) (eV 1))) (.nm 2) [2] (eOp2 (gOrd .lt) (eV 1) (eV 2)) (eOp2 gAdd (eV 1) (eV 2)))
def ev_Table_pairs : FSemC := fnC 3 sv_Table_pairs
def sv_Table___len__ : Sv := (sRet (eL gLen (eCons (eBind (eV 0) (gFld ["Table"] "signs")) eNil)))
def ev_Table___len__ : FSem := fnE 1 sv_Table___len__
def sv_Table___repr__ : Sv := (sRet (eJs [(eC (.str [Char.ofNat 84, Char.ofNat 97, Char.ofNat 98, Char.ofNat 108, Char.ofNat 101, Char.ofNat 40])), (eBind (eBind (eV 0) (gFld ["Table"] "signs")) gFmt), (eC (.str [Char.ofNat 44, Char.ofNat 32])), (eBind (eL gLen (eCons (eFz (cMeth "Table" "pairs" 1 ev_Table_pairs (eV 0) eNil)) eNil)) gFmt), (eC (.str [Char.ofNat 32, Char.ofNat 112, Char.ofNat 97, Char.ofNat 105, Char.ofNat 114, Char.ofNat 115, Char.ofNat 41]))] []))
def ev_Table___repr__ : FSem := fnE 1 sv_Table___repr__
def sv_Table_check_label : Sv := (sFor (iVal (eV 1)) (.nm 2) (sIf (eOp2 (gInD true) (eV 2) (eFz (cCall glList (eCons (eBind (eV 0) (gFld ["Table"] "signs")) eNil)))) (fun _ _ => none) sNil))
def ev_Table_check_label : FSem := starF 1 (fnE 3 sv_Table_check_label)
def sv_Table_joins : Sv := (sSeq (sDrop (eMethR "Table" "check_label" ev_Table_check_label (eV 0) (eCons (eV 1) (eCons (eV 2) eNil)))) (sRet (eOp2 (gInD false) (eV 2) (eOp2 gIxD (eBind (eV 0) (gFld ["Table"] "joined")) (eV 1)))))
def ev_Table_joins : FSem := fnE 3 sv_Table_joins
def sv_Table___contains__ : Sv := (sRet (eAnd (eCallN 2 ev_is_pair (eCons (eV 1) (eCons (eBind (eV 0) (gFld ["Table"] "signs")) eNil))) (eOp2 (gInD false) (eOp2 gIxD (eV 1) (eC (.int 1))) (eOp2 gIxD (eBind (eV 0) (gFld ["Table"] "joined")) (eOp2 gIxD (eV 1) (eC (.int 0)))))))
def ev_Table___contains__ : FSem := fnE 2 sv_Table___contains__
def sv_Table___eq__ : Sv := (sRet (eAnd (eL (gIsi ["Table"]) (eCons (eV 1) (eCons (eC (.rf "Table")) eNil))) (eAnd (eOp2 gEq (eBind (eV 0) (gFld ["Table"] "signs")) (eBind (eV 1) (gFld ["Table"] "signs"))) (eOp2 gEqX (eBind (eV 0) (gFld ["Table"] "joined")) (eBind (eV 1) (gFld ["Table"] "joined"))))))
def ev_Table___eq__ : FSem := fnE 2 sv_Table___eq__
def sv_law : Sv := (sSeq (sSet 1 (eCallN 1 ev__law_open (eCons (eV 0) eNil))) (sSeq (sSet 2 (eCallN 2 ev__law_table (eCons (eV 1) (eCons (eC (.int 7)) eNil)))) (sSeq (sAsg (.tp [12, 13]) (eV 2)) (sSeq (sBx 3 (sOwn 3 (cLc (iVal (eCallN 2 ev__law_mixed (eCons (eV 1) (eCons (eOp2 gAdd (eV 13) (eCut (eV 13) oNone (oSome (eC (.int 2))))) eNil)))) (.nm 14) [14] (eC (.bl true)) (eCallN 2 ev__law_pick (eCons (eV 1) (eCons (eLst (eCons (eV 14) (eCons (eBind (eV 14) gRev) eNil))) eNil)))))) (sSeq (sSet 4 (eFz (cCall glList (eCons (eV 3) eNil)))) (sSeq (sSet 5 (eFz (cMake 2 0 (fun ds _ => ds) ev_Table___init__ (eArgs (eCons (eV 12) (eCons (eV 3) eNil)) eNil)))) (sSeq (sIf (eOp2 gNe (eV 3) (eV 4)) (sRet (eC (.bl false))) sNil) (sSeq (sBM "list" omClear none (eV 3) eNil) (sSeq (sSet 6 (eOp2 gAdd (eOp2 gAdd (eOp2 gAdd (eOp2 gAdd (eC (.str [Char.ofNat 84, Char.ofNat 97, Char.ofNat 98, Char.ofNat 108, Char.ofNat 101, Char.ofNat 40])) (eV 12)) (eC (.str [Char.ofNat 44, Char.ofNat 32]))) (eL gStr (eCons (eL gLen (eCons (eV 13) eNil)) eNil))) (eC (.str [Char.ofNat 32, Char.ofNat 112, Char.ofNat 97, Char.ofNat 105, Char.ofNat 114, Char.ofNat 115, Char.ofNat 41])))) (sSeq (sSet 7 (eLst (eCons (eV 12) (eCons (eV 13) (eCons (eL gLen (eCons (eV 12) eNil)) (eCons (eV 6) eNil)))))) (sSeq (sIf (eNot (eCallN 2 ev__law_like (eCons (eLst (eCons (eBind (eV 5) (gProp "Table" ev_Table_labels)) (eCons (eFz (cMeth "Table" "pairs" 1 ev_Table_pairs (eV 5) eNil)) (eCons (eL (gLenI "Table" ev_Table___len__) (eCons (eV 5) eNil)) (eCons (eL (gReprI "Table" ev_Table___repr__) (eCons (eV 5) eNil)) eNil))))) (eCons (eV 7) eNil)))) (sRet (eC (.bl false))) sNil) (sSeq (sDrop (eBM "list" omAppend (eBx (cMeth "Table" "pairs" 1 ev_Table_pairs (eV 5) eNil)) (eCons (eC (.str [Char.ofNat 122, Char.ofNat 122])) eNil))) (sSeq (sFor (iVal (eV 12)) (.nm 8) (sFor (iVal (eV 12)) (.nm 10) (sSeq (sSet 7 (eAnd (eOp2 gNe (eV 8) (eV 10)) (eCallN 3 ev__law_joins (eCons (eV 13) (eCons (eV 8) (eCons (eV 10) eNil)))))) (sIf (eNot (eCallN 2 ev__law_like (eCons (eLst (eCons (eMeth "Table" "joins" 3 ev_Table_joins (eV 5) (eCons (eV 8) (eCons (eV 10) eNil))) (eCons (eOp2 (gInI "Table" false ev_Table___contains__) (eOp2 gAdd (eV 8) (eV 10)) (eV 5)) eNil))) (eCons (eLst (eCons (eV 7) (eCons (eV 7) eNil))) eNil)))) (sRet (eC (.bl false))) sNil)))) (sSeq (sSet 9 (eCallN 2 ev__law_pick (eCons (eV 1) (eCons (eLst (eCons (eC (.str [])) (eCons (eC (.str [Char.ofNat 97])) (eCons (eC (.str [Char.ofNat 65, Char.ofNat 65])) (eCons (eV 12) (eCons (eC (.str [Char.ofNat 49, Char.ofNat 97])) (eCons (eOp2 gAdd (eOp2 gIxD (eV 12) (eC (.int 0))) (eC (.str [Char.ofNat 63]))) (eCons (eOp2 gMul (eOp2 gIxD (eV 12) (eC (.int 0))) (eC (.int 2))) (eCons (eC (.str [Char.ofNat 97, Char.ofNat 98, Char.ofNat 99])) eNil))))))))) eNil)))) (sSeq (sIf (eOp2 gNe (eOp2 (gInI "Table" false ev_Table___contains__) (eV 9) (eV 5)) (eAnd (eOp2 gEq (eL gLen (eCons (eV 9) eNil)) (eC (.int 2))) (eOp2 (gInD false) (eV 9) (eOp2 gAdd (eV 13) (eFz (cLc (iVal (eV 13)) (.nm 14) [14] (eC (.bl true)) (eBind (eV 14) gRev))))))) (sRet (eC (.bl false))) sNil) (sSeq (sSet 10 (eCallN 2 ev__law_table (eCons (eV 1) (eCons (eC (.int 7)) eNil)))) (sSeq (sSet 11 (eFz (cMake 2 0 (fun ds _ => ds) ev_Table___init__ (eArgs (eCons (eOp2 gIxD (eV 10) (eC (.int 0))) (eCons (eL gTuple (eCons (eOp2 gIxD (eV 10) (eC (.int 1))) eNil)) eNil)) eNil)))) (sSeq (sIf (eNot (eCallN 2 ev__law_like (eCons (eLst (eCons (eOp2 (gEqI "Table" ["Table"] ev_Table___eq__) (eV 5) (eV 11)) (eCons (eOp2 (gEqI "Table" ["Table"] ev_Table___eq__) (eV 11) (eV 5)) (eCons (eOp2 (gEqI "Table" ["Table"] ev_Table___eq__) (eV 5) (eV 12)) eNil)))) (eCons (eLst (eCons (eOp2 gEq (eV 2) (eV 10)) (eCons (eOp2 gEq (eV 2) (eV 10)) (eCons (eC (.bl false)) eNil)))) eNil)))) (sRet (eC (.bl false))) sNil) (sSeq (sIf (eAnd (eOp2 gNe (eV 13) (eLst eNil)) (eOp2 (gEqI "Table" ["Table"] ev_Table___eq__) (eV 5) (eFz (cMake 2 0 (fun ds _ => ds) ev_Table___init__ (eArgs (eCons (eV 12) (eCons (eCut (eV 13) oNone (oSome (eBind (eC (.int 1)) gNeg))) eNil)) eNil))))) (sRet (eC (.bl false))) sNil) (sRet (eAnd (eOp2 (gEqI "Table" ["Table"] ev_Table___eq__) (eV 5) (eFz (cMake 0 2 (fun ds es => perm [1, 0] ds es) ev_Table___init__ (eArgs eNil (eCons (eV 13) (eCons (eV 12) eNil)))))) (eAnd (eOp2 gEq (eFz (cMeth "Table" "pairs" 1 ev_Table_pairs (eV 5) eNil)) (eV 13)) (eOp2 gEq (eBind (eC (.rf "Table")) (gCint "Table" 7)) (eC (.int 7)))))))))))))))))))))))))
def ev_law : FSem := fnE 15 sv_law
end Lw
set_option Elab.async false
set_option linter.all false
set_option maxRecDepth 100000
set_option maxHeartbeats 1000000
/-! the laws' drawing -/
namespace Lw
open PySem DI
/-- the law's box -/
def Box (h : HB) (n : Nat) : Prop := ∃ (cs : List Int) (a b c : Int), h[n]? = some (.lst [.lst (cs.map .int), .int a, .int b, .int c]) ∧ 0 ≤ a
/-- all but the box stands as before -/
structure Ext (n : Nat) (h h' : HB) : Prop where
  len : h.length ≤ h'.length
  at_ : ∀ (j : Nat) o, j ≠ n → h[j]? = some o → h'[j]? = some o
theorem Ext.refl {n : Nat} {h : HB} : Ext n h h := ⟨Nat.le_refl _, fun _ _ _ e => e⟩
theorem Ext.trans {n : Nat} {h h1 h2 : HB} (a : Ext n h h1) (b : Ext n h1 h2) : Ext n h h2 := ⟨Nat.le_trans a.len b.len, fun j o hj e => b.at_ j o hj (a.at_ j o hj e)⟩
theorem Ext.set {n : Nat} {h : HB} {o : O} : Ext n h (h.set n o) := ⟨by simp, fun j o' hj e => by rw [List.getElem?_set_ne (Ne.symm hj)]; exact e⟩
theorem Ext.snoc {n : Nat} {h : HB} {o : O} : Ext n h (h ++ [o]) := ⟨by simp, fun j o' _ e => by
  have := (List.getElem?_eq_some_iff.mp e).1
  rw [List.getElem?_append_left this]; exact e⟩
theorem Box.snoc {n : Nat} {h : HB} {o : O} (b : Box h n) : Box (h ++ [o]) n := by
  obtain ⟨cs, a, b, c, e, ha⟩ := b
  refine ⟨cs, a, b, c, ?_, ha⟩
  rw [List.getElem?_append_left (List.getElem?_eq_some_iff.mp e).1]; exact e
theorem Box.lt {n : Nat} {h : HB} (b : Box h n) : n < h.length := by
  obtain ⟨cs, a, b, c, e, ha⟩ := b
  exact (List.getElem?_eq_some_iff.mp e).1
def BoxV (h : HB) (n : Nat) (cs : List Int) (a b c : Int) : Prop := h[n]? = some (.lst [.lst (cs.map .int), .int a, .int b, .int c])
theorem BoxV.get {h : HB} {n : Nat} {cs : List Int} {a b c : Int} (e : BoxV h n cs a b c) : h[n]? = some (.lst [.lst (cs.map .int), .int a, .int b, .int c]) := e
section
variable {h : HB} {n : Nat} {cs : List Int} {a b c : Int} {fr : Fr} {Q : R → HB → Prop}
theorem bx0 (e : BoxV h n cs a b c) : wp (gIxD (.box n) (.int 0) fr h) Q = Q (.ok (.lst (cs.map .int))) h := by rw [v_ixB e]; rfl
theorem bx1 (e : BoxV h n cs a b c) : wp (gIxD (.box n) (.int 1) fr h) Q = Q (.ok (.int a)) h := by rw [v_ixB e]; rfl
theorem bx2 (e : BoxV h n cs a b c) : wp (gIxD (.box n) (.int 2) fr h) Q = Q (.ok (.int b)) h := by rw [v_ixB e]; rfl
theorem bx3 (e : BoxV h n cs a b c) : wp (gIxD (.box n) (.int 3) fr h) Q = Q (.ok (.int c)) h := by rw [v_ixB e]; rfl
theorem rdB (e : BoxV h n cs a b c) : rdO fr h (.box n) = some (.lst [.lst (cs.map .int), .int a, .int b, .int c]) := e
theorem BoxV.set1 (e : BoxV h n cs a b c) {a' : Int} : BoxV (h.set n (.lst [.lst (cs.map .int), .int a', .int b, .int c])) n cs a' b c := by
  unfold BoxV
  rw [List.getElem?_set]; simp [(List.getElem?_eq_some_iff.mp e).1]
theorem BoxV.set2 (e : BoxV h n cs a b c) {b' : Int} : BoxV (h.set n (.lst [.lst (cs.map .int), .int a, .int b', .int c])) n cs a b' c := by
  unfold BoxV
  rw [List.getElem?_set]; simp [(List.getElem?_eq_some_iff.mp e).1]
theorem put1 {d : Int} : putO (.int 1) (.int d) (.lst [.lst (cs.map .int), .int a, .int b, .int c]) = some (.lst [.lst (cs.map .int), .int d, .int b, .int c]) := rfl
theorem put2 {d : Int} : putO (.int 2) (.int d) (.lst [.lst (cs.map .int), .int a, .int b, .int c]) = some (.lst [.lst (cs.map .int), .int a, .int d, .int c]) := rfl
end
theorem mod_pos {x m : Int} (h : 0 < m) : 0 ≤ x % m ∧ x % m < m := ⟨Int.emod_nonneg _ (by omega), Int.emod_lt_of_pos _ h⟩
theorem pull_tail {h : HB} {n : Nat} {m z a b c : Int} {cs : List Int} {QS : SR → HB → Prop} (e : BoxV h n cs a b c) (hm : 0 < m) (hq : ∀ r : Int, 0 ≤ r → r < m → QS (.rt (.int r)) h) :
    wp (sSeq (sSet 4 (eOp2 gMod (eL gInt (eCons (eOp2 gAdd (eOp2 gAdd (eOp2 gMul (eV 3) (eC (.int 45742))) (eOp2 gMul (eOp2 gIxD (eV 0) (eC (.int 1))) (eC (.int 30269)))) (eOp2 gIxD (eV 0) (eC (.int 3)))) eNil)) (eC (.int 2147483587)))) (sSeq (sSet 5 (eOp2 gMod (eL gInt (eCons (eOp2 gAdd (eOp2 gMul (eV 4) (eV 4)) (eOp2 gMul (eOp2 gIxD (eV 0) (eC (.int 1))) (eC (.int 17257)))) eNil)) (eC (.int 1000000009)))) (sRet (eOp2 gMod (eOp2 gFdiv (eOp2 gMod (eL gInt (eCons (eOp2 gAdd (eOp2 gMul (eV 5) (eC (.int 41358))) (eV 4)) eNil)) (eC (.int 2147483323))) (eC (.int 19))) (eV 1)))) [.sh (.box n), .sh (.int m), .un, .sh (.int z), .un, .un] h) QS := by
  have mulC : ∀ (x k : Int) {fr : Fr} {hb : HB} {Q : R → HB → Prop}, -(2 ^ 64) < k → k < 2 ^ 64 → wp (gMul (.int x) (.int k) fr hb) Q = Q (.ok (.int (x * k))) hb := fun x k {fr hb Q} h1 h2 => by rw [v_mulI, if_pos (.inr ⟨h1, h2⟩)]
  refine wp_seq (fun f h' => ∃ y : Int, 0 ≤ y ∧ y < 2147483587 ∧ f = [.sh (.box n), .sh (.int m), .un, .sh (.int z), .sh (.int y), .un] ∧ h' = h) ?_ ?_
  · simp only [wpS_set, wpE_op2, wpE_eL, wpEs_cons, wpEs_nil, wpE_v, wpE_c, List.getElem?_cons_succ, List.getElem?_cons_zero, onOk, onL, mulC _ 45742 (by decide) (by decide), mulC _ 30269 (by decide) (by decide), bx1 e, bx3 e, v_addI, v_intI, v_mod]
    rw [if_pos (by decide)]
    simp only [isV_i, if_true]
    exact ⟨_, (mod_pos (by decide)).1, (mod_pos (by decide)).2, rfl, trivial⟩
  rintro f h' ⟨y, hy0, hy1, rfl, rfl⟩
  refine wp_seq (fun f h'' => ∃ x : Int, 0 ≤ x ∧ x < 1000000009 ∧ f = [.sh (.box n), .sh (.int m), .un, .sh (.int z), .sh (.int y), .sh (.int x)] ∧ h'' = h') ?_ ?_
  · simp only [wpS_set, wpE_op2, wpE_eL, wpEs_cons, wpEs_nil, wpE_v, wpE_c, List.getElem?_cons_succ, List.getElem?_cons_zero, onOk, onL, mulC y y (by omega) (by omega), mulC _ 17257 (by decide) (by decide), bx1 e, bx3 e, v_addI, v_intI, v_mod]
    rw [if_pos (by decide)]
    simp only [isV_i, if_true]
    exact ⟨_, (mod_pos (by decide)).1, (mod_pos (by decide)).2, rfl, trivial⟩
  rintro f h'' ⟨x, hx0, hx1, rfl, rfl⟩
  simp only [wpS_ret, wpE_op2, wpE_eL, wpEs_cons, wpEs_nil, wpE_v, wpE_c, List.getElem?_cons_succ, List.getElem?_cons_zero, onOk, onL, mulC _ 41358 (by decide) (by decide), v_addI, v_intI, v_mod, v_fdiv]
  rw [if_pos (by decide), if_pos (by decide), if_pos hm]
  exact hq _ (mod_pos hm).1 (mod_pos hm).2
theorem pull_wp {hb : HB} {n : Nat} {m : Int} {Q : R → HB → Prop} (hB : Box hb n) (hm : 0 < m) (hm2 : m < 1073741824) (hq : ∀ (r : Int) hb', 0 ≤ r → r < m → Box hb' n → Ext n hb hb' → Q (.ok (.int r)) hb') : wp (ev__law_pull [.box n, .int m] hb) Q := by
  obtain ⟨cs, a, b, c, e, ha⟩ := hB
  replace e : BoxV hb n cs a b c := e
  unfold ev__law_pull sv__law_pull
  rw [wpF]
  show wp (sSeq _ _ [.sh (.box n), .sh (.int m), .un, .un, .un, .un] hb) _
  refine wp_seq (fun f h => (∃ s2 s3 s4 s5, f = [.sh (.box n), .sh (.int m), s2, s3, s4, s5]) ∧ ∃ a b, BoxV h n cs a b c ∧ 0 ≤ a ∧ Ext n hb h) ?_ ?_
  · rw [wpS_if]
    simp only [wpE_op2, wpE_v, wpE_c, List.getElem?_cons_zero, onOk, bx2 e, v_ordI, Ord4.i]
    by_cases h2 : b < 2
    · simp only [h2, decide_true]
      refine wp_seq (fun f h => f = [.sh (.box n), .sh (.int m), .un, .un, .un, .un] ∧ BoxV h n cs (a + 1) b c ∧ Ext n hb h) ?_ ?_
      · simp only [wpS_put, wpE_op2, wpE_v, wpE_c, List.getElem?_cons_zero, onOk, bx1 e, v_addI, isV_i, if_true, rdB e, put1]
        exact ⟨rfl, e.set1, Ext.set⟩
      rintro f h ⟨rfl, e1, x1⟩
      refine wp_seq (fun f h => ∃ z : Int, f = [.sh (.box n), .sh (.int m), .un, .sh (.int z), .un, .un] ∧ BoxV h n cs (a + 1) b c ∧ Ext n hb h) ?_ ?_
      · simp only [wpS_set, wpE_op2, wpE_v, wpE_c, List.getElem?_cons_zero, onOk, bx1 e1, bx3 e1, v_addI, v_mulI, isV_i, if_true]
        rw [if_pos (.inr (by decide))]
        exact ⟨_, rfl, e1, x1⟩
      rintro f h ⟨z, rfl, e2, x2⟩
      refine wp_seq (fun f h => ∃ z : Int, f = [.sh (.box n), .sh (.int m), .un, .sh (.int z), .un, .un] ∧ BoxV h n cs (a + 1) b c ∧ Ext n hb h) ?_ ?_
      · rw [wpS_if]
        simp only [wpE_op2, wpE_v, wpE_c, List.getElem?_cons_zero, onOk, onL, bx1 e2, bx0 e2, wpE_eL, wpEs_cons, wpEs_nil, v_lenL, v_ordI, Ord4.i]
        by_cases h3 : a + 1 ≤ ((cs.map D.int).length : Int)
        · simp only [h3, decide_true, wpS_set, wpE_op2, wpE_v, wpE_c, List.getElem?_cons_zero, onOk, bx1 e2, bx0 e2, v_sub, v_ixL]
          have ei : a + 1 - 1 = ((a.toNat : Nat) : Int) := by omega
          have hl : a.toNat < cs.length := by simp at h3; omega
          rw [ei, L2.atI, ← L2.atI, atI_nat, List.getElem?_map, List.getElem?_eq_getElem hl]
          simp only [Option.map_some, wpO_s, isV_i, if_true]
          exact ⟨_, rfl, e2, x2⟩
        · simp only [h3, decide_false, wpS_nil]
          exact ⟨_, rfl, e2, x2⟩
      rintro f h ⟨z, rfl, e3, x3⟩
      refine wp_seq (fun f h => ∃ z : Int, f = [.sh (.box n), .sh (.int m), .un, .sh (.int z), .un, .un] ∧ BoxV h n cs (a + 1) b c ∧ Ext n hb h) ?_ ?_
      · rw [wpS_if]
        have last : wp (sSeq (sSet 4 (eOp2 gMod (eL gInt (eCons (eOp2 gAdd (eOp2 gAdd (eOp2 gMul (eV 3) (eC (.int 45742))) (eOp2 gMul (eOp2 gIxD (eV 0) (eC (.int 1))) (eC (.int 30269)))) (eOp2 gIxD (eV 0) (eC (.int 3)))) eNil)) (eC (.int 2147483587)))) (sSeq (sSet 5 (eOp2 gMod (eL gInt (eCons (eOp2 gAdd (eOp2 gMul (eV 4) (eV 4)) (eOp2 gMul (eOp2 gIxD (eV 0) (eC (.int 1))) (eC (.int 17257)))) eNil)) (eC (.int 1000000009)))) (sRet (eOp2 gMod (eOp2 gFdiv (eOp2 gMod (eL gInt (eCons (eOp2 gAdd (eOp2 gMul (eV 5) (eC (.int 41358))) (eV 4)) eNil)) (eC (.int 2147483323))) (eC (.int 19))) (eV 1)))) [.sh (.box n), .sh (.int m), .un, .sh (.int z), .un, .un] h) (fun r h => match r with
            | .rt d => Q (.ok d) h
            | _ => False) := pull_tail e3 hm fun r h0 h1 => hq r h h0 h1 ⟨cs, a + 1, b, c, e3, by omega⟩ x3
        have last' := wp_mono last (Q' := fun r h => match r with
          | .nx f => ∃ z : Int, f = [.sh (.box n), .sh (.int m), .un, .sh (.int z), .un, .un] ∧ BoxV h n cs (a + 1) b c ∧ Ext n hb h
          | .rt d => Q (.ok d) h
          | .bk f => False
          | .ct f => False
          | .ex x => Q (.exn x) h) (fun r h q => by cases r <;> first | exact q | exact q.elim)
        simp only [wpE_op2, wpE_or, wpE_v, wpE_c, List.getElem?_cons_zero, List.getElem?_cons_succ, onOk, onL, bx1 e3, bx0 e3, wpE_eL, wpEs_cons, wpEs_nil, v_lenL, v_ordI, Ord4.i, v_pow]
        by_cases h4 : ((cs.map D.int).length : Int) < a + 1
        · simp only [h4, decide_true]
          exact last'
        · simp only [h4, decide_false]
          rw [if_pos (by decide)]
          by_cases h5 : z < 10 ^ (18 : Int).toNat
          · simp only [h5, decide_true]
            exact last'
          · simp only [h5, decide_false, wpS_nil]
            exact ⟨z, rfl, e3, x3⟩
      rintro f h ⟨z, rfl, e4, x4⟩
      simp only [wpS_put, wpE_op2, wpE_v, wpE_c, List.getElem?_cons_zero, List.getElem?_cons_succ, onOk, isV_i, if_true, rdB e4, put2]
      exact ⟨⟨_, _, _, _, rfl⟩, a + 1, z, e4.set2, by omega, x4.trans Ext.set⟩
    · simp only [h2, decide_false, wpS_nil]
      exact ⟨⟨_, _, _, _, rfl⟩, a, b, e, ha, Ext.refl⟩
  · rintro f h ⟨⟨s2, s3, s4, s5, rfl⟩, a, b, e, ha, x⟩
    simp only [wpS_seq, wpS_set, wpS_put, wpS_ret, wpE_op2, wpE_eL, wpEs_cons, wpEs_nil, wpE_v, wpE_c, List.getElem?_cons_succ, List.getElem?_cons_zero, onOk, onL, bx2 e, v_intI, v_mod]
    rw [if_pos hm]
    simp only [isV_i, if_true, List.set_cons_succ, List.set_cons_zero, List.getElem?_cons_succ, List.getElem?_cons_zero, bx2 e, v_intI, v_fdiv]
    rw [if_pos ⟨hm, hm2⟩]
    simp only [isV_i, if_true, rdB e, put2, wrO, rtD_i]
    exact hq _ _ (mod_pos hm).1 (mod_pos hm).2 ⟨cs, a, _, c, e.set2, ha⟩ (x.trans Ext.set)
end Lw
set_option Elab.async false
set_option linter.all false
set_option maxRecDepth 100000
set_option maxHeartbeats 1000000
/-! pick, mixed, like -/
namespace Lw
open PySem DI
theorem rtD_val {fr : Fr} {d : D} (h : d.isVal = true) : rtD fr d = some d := by
  cases d <;> first | rfl | cases h
theorem get_erase_perm {α : Type} : ∀ (l : List α) (i : Nat) (h : i < l.length), (l[i] :: l.eraseIdx i).Perm l
  | [], _, h => by simp at h
  | a :: l, 0, _ => by simp
  | a :: l, i + 1, h => by
    have hi : i < l.length := by simpa using h
    simp only [List.getElem_cons_succ, List.eraseIdx_cons_succ]
    exact (List.Perm.swap a l[i] _).trans ((get_erase_perm l i hi).cons a)
section
variable {hb : HB} {n : Nat} {xs : List D} {Q : R → HB → Prop}
theorem pick_wp (hB : Box hb n) (h0 : 0 < xs.length) (h1 : xs.length < 1073741824) (hv : ∀ x ∈ xs, x.isVal = true) (hq : ∀ d hb', d ∈ xs → Box hb' n → Ext n hb hb' → Q (.ok d) hb') : wp (ev__law_pick [.box n, .lst xs] hb) Q := by
  unfold ev__law_pick sv__law_pick
  rw [wpF]
  show wp (sRet _ [.sh (.box n), .sh (.lst xs)] hb) _
  simp only [wpS_ret, wpE_op2, wpE_v, List.getElem?_cons_succ, List.getElem?_cons_zero, wpE_callN, wpEs_cons, wpEs_nil, wpE_eL, v_lenL, onOk, onL, allVal_cons, allVal_nil, isV_x, isV_i, List.length_cons, List.length_nil, Bool.and_true, Bool.true_and]
  rw [if_pos (by rfl)]
  refine pull_wp hB (by omega) (by omega) fun r hb' r0 r1 hB' hE => ?_
  dsimp only [onOk]
  rw [v_ixL]
  have er : r = ((r.toNat : Nat) : Int) := by omega
  have hl : r.toNat < xs.length := by omega
  rw [er, atI_nat, List.getElem?_eq_getElem hl]
  have hm : xs[r.toNat] ∈ xs := List.getElem_mem hl
  simp only [wpO_s, rtD_val (hv _ hm)]
  exact hq _ hb' hm hB' hE
theorem deqs_nil_r : ∀ xs : List D, deqs xs [] = xs.isEmpty
  | [] => rfl
  | _ :: _ => rfl
theorem mixed_wp (hB : Box hb n) (h1 : xs.length < 1000000) (hv : ∀ x ∈ xs, x.isVal = true) (hd : ∀ x ∈ xs, dat 63 x = true) (hq : ∀ ys hb', ys.Perm xs → Box hb' n → Ext n hb hb' → Q (.ok (.lst ys)) hb') : wp (ev__law_mixed [.box n, .lst xs] hb) Q := by
  unfold ev__law_mixed sv__law_mixed
  rw [wpF]
  show wp (sSeq _ _ [.sh (.box n), .sh (.lst xs), .un, .un] hb) _
  have hsz := szL_big
  have hnb := hB.lt
  refine wp_seq (fun f h => f = [.sh (.box n), .sh (.lst xs), .sh (.box hb.length), .ow (.lst [])] ∧ h = hb ++ [.lst xs]) ?_ ?_
  · simp only [wpS_multi, wpM_v, wpM_o, wpM_nil, wpE_bx, wpC_call, wpC_lst, wpEs_cons, wpEs_nil, wpE_v, List.getElem?_cons_succ, List.getElem?_cons_zero, onL, onOk]
    have e : glList [.lst xs] [.sh (.box n), .sh (.lst xs), .un, .un] hb = some xs := rfl
    rw [e]
    simp only [isV_x, if_true, allVal_nil, List.length_nil]
    rw [if_pos (by simp)]
    exact ⟨rfl, trivial⟩
  rintro f h ⟨rfl, rfl⟩
  refine wp_seq (fun f h => ∃ ys, f = [.sh (.box n), .sh (.lst xs), .sh (.box hb.length), .ow (.lst ys)] ∧ ys.Perm xs ∧ Box h n ∧ Ext n hb h) ?_ ?_
  · refine wp_while (fun f h => ∃ acc rest, f = [.sh (.box n), .sh (.lst xs), .sh (.box hb.length), .ow (.lst acc)] ∧ h[hb.length]? = some (.lst rest) ∧ (acc ++ rest).Perm xs ∧ Box h n ∧ Ext n hb h)
      (fun f h => match h[hb.length]? with
        | some (.lst r) => r.length
        | _ => 0) ?_ _ _ _ rfl ⟨[], xs, rfl, by simp, by simp, hB.snoc, Ext.snoc⟩
    rintro f h ⟨acc, rest, rfl, er, hp, hB', hE⟩
    have mem : ∀ x ∈ rest, x ∈ xs := fun x hx => hp.mem_iff.mp (List.mem_append_right _ hx)
    have hlen := hp.length_eq
    rw [List.length_append] at hlen
    simp only [wpE_op2, wpE_v, List.getElem?_cons_succ, List.getElem?_cons_zero, onOk, wpE_lst, wpEs_nil, onL, allVal_nil, List.length_nil, Nat.zero_le, decide_true, Bool.and_self, if_true]
    rw [v_ne (by rw [rzX er]; exact List.all_eq_true.mpr fun x hx => hd x (mem x hx)) rfl, rzX er]
    simp only [rzL, deqL, deqs_nil_r]
    cases rest with
    | nil =>
      simp only [List.isEmpty_nil, Bool.not_true]
      exact ⟨acc, rfl, by simpa using hp, hB', hE⟩
    | cons r0 rs =>
      simp only [List.isEmpty_cons, Bool.not_false]
      have k3 : isK "list" (.loc 3) [.sh (.box n), .sh (.lst xs), .sh (.box hb.length), .ow (.lst acc)] h = true := rfl
      have k2 : isK "list" (.box hb.length) [.sh (.box n), .sh (.lst xs), .sh (.box hb.length), .ow (.lst acc)] h = true := by
        unfold isK rdO
        simp only [er]
        rfl
      simp only [wpS_bm, wpE_v, List.getElem?_cons_succ, List.getElem?_cons_zero, onOk, onL, k3, if_true, wpEs_cons, wpEs_nil, wpE_bm, k2, wpE_callN, wpE_eL, v_lenB er, allVal_cons, allVal_nil, isV_x, isV_i, List.length_cons, List.length_nil, Bool.and_true, Bool.true_and]
      rw [if_pos (by rfl)]
      refine pull_wp hB' (by omega) (by simp only [List.length_cons] at hlen ⊢; omega) fun r h2 q0 q1 hB2 hE2 => ?_
      have er2 : h2[hb.length]? = some (.lst (r0 :: rs)) := hE2.at_ _ _ (by omega) er
      have hl2 := (List.getElem?_eq_some_iff.mp er2).1
      have hrl : r.toNat < (r0 :: rs).length := by simp only [List.length_cons] at q1 ⊢; omega
      have eo : omPopAt (.lst (r0 :: rs)) [.int r] = some (.lst ((r0 :: rs).eraseIdx r.toNat), (r0 :: rs)[r.toNat]) := by
        show (if -(2 ^ 63) ≤ r ∧ r < 2 ^ 63 then (match seqIndex? r (r0 :: rs).length with
          | some k => (match (r0 :: rs)[k]? with
            | some d => some (O.lst ((r0 :: rs).eraseIdx k), d)
            | none => none)
          | none => none) else none) = _
        have hs : seqIndex? r (r0 :: rs).length = some r.toNat := by
          unfold seqIndex?
          have : ¬ r < 0 := by omega
          simp only [this, if_false]
          rw [if_pos]
          simp only [List.length_cons] at q1 ⊢
          simp only [Bool.and_eq_true, decide_eq_true_eq]
          omega
        rw [if_pos (by simp only [List.length_cons] at hlen q1; omega), hs]
        dsimp only
        rw [List.getElem?_eq_getElem hrl]
      have hm : (r0 :: rs)[r.toNat] ∈ (r0 :: rs) := List.getElem_mem hrl
      simp only [er2, isV_i, if_true, eo, hv _ (mem _ hm), List.getElem?_cons_succ, List.getElem?_cons_zero, rdO]
      have ea : omAppend (.lst acc) [(r0 :: rs)[r.toNat]] = some (.lst (acc ++ [(r0 :: rs)[r.toNat]]), .non) := by
        show (if acc.length < szL then some (O.lst (acc ++ [_]), D.non) else none) = _
        rw [if_pos (by simp only [List.length_cons] at hlen; omega)]
      simp only [ea, toN, wrO, List.set_cons_succ, List.set_cons_zero]
      have g1 : (h2.set hb.length (O.lst ((r0 :: rs).eraseIdx r.toNat)))[hb.length]? = some (.lst ((r0 :: rs).eraseIdx r.toNat)) := by
        rw [List.getElem?_set]; simp [hl2]
      refine ⟨⟨_, _, rfl, g1, ?_, ?_, ?_⟩, ?_⟩
      · refine List.Perm.trans ?_ hp
        rw [List.append_assoc]
        exact List.Perm.append_left _ (get_erase_perm _ _ hrl)
      · obtain ⟨cs, a, b, c, e, ha⟩ := hB2
        exact ⟨cs, a, b, c, by rw [List.getElem?_set_ne (by omega)]; exact e, ha⟩
      · refine ⟨by rw [List.length_set]; exact Nat.le_trans hE.len hE2.len, fun j o hj e => ?_⟩
        have := (List.getElem?_eq_some_iff.mp e).1
        rw [List.getElem?_set_ne (by omega)]
        exact hE2.at_ j o hj (hE.at_ j o hj e)
      · rw [g1, er]
        simp only [List.length_eraseIdx, hrl, if_true]
        omega
  rintro f h ⟨ys, rfl, hp, hB', hE⟩
  simp only [wpS_ret, wpE_v, List.getElem?_cons_succ, List.getElem?_cons_zero, rtD, O_dl]
  exact hq ys h hp hB' hE
end
/-! like -/
/-- plain data of a depth -/
def pl : Nat → D → Bool
  | _, .non => true
  | _, .bl _ => true
  | _, .int _ => true
  | _, .str _ => true
  | k + 1, .lst xs => decide (xs.length ≤ 1000000) && xs.all (pl k)
  | k + 1, .tup xs => decide (xs.length ≤ 1000000) && xs.all (pl k)
  | _, _ => false
end Lw
set_option Elab.async false
set_option linter.all false
set_option maxRecDepth 100000
set_option maxHeartbeats 2000000
namespace Lw
open PySem DI
theorem dec0 : decide (0 ≤ szL) = true := by decide
theorem dec1 : decide (1 ≤ szL) = true := by decide
theorem dec2 : decide (2 ≤ szL) = true := by decide
theorem dec3 : decide (3 ≤ szL) = true := by decide
theorem dec4 : decide (4 ≤ szL) = true := by decide
def isLT : D → Bool
  | .lst _ => true
  | .tup _ => true
  | _ => false
def isLs : D → Bool
  | .lst _ => true
  | _ => false
def isTp : D → Bool
  | .tup _ => true
  | _ => false
def isBo : D → Bool
  | .bl _ => true
  | _ => false
section
variable {fr : Fr} {hb : HB} {Q : R → HB → Prop} {k : Nat} {d : D} {xs : List D}
theorem isi_lt (h : pl k d = true) : wp (gIsi [] [d, .tup [.ty "list", .ty "tuple"]] fr hb) Q = Q (.ok (.bl (isLT d))) hb := by
  cases d <;> first | (with_unfolding_all rfl) | (unfold pl at h; first | (with_unfolding_all rfl) | cases h)
theorem isi_l (h : pl k d = true) : wp (gIsi [] [d, .ty "list"] fr hb) Q = Q (.ok (.bl (isLs d))) hb := by
  cases d <;> first | (with_unfolding_all rfl) | (unfold pl at h; first | (with_unfolding_all rfl) | cases h)
theorem isi_t (h : pl k d = true) : wp (gIsi [] [d, .ty "tuple"] fr hb) Q = Q (.ok (.bl (isTp d))) hb := by
  cases d <;> first | (with_unfolding_all rfl) | (unfold pl at h; first | (with_unfolding_all rfl) | cases h)
theorem isi_b (h : pl k d = true) : wp (gIsi [] [d, .ty "bool"] fr hb) Q = Q (.ok (.bl (isBo d))) hb := by
  cases d <;> first | (with_unfolding_all rfl) | (unfold pl at h; first | (with_unfolding_all rfl) | cases h)
theorem pl_val (h : pl k d = true) : d.isVal = true := by
  cases d <;> first | rfl | (unfold pl at h; cases h)
end
theorem gAll_true {n : Nat} {fr : Fr} {hb : HB} {Q : R → HB → Prop} {ds : List D} (h : ∀ d ∈ ds, d = .bl true) : wp (gAll false [.lst ds] fr hb) Q = Q (.ok (.bl true)) hb := by
  have e : ∃ bs, bDs ds = some bs ∧ bs.all id = true := by
    induction ds with
    | nil => exact ⟨[], rfl, rfl⟩
    | cons d ds ih =>
      obtain ⟨bs, e1, e2⟩ := ih fun x hx => h x (List.mem_cons_of_mem _ hx)
      have := h d List.mem_cons_self
      subst this
      exact ⟨true :: bs, by unfold bDs; rw [e1], by simpa using e2⟩
  obtain ⟨bs, e1, e2⟩ := e
  show wp (match bDs ds with | some bs => some (R.ok (.bl (if false then bs.any id else bs.all id)), hb) | none => none) Q = _
  rw [e1]
  simp [e2]
theorem rngD_len (i j : Int) : (rngD i j).length = (j - i).toNat := by simp [rngD]
theorem rngD_mem {i j : Int} {d : D} (h : d ∈ rngD i j) : ∃ k : Int, d = .int k ∧ i ≤ k ∧ k < j := by
  unfold rngD at h
  obtain ⟨n, hn, rfl⟩ := List.mem_map.mp h
  rw [List.mem_range] at hn
  exact ⟨_, rfl, by omega, by omega⟩
theorem smI_nat {k : Nat} (h : k ≤ 1000000) : smI (k : Int) = true := by
  unfold smI
  simp only [Bool.and_eq_true, decide_eq_true_eq]
  omega
theorem atI_get {α : Type} {xs : List α} {k : Int} (h0 : 0 ≤ k) (hk : k.toNat < xs.length) : L2.atI xs k = some xs[k.toNat] := by
  rw [atI_eq, if_pos h0, List.getElem?_eq_getElem hk]
/-- the same, item by item -/
theorem like_items {n : Nat} {ev : FSem} {hb : HB} {xs : List D} {s0 : D} (hl : xs.length ≤ 1000000) (g0 : ∀ (i : Int) (fr : Fr) (Q : R → HB → Prop), wp (gIxD s0 (.int i) fr hb) Q = wpO (L2.atI xs i) Q hb) (hs : s0.isVal = true)
    (h : ∀ x ∈ xs, x.isVal = true ∧ ∀ Q : R → HB → Prop, Q (.ok (.bl true)) hb → wp (ev [x, x] hb) Q) {Qc : List D → HB → Prop} (hq : ∀ ds, (∀ d ∈ ds, d = .bl true) → Qc ds hb) :
    wp (lcL (.nm 2) (eC (.bl true)) (eCallN 2 ev (eCons (eOp2 gIxD (eV 0) (eV 2)) (eCons (eOp2 gIxD (eV 1) (eV 2)) eNil))) (rngD 0 xs.length) [] [.sh s0, .sh s0, .un] hb) Qc := by
  refine wp_lc (fun _ => true) (fun _ => .bl true) (fun d hd => ?_) (by rw [rngD_len, List.length_nil]; have := szL_big; omega) (hq _ (by simp))
  obtain ⟨k, rfl, k0, k1⟩ := rngD_mem hd
  refine ⟨_, rfl, by rw [wpE_c]; exact ⟨rfl, rfl⟩, fun _ => ⟨?_, rfl⟩⟩
  have hk : k.toNat < xs.length := by omega
  have ek : k = ((k.toNat : Nat) : Int) := by omega
  have em : L2.atI xs k = some xs[k.toNat] := atI_get k0 hk
  obtain ⟨hv, hh⟩ := h xs[k.toNat] (List.getElem_mem hk)
  simp only [wpE_callN, wpEs_cons, wpEs_nil, wpE_op2, wpE_v, List.set_cons_succ, List.set_cons_zero, List.getElem?_cons_succ, List.getElem?_cons_zero, onOk, onL, g0, em, wpO_s, allVal_cons, allVal_nil, hv, List.length_cons, List.length_nil, Nat.zero_add, Nat.reduceAdd, beq_self_eq_true, Bool.and_true, if_true]
  exact hh _ ⟨rfl, rfl⟩
theorem like_flat : ∀ (ev : FSem) (d : D) (hb : HB) (Q : R → HB → Prop), pl 0 d = true → Q (.ok (.bl true)) hb → wp (fnE 3 (sv__law_like ev) [d, d] hb) Q := by
  intro ev d hb Q hd hq
  rw [wpF]
  unfold sv__law_like
  show wp (sSeq _ _ [.sh d, .sh d, .un] hb) _
  have key : isLT d = false ∧ wp (gEq d d [.sh d, .sh d, .un] hb) (fun r h => match r with
    | .ok e => (match rtD [.sh d, .sh d, .un] e with
      | some x => Q (.ok x) h
      | none => False)
    | .exn x => Q (.exn x) h) := by
    cases d <;> first | (simp [pl] at hd; done) | skip
    all_goals
      refine ⟨rfl, ?_⟩
      rw [v_eq rfl rfl]
      simp only [rz, deqS, deqI, deqB, deqN, decide_true, rtD_b]
      exact hq
  simp -implicitDefEqProofs only [wpF, wpS_seq, wpS_if, wpS_set, wpS_put, wpS_ret, wpS_nil, wpS_drop, wpS_own, wpS_fz, wpS_bx, wpS_asg, wpS_multi, wpM_nil, wpM_v, wpM_o, wpE_op2, wpE_v, wpE_c, wpE_eL, wpEs_cons, wpEs_nil, wpE_callN, wpE_callR, wpE_tup, wpE_lst, wpE_and, wpE_or, wpE_not, wpE_if, wpE_fz, wpE_bx, wpE_bind, wpE_isN, wpE_chain, wpE_cut, wpO_none, wpO_some, wpC_lst, wpC_call, wpC_lrg, wpI_val, wpI_rng1, wpI_rng2, wpI_enum, wpI_zip, wpC_lc, wpC_lc2, wpC_dc, wpS_for, wpA_args, wpC_make, wpE_meth, wpE_methR, wpC_meth, wpC_callC, wp_some, onOk, onL, List.getElem?_cons_succ, List.getElem?_cons_zero, List.set_cons_succ, List.set_cons_zero, allVal_cons, allVal_nil, isV_s, isV_i, isV_b, isV_n, isV_t, isV_l, isV_f, isV_d, isV_x, isV_c, isV_r, isV_y, List.length_cons, List.length_nil, Nat.zero_add, Nat.reduceAdd, beq_self_eq_true, Bool.and_true, Bool.true_and, Bool.and_self, decide_true, decide_false, if_true, Bool.not_true, Bool.not_false, dec0, dec1, dec2, dec3, dec4, rtD_s, rtD_i, rtD_b, rtD_n, rtD_t, rtD_l, rtD_x, isN_n, isN_t, isN_s, isN_i, O_dl, O_dd, O_di, v_addI, v_sub, v_intI, v_ordI, v_ordS, v_lenL, v_lenT, v_min2S, v_max2S, v_min2I, v_max2I, v_cutT, v_cutL, v_eqI, v_neI, v_eqS, v_neS, v_eqB, v_neB, v_cint, v_inCh, bne_self_eq_false, Bool.false_bne, Bool.true_bne, Bool.bne_false, Bool.bne_true, stT, stAll, stMI, wipeF, Option.map_some, Option.map_none, wpO_s, wpO_n, isi_lt hd, isi_b hd, isi_l hd, isi_t hd, key.1]
  have := key.2
  cases d <;> first | exact this | (simp [pl] at hd; done)
theorem like_deep : ∀ (ev : FSem) (d : D) (xs : List D) (hb : HB) (Q : R → HB → Prop) (k : Nat), (d = .lst xs ∨ d = .tup xs) → pl (k + 1) d = true → (∀ x ∈ xs, x.isVal = true ∧ ∀ Q : R → HB → Prop, Q (.ok (.bl true)) hb → wp (ev [x, x] hb) Q) → Q (.ok (.bl true)) hb → wp (fnE 3 (sv__law_like ev) [d, d] hb) Q := by
  intro ev d xs hb Q k hd hp hx hq
  have hl : xs.length ≤ 1000000 := by
    rcases hd with rfl | rfl <;> (unfold pl at hp; exact of_decide_eq_true (Bool.and_eq_true_iff.mp hp).1)
  rw [wpF]
  unfold sv__law_like
  rcases hd with rfl | rfl
  all_goals
    show wp (sSeq _ _ [.sh _, .sh _, .un] hb) _
    simp -implicitDefEqProofs only [wpF, wpS_seq, wpS_if, wpS_set, wpS_put, wpS_ret, wpS_nil, wpS_drop, wpS_own, wpS_fz, wpS_bx, wpS_asg, wpS_multi, wpM_nil, wpM_v, wpM_o, wpE_op2, wpE_v, wpE_c, wpE_eL, wpEs_cons, wpEs_nil, wpE_callN, wpE_callR, wpE_tup, wpE_lst, wpE_and, wpE_or, wpE_not, wpE_if, wpE_fz, wpE_bx, wpE_bind, wpE_isN, wpE_chain, wpE_cut, wpO_none, wpO_some, wpC_lst, wpC_call, wpC_lrg, wpI_val, wpI_rng1, wpI_rng2, wpI_enum, wpI_zip, wpC_lc, wpC_lc2, wpC_dc, wpS_for, wpA_args, wpC_make, wpE_meth, wpE_methR, wpC_meth, wpC_callC, wp_some, onOk, onL, List.getElem?_cons_succ, List.getElem?_cons_zero, List.set_cons_succ, List.set_cons_zero, allVal_cons, allVal_nil, isV_s, isV_i, isV_b, isV_n, isV_t, isV_l, isV_f, isV_d, isV_x, isV_c, isV_r, isV_y, List.length_cons, List.length_nil, Nat.zero_add, Nat.reduceAdd, beq_self_eq_true, Bool.and_true, Bool.true_and, Bool.and_self, decide_true, decide_false, if_true, Bool.not_true, Bool.not_false, dec0, dec1, dec2, dec3, dec4, rtD_s, rtD_i, rtD_b, rtD_n, rtD_t, rtD_l, rtD_x, isN_n, isN_t, isN_s, isN_i, O_dl, O_dd, O_di, v_addI, v_sub, v_intI, v_ordI, v_ordS, v_lenL, v_lenT, v_min2S, v_max2S, v_min2I, v_max2I, v_cutT, v_cutL, v_eqI, v_neI, v_eqS, v_neS, v_eqB, v_neB, v_cint, v_inCh, bne_self_eq_false, Bool.false_bne, Bool.true_bne, Bool.bne_false, Bool.bne_true, stT, stAll, stMI, wipeF, Option.map_some, Option.map_none, wpO_s, wpO_n, isi_lt hp, isi_b hp, isi_l hp, isi_t hp, isLT, smI_nat hl]
    refine like_items (n := 0) hl (fun i fr Q => by first | exact v_ixL | exact v_ixT) rfl hx fun ds hds => ?_
    show wp (gAll false [.lst ds] _ hb) _
    rw [gAll_true (n := 0) hds]
    exact hq
theorem like_ok : ∀ (k : Nat) (d : D), pl k d = true → ∀ (hb : HB) (Q : R → HB → Prop), Q (.ok (.bl true)) hb → wp (recE (fun ev => fnE 3 (sv__law_like ev)) (k + 1) [d, d] hb) Q := by
  intro k
  induction k with
  | zero => exact fun d hd hb Q hq => like_flat _ d hb Q hd hq
  | succ k ih =>
    intro d hd hb Q hq
    show wp (fnE 3 (sv__law_like _) [d, d] hb) Q
    cases d with
    | lst xs =>
      refine like_deep _ _ xs hb Q k (.inl rfl) hd (fun x hx => ?_) hq
      unfold pl at hd
      have := List.all_eq_true.mp (Bool.and_eq_true_iff.mp hd).2 x hx
      exact ⟨pl_val this, fun Q hq => ih x this hb Q hq⟩
    | tup xs =>
      refine like_deep _ _ xs hb Q k (.inr rfl) hd (fun x hx => ?_) hq
      unfold pl at hd
      have := List.all_eq_true.mp (Bool.and_eq_true_iff.mp hd).2 x hx
      exact ⟨pl_val this, fun Q hq => ih x this hb Q hq⟩
    | non => exact like_flat _ _ hb Q rfl hq
    | bl b => exact like_flat _ _ hb Q rfl hq
    | int b => exact like_flat _ _ hb Q rfl hq
    | str b => exact like_flat _ _ hb Q rfl hq
    | _ => simp [pl] at hd
theorem like_wp {d : D} {hb : HB} {Q : R → HB → Prop} (h : pl 7 d = true) (hq : Q (.ok (.bl true)) hb) : wp (ev__law_like [d, d] hb) Q := like_ok 7 d h hb Q hq
end Lw
set_option Elab.async false
set_option linter.all false
set_option maxRecDepth 100000
set_option maxHeartbeats 2000000
/-! tables drawn by the laws -/
namespace Lw
open PySem DI
/-! ### comprehensions over mapped lists -/
theorem wp_lcM {α : Type} {t : Tg} {c el : Ev} {fr : Fr} {hb : HB} {Qc : List D → HB → Prop} {g : α → D} (p : α → Bool) (f : α → D) : ∀ (as : List α) (acc : List D), (∀ a ∈ as, ∃ fr1, stT t (g a) fr = some fr1 ∧ wp (c fr1 hb) (fun r h => r = .ok (.bl (p a)) ∧ h = hb) ∧ (p a = true → wp (el fr1 hb) (fun r h => r = .ok (f a) ∧ h = hb) ∧ (f a).isVal = true)) → acc.length + as.length ≤ szL →
    Qc (acc ++ (as.filter p).map f) hb → wp (lcL t c el (as.map g) acc fr hb) Qc
  | [], acc, _, _, hq => by
    rw [List.map_nil]
    unfold lcL
    simpa using hq
  | a :: as, acc, h, hl, hq => by
    obtain ⟨fr1, h1, h2, h3⟩ := h a List.mem_cons_self
    rw [wp_eq] at h2
    rw [List.map_cons]
    unfold lcL
    rw [h1]
    dsimp only
    rw [h2]
    simp only [List.length_cons] at hl
    cases hp : p a with
    | true =>
      obtain ⟨h4, h5⟩ := h3 hp
      rw [wp_eq] at h4
      dsimp only
      rw [h4]
      dsimp only
      have : (decide (acc.length < szL)) = true := decide_eq_true (by omega)
      rw [h5, this]
      simp only [Bool.and_self, if_true]
      refine wp_lcM p f as _ (fun x hx => h x (List.mem_cons_of_mem _ hx)) (by simp; omega) ?_
      rw [List.filter_cons, if_pos hp] at hq
      simpa using hq
    | false =>
      dsimp only
      refine wp_lcM p f as _ (fun x hx => h x (List.mem_cons_of_mem _ hx)) (by omega) ?_
      rw [List.filter_cons, if_neg (by rw [hp]; simp)] at hq
      exact hq
theorem rngD_at {i j : Int} {done ds : List D} {d : D} (h : done ++ d :: ds = rngD i j) : d = .int (i + (done.length : Int)) ∧ i + (done.length : Int) < j := by
  have e : (rngD i j)[done.length]? = some d := by rw [← h]; simp
  unfold rngD at e
  rw [List.getElem?_map] at e
  have hl : done.length < (j - i).toNat := by
    have := congrArg List.length h
    rw [rngD_len, List.length_append, List.length_cons] at this
    omega
  rw [List.getElem?_range hl] at e
  simp only [Option.map_some, Option.some.injEq] at e
  exact ⟨e.symm, by omega⟩
/-! ### signs -/
abbrev sg (c : Char) : D := .str [c]
theorem ltC1 (a b : Char) : ltC [a] [b] = decide (a.toNat < b.toNat) := by
  unfold ltC
  simp only [List.map_cons, List.map_nil, List.cons_lt_cons_iff]
  congr 1
  simp
theorem char_eq {a b : Char} (h : a.toNat = b.toNat) : a = b := by
  apply Char.ext
  apply UInt32.toNat_inj.mp
  exact h
def pr (a b : Char) : List Char := if b.toNat < a.toNat then [b, a] else [a, b]
theorem pr_eq (a b : Char) : (if ltC [b] [a] then [b] else [a]) ++ (if ltC [a] [b] then [b] else [a]) = pr a b := by
  unfold pr
  simp only [ltC1, decide_eq_true_eq]
  by_cases h1 : b.toNat < a.toNat
  · rw [if_pos h1, if_neg (by omega), if_pos h1]; rfl
  · by_cases h2 : a.toNat < b.toNat
    · rw [if_neg h1, if_pos h2, if_neg h1]; rfl
    · have := char_eq (show a.toNat = b.toNat by omega)
      subst this
      rw [if_neg h1, if_neg h1]; rfl
theorem pr_comm (a b : Char) : pr a b = pr b a := by
  unfold pr
  by_cases h1 : b.toNat < a.toNat
  · rw [if_pos h1, if_neg (by omega)]
  · by_cases h2 : a.toNat < b.toNat
    · rw [if_neg h1, if_pos h2]
    · have := char_eq (show a.toNat = b.toNat by omega)
      subst this; rfl
def J (ps : List (List Char)) (a b : Char) : Bool := decide (pr a b ∈ ps)
def com (ls : List Char) (ps : List (List Char)) (a b : Char) : List Char := (ls.filter (J ps a)).filter (J ps b)
def NoSq (ls : List Char) (ps : List (List Char)) : Prop := ∀ i j (_ : i < j) (hj : j < ls.length), (com ls ps ls[i] ls[j]).length ≤ 1
theorem datStrs (ps : List (List Char)) : (ps.map D.str).all (dat 63) = true := dat_map (fun _ => datS) ps
theorem joins_wp {ps : List (List Char)} {a b : Char} {hb : HB} {Q : R → HB → Prop} : wp (ev__law_joins [.lst (ps.map .str), sg a, sg b] hb) Q = Q (.ok (.bl (J ps a b))) hb := by
  unfold ev__law_joins sv__law_joins
  rw [wpF]
  show wp (sRet _ [.sh (.lst (ps.map .str)), .sh (sg a), .sh (sg b)] hb) _ = _
  have hz := szL_big
  simp -implicitDefEqProofs only [wpF, wpS_seq, wpS_if, wpS_set, wpS_put, wpS_ret, wpS_nil, wpS_drop, wpS_own, wpS_fz, wpS_bx, wpS_asg, wpS_multi, wpM_nil, wpM_v, wpM_o, wpE_op2, wpE_v, wpE_c, wpE_eL, wpEs_cons, wpEs_nil, wpE_callN, wpE_callR, wpE_tup, wpE_lst, wpE_and, wpE_or, wpE_not, wpE_if, wpE_fz, wpE_bx, wpE_bind, wpE_isN, wpE_chain, wpE_cut, wpO_none, wpO_some, wpC_lst, wpC_call, wpC_lrg, wpI_val, wpI_rng1, wpI_rng2, wpI_enum, wpI_zip, wpC_lc, wpC_lc2, wpC_dc, wpS_for, wpA_args, wpC_make, wpE_meth, wpE_methR, wpC_meth, wpC_callC, wp_some, onOk, onL, List.getElem?_cons_succ, List.getElem?_cons_zero, List.set_cons_succ, List.set_cons_zero, allVal_cons, allVal_nil, isV_s, isV_i, isV_b, isV_n, isV_t, isV_l, isV_f, isV_d, isV_x, isV_c, isV_r, isV_y, List.length_cons, List.length_nil, Nat.zero_add, Nat.reduceAdd, beq_self_eq_true, Bool.and_true, Bool.true_and, Bool.and_self, decide_true, decide_false, if_true, Bool.not_true, Bool.not_false, dec0, dec1, dec2, dec3, dec4, rtD_s, rtD_i, rtD_b, rtD_n, rtD_t, rtD_l, rtD_x, isN_n, isN_t, isN_s, isN_i, O_dl, O_dd, O_di, v_addI, v_sub, v_intI, v_ordI, v_ordS, v_lenL, v_lenT, v_min2S, v_max2S, v_min2I, v_max2I, v_cutT, v_cutL, v_eqI, v_neI, v_eqS, v_neS, v_eqB, v_neB, v_cint, v_inCh, bne_self_eq_false, Bool.false_bne, Bool.true_bne, Bool.bne_false, Bool.bne_true, stT, stAll, stMI, wipeF, Option.map_some, Option.map_none, wpO_s, wpO_n, v_addS]
  rw [if_pos (by split <;> split <;> (simp only [List.length_cons, List.length_nil]; omega)), pr_eq, v_inL datS (datStrs ps), anyEq_map (f := D.str) (fun _ _ => deqS)]
  simp only [Bool.false_bne, rtD_b]
  have e : ∀ i : Decidable (pr a b ∈ ps), @decide _ i = J ps a b := fun i => by unfold J; exact decide_eq_decide.mpr Iff.rfl
  rw [e]
theorem ix_sg {ls : List Char} {k : Nat} (hk : k < ls.length) (hl : ls.length ≤ szL) {fr : Fr} {hb : HB} {Q : R → HB → Prop} : wp (gIxD (.str ls) (.int (k : Int)) fr hb) Q = Q (.ok (sg ls[k])) hb := by
  rw [v_ixS, if_pos hl, atI_nat, List.getElem?_eq_getElem hk]; rfl
theorem square_wp {ls : List Char} {ps : List (List Char)} {hb : HB} {Q : R → HB → Prop} (hl : ls.length ≤ 1000) (hq : ∀ r : D, r.isVal = true → (r.isN = true → NoSq ls ps) → Q (.ok r) hb) : wp (ev__law_square [.str ls, .lst (ps.map .str)] hb) Q := by
  unfold ev__law_square sv__law_square
  rw [wpF]
  show wp (sSeq _ _ [.sh (.str ls), .sh (.lst (ps.map .str)), .un, .un, .un, .un, .un, .un] hb) _
  have hz := szL_big
  have hls : ls.length ≤ szL := by omega
  refine wp_seq (fun f h => h = hb ∧ NoSq ls ps) ?_ ?_
  · simp -implicitDefEqProofs only [wpS_for, wpI_rng1, wpEs_cons, wpEs_nil, wpE_eL, onL, wpE_v, List.getElem?_cons_zero, v_lenS, hls, if_true, smI_nat (show ls.length ≤ 1000000 by omega)]
    refine wp_for (fun done rest f h => done ++ rest = rngD 0 ls.length ∧ h = hb ∧ (∃ s2 s3 s4 s5 s6 s7, f = [.sh (.str ls), .sh (.lst (ps.map .str)), s2, s3, s4, s5, s6, s7]) ∧ ∀ i j (_ : i < j) (hj : j < ls.length), i < done.length → (com ls ps ls[i] ls[j]).length ≤ 1) [] _ _ _ ⟨rfl, rfl, ⟨_, _, _, _, _, _, rfl⟩, fun i j _ _ h => absurd h (by simp)⟩ ?_ ?_
    · rintro done d rest f h ⟨hr, rfl, ⟨s2, s3, s4, s5, s6, s7, rfl⟩, hI⟩
      obtain ⟨rfl, hi⟩ := rngD_at hr
      rw [Int.zero_add] at hi ⊢
      have hi' : done.length < ls.length := by omega
      refine ⟨_, rfl, ?_⟩
      simp -implicitDefEqProofs only [wpS_for, wpI_rng2, wpEs_cons, wpEs_nil, wpE_eL, onL, onOk, wpE_op2, wpE_c, v_addI, wpE_v, List.getElem?_cons_zero, List.getElem?_cons_succ, List.set_cons_succ, List.set_cons_zero, v_lenS, hls, if_true, smI_nat (show ls.length ≤ 1000000 by omega), smI_nat (show done.length + 1 ≤ 1000000 by omega), Bool.and_self, show ((done.length : Int) + 1) = ((done.length + 1 : Nat) : Int) by omega]
      refine wp_for (fun done2 rest2 f h2 => done2 ++ rest2 = rngD ((done.length + 1 : Nat) : Int) ls.length ∧ h2 = h ∧ (∃ s3 s4 s5 s6 s7, f = [.sh (.str ls), .sh (.lst (ps.map .str)), .sh (.int (done.length : Int)), s3, s4, s5, s6, s7]) ∧ ∀ j (hj : j < ls.length), done.length < j → j < done.length + 1 + done2.length → (com ls ps ls[done.length] ls[j]).length ≤ 1) [] _ _ _ ⟨rfl, rfl, ⟨_, _, _, _, _, rfl⟩, fun j _ h1 h2 => absurd h2 (by simp only [List.length_nil]; omega)⟩ ?_ ?_
      · rintro done2 d rest2 f h2 ⟨hr2, rfl, ⟨s3, s4, s5, s6, s7, rfl⟩, hI2⟩
        obtain ⟨rfl, hj⟩ := rngD_at hr2
        have hj' : done.length + 1 + done2.length < ls.length := by omega
        refine ⟨_, rfl, ?_⟩
        have ej : ((done.length + 1 : Nat) : Int) + (done2.length : Int) = ((done.length + 1 + done2.length : Nat) : Int) := by omega
        rw [ej]
        have lc : ∀ (k : Nat) (hk : k < ls.length) (as : List Char) (fr : Fr) (s : Nat) (Qc : List D → HB → Prop), as.length ≤ 1000 → fr[1]? = some (.sh (.lst (ps.map .str))) → fr[s]? = some (.sh (sg ls[k])) → s < 7 → 7 < fr.length → Qc ((as.filter (J ps ls[k])).map sg) h2 →
            wp (lcL (.nm 7) (eCallN 3 ev__law_joins (eCons (eV 1) (eCons (eV s) (eCons (eV 7) eNil)))) (eV 7) (as.map sg) [] fr h2) Qc := by
          intro k hk as fr s Qc hal f1 fs hs h7 hqc
          refine wp_lcM (J ps ls[k]) sg as [] (fun a ha => ?_) (by simp only [List.length_nil]; omega) hqc
          have g1 : (fr.set 7 (.sh (sg a)))[1]? = some (.sh (.lst (ps.map .str))) := by rw [List.getElem?_set_ne (by omega)]; exact f1
          have g2 : (fr.set 7 (.sh (sg a)))[s]? = some (.sh (sg ls[k])) := by rw [List.getElem?_set_ne (by omega)]; exact fs
          have g3 : (fr.set 7 (.sh (sg a)))[7]? = some (.sh (sg a)) := by rw [List.getElem?_set]; simp [h7]
          refine ⟨_, rfl, ?_, fun _ => ⟨?_, rfl⟩⟩
          · simp -implicitDefEqProofs only [wpE_callN, wpEs_cons, wpEs_nil, wpE_v, g1, g2, g3, onL, allVal_cons, allVal_nil, isV_l, isV_s, List.length_cons, List.length_nil, Nat.zero_add, Nat.reduceAdd, beq_self_eq_true, Bool.and_true, if_true, joins_wp]
            exact ⟨trivial, trivial⟩
          · simp -implicitDefEqProofs only [wpE_v, g3]
            exact ⟨trivial, trivial⟩
        simp -implicitDefEqProofs only [wpS_seq, wpS_multi, wpM_v, wpM_nil, wpE_op2, wpE_v, onOk, onL, List.getElem?_cons_zero, List.getElem?_cons_succ, List.set_cons_succ, List.set_cons_zero, ix_sg hi' hls, ix_sg hj' hls, isV_s, if_true, stMI, wpS_fz, wpS_own, wpC_lc, wpI_val, wipeF]
        refine lc done.length hi' ls _ 5 _ hl rfl rfl (by decide) (by show 7 < 8; decide) ?_
        simp -implicitDefEqProofs only [onL, List.length_cons, List.length_nil, Nat.zero_add, Nat.reduceAdd, Nat.reduceLT, if_true, List.getElem?_cons_zero, List.getElem?_cons_succ, List.set_cons_succ, List.set_cons_zero, O_dl, wpS_if, wpE_op2, wpE_eL, wpEs_cons, wpEs_nil, wpE_fz, wpC_lc, wpI_val, wpE_v, onOk, wipeF]
        refine lc (done.length + 1 + done2.length) hj' (ls.filter (J ps ls[done.length])) _ 6 _ (Nat.le_trans (List.length_filter_le _ _) hl) rfl rfl (by decide) (by show 7 < 8; decide) ?_
        simp -implicitDefEqProofs only [onL, onOk, O_dl, v_lenL, wpE_c, v_ordI, Ord4.i, List.length_map]
        by_cases h1 : (1 : Int) < ((ls.filter (J ps ls[done.length])).filter (J ps ls[done.length + 1 + done2.length])).length
        · simp -implicitDefEqProofs only [h1, decide_true, wpS_ret, wpE_tup, wpEs_cons, wpEs_nil, wpE_v, onL, onOk, List.getElem?_cons_zero, List.getElem?_cons_succ, allVal_cons, allVal_nil, isV_s, List.length_cons, List.length_nil, Nat.zero_add, Nat.reduceAdd, Bool.and_true, dec2, if_true, rtD_t]
          exact hq _ rfl fun h => by cases h
        · simp -implicitDefEqProofs only [h1, decide_false, wpS_nil]
          refine ⟨by rw [List.append_assoc]; exact hr2, trivial, ⟨_, _, _, _, _, rfl⟩, fun j hj h2 h3 => ?_⟩
          rw [List.length_append, List.length_cons, List.length_nil] at h3
          by_cases e : j = done.length + 1 + done2.length
          · subst e
            unfold com
            omega
          · exact hI2 j hj h2 (by omega)
      · rintro done2 f h2 ⟨hr2, rfl, ⟨s3, s4, s5, s6, s7, rfl⟩, hI2⟩
        refine ⟨by rw [List.append_assoc, ← Int.zero_add (done.length : Int)]; exact hr, rfl, ⟨_, _, _, _, _, _, rfl⟩, fun i j hij hj h => ?_⟩
        rw [List.length_append, List.length_cons, List.length_nil] at h
        by_cases e : i = done.length
        · subst e
          refine hI2 j hj hij ?_
          have := congrArg List.length hr2
          rw [List.append_nil, rngD_len] at this
          omega
        · exact hI i j hij hj (by omega)
    · rintro done f h ⟨hr, rfl, _, hI⟩
      refine ⟨rfl, fun i j hij hj => hI i j hij hj ?_⟩
      have := congrArg List.length hr
      rw [List.append_nil, rngD_len] at this
      omega
  · rintro f h ⟨rfl, hN⟩
    simp -implicitDefEqProofs only [wpS_ret, wpE_c, rtD_n]
    exact hq .non rfl fun _ => hN
end Lw
set_option Elab.async false
set_option linter.all false
set_option maxRecDepth 100000
set_option maxHeartbeats 2000000
/-! a drawn table -/
namespace Lw
open PySem DI
abbrev small : List Char := [Char.ofNat 97, Char.ofNat 98, Char.ofNat 99, Char.ofNat 100, Char.ofNat 101, Char.ofNat 102, Char.ofNat 103, Char.ofNat 104, Char.ofNat 105, Char.ofNat 106, Char.ofNat 107, Char.ofNat 108, Char.ofNat 109, Char.ofNat 110, Char.ofNat 111, Char.ofNat 112, Char.ofNat 113, Char.ofNat 114, Char.ofNat 115, Char.ofNat 116, Char.ofNat 117, Char.ofNat 118, Char.ofNat 119, Char.ofNat 120, Char.ofNat 121, Char.ofNat 122]
/-- labels -/
structure Asc (ls : List Char) : Prop where
  asc : ls.Pairwise fun a b => a.toNat < b.toNat
  low : ∀ c ∈ ls, c ∈ small
  n2 : 2 ≤ ls.length
  n7 : ls.length ≤ 7
theorem sub_pw {α : Type} {r : α → α → Prop} {l : List α} (h : l.Pairwise r) (n : Nat) : (l.take n).Pairwise r := h.sublist (List.take_sublist n l)
theorem letters_wp {hb : HB} {n : Nat} {m : Int} {Q : R → HB → Prop} (hB : Box hb n) (h2 : 2 ≤ m) (h7 : m ≤ 7) (hq : ∀ ls hb', Asc ls → (ls.length : Int) = m → Box hb' n → Ext n hb hb' → Q (.ok (.str ls)) hb') : wp (ev__law_letters [.box n, .int m] hb) Q := by
  unfold ev__law_letters sv__law_letters
  rw [wpF]
  show wp (sRet _ [.sh (.box n), .sh (.int m)] hb) _
  simp -implicitDefEqProofs only [wpF, wpS_seq, wpS_if, wpS_set, wpS_put, wpS_ret, wpS_nil, wpS_drop, wpS_own, wpS_fz, wpS_bx, wpS_asg, wpS_multi, wpM_nil, wpM_v, wpM_o, wpE_op2, wpE_v, wpE_c, wpE_eL, wpEs_cons, wpEs_nil, wpE_callN, wpE_callR, wpE_tup, wpE_lst, wpE_and, wpE_or, wpE_not, wpE_if, wpE_fz, wpE_bx, wpE_bind, wpE_isN, wpE_chain, wpE_cut, wpO_none, wpO_some, wpC_lst, wpC_call, wpC_lrg, wpI_val, wpI_rng1, wpI_rng2, wpI_enum, wpI_zip, wpC_lc, wpC_lc2, wpC_dc, wpS_for, wpA_args, wpC_make, wpS_bm, wpE_bm, wpE_meth, wpE_methR, wpC_meth, wpC_callC, wp_some, onOk, onL, List.getElem?_cons_succ, List.getElem?_cons_zero, List.set_cons_succ, List.set_cons_zero, allVal_cons, allVal_nil, isV_s, isV_i, isV_b, isV_n, isV_t, isV_l, isV_f, isV_d, isV_x, isV_c, isV_r, isV_y, List.length_cons, List.length_nil, Nat.zero_add, Nat.reduceAdd, beq_self_eq_true, Bool.and_true, Bool.true_and, Bool.and_self, decide_true, decide_false, if_true, Bool.not_true, Bool.not_false, dec0, dec1, dec2, dec3, dec4, rtD_s, rtD_i, rtD_b, rtD_n, rtD_t, rtD_l, rtD_x, isN_n, isN_t, isN_s, isN_i, O_dl, O_dd, O_di, v_addI, v_sub, v_intI, v_ordI, v_ordS, v_lenL, v_lenT, v_min2S, v_max2S, v_min2I, v_max2I, v_cutT, v_cutL, v_eqI, v_neI, v_eqS, v_neS, v_eqB, v_neB, v_cint, v_inCh, bne_self_eq_false, Bool.false_bne, Bool.true_bne, Bool.bne_false, Bool.bne_true, stT, stAll, stMI, wipeF, Option.map_some, Option.map_none, wpO_s, wpO_n]
  refine pick_wp hB (by simp) (by simp) (fun x hx => ?_) fun d hb' hd hB' hE => ?_
  · simp only [List.mem_cons, List.not_mem_nil, or_false] at hx
    rcases hx with rfl | rfl | rfl <;> rfl
  have key : ∀ s : List Char, s.length = 7 → s.Pairwise (fun a b => a.toNat < b.toNat) → (∀ c ∈ s, c ∈ small) → d = .str s → wp (gCut none (some m) d [.sh (.box n), .sh (.int m)] hb') (fun r h => match r with
      | .ok d => (match rtD [.sh (.box n), .sh (.int m)] d with
        | some x => Q (.ok x) h
        | none => False)
      | .exn x => Q (.exn x) h) := by
    intro s hs h1 h3 e
    subst e
    have := szL_big
    rw [v_cutS, if_pos (by omega)]
    have ec : cutL s none (some m) = s.take m.toNat := by
      unfold cutL
      have e1 : HT.sIx s.length 0 none = 0 := rfl
      have e2 : HT.sIx s.length s.length (some m) = min m.toNat s.length := by
        show (if m < 0 then (m + (s.length : Int)).toNat else min m.toNat s.length) = _
        rw [if_neg (by omega)]
      rw [e1, e2]
      simp only [List.drop_zero, Nat.sub_zero]
      rw [Nat.min_eq_left (by omega)]
    rw [ec]
    simp only [rtD_s]
    have hl : (s.take m.toNat).length = m.toNat := by rw [List.length_take]; omega
    exact hq _ hb' ⟨sub_pw h1 _, fun c hc => h3 c (List.mem_of_mem_take hc), by omega, by omega⟩ (by omega) hB' hE
  simp only [List.mem_cons, List.not_mem_nil, or_false] at hd
  dsimp only [onOk]
  rcases hd with h | h | h
  · exact key _ rfl (by decide) (by decide) h
  · exact key _ rfl (by decide) (by decide) h
  · exact key _ rfl (by decide) (by decide) h
/-! ### sorting texts -/
theorem le_ltC (a b : List Char) : ltC a b = true ↔ a.map Char.toNat < b.map Char.toNat := by unfold ltC; exact decide_eq_true_iff
theorem nlt_ltC (a b : List Char) : (!ltC a b) = true ↔ b.map Char.toNat ≤ a.map Char.toNat := by
  rw [Bool.not_eq_true', ← Bool.not_eq_true, le_ltC, List.not_lt]
theorem mapNat_inj {a b : List Char} (h : a.map Char.toNat = b.map Char.toNat) : a = b := List.map_inj_right (fun _ _ e => char_eq e) |>.mp h
theorem sortT_perm (ps : List (List Char)) : (sortT ps).Perm ps := List.mergeSort_perm _ _
theorem sortT_pw (ps : List (List Char)) : (sortT ps).Pairwise fun a b => (!ltC b a) = true := by
  refine List.pairwise_mergeSort (fun a b c h1 h2 => ?_) (fun a b => ?_) ps
  · rw [nlt_ltC] at h1 h2 ⊢
    exact List.le_trans h1 h2
  · rw [Bool.or_eq_true, nlt_ltC, nlt_ltC]
    exact List.le_total _ _
theorem tDs_map : ∀ ps : List (List Char), tDs (ps.map D.str) = some ps
  | [] => rfl
  | p :: ps => by
    show (match tDs (ps.map D.str) with | some is => some (p :: is) | none => none) = _
    rw [tDs_map ps]
theorem srtD_strs {ps : List (List Char)} (h : ps.length < 64) : srtD (ps.map D.str) = some ((sortT ps).map .str) := by
  cases ps with
  | nil => simp [srtD, iDs, sortI, sortT]
  | cons p ps =>
    unfold srtD
    have e : iDs ((p :: ps).map D.str) = none := rfl
    rw [e, tDs_map]
    dsimp only
    rw [if_pos h]
/-! ### tables -/
structure TabOk (ls : List Char) (ps : List (List Char)) : Prop where
  ab : Asc ls
  pr : ∀ p ∈ ps, ∃ a b, a ∈ ls ∧ b ∈ ls ∧ a.toNat < b.toNat ∧ p = [a, b]
  nd : ps.Nodup
  few : ps.length < 64
  sq : NoSq ls ps
  srt : ps.Pairwise fun a b => (!ltC b a) = true
theorem J_perm {ps qs : List (List Char)} (h : ∀ p, p ∈ ps ↔ p ∈ qs) : J ps = J qs := by
  funext a b
  unfold J
  exact decide_eq_decide.mpr (h _)
theorem NoSq_perm {ls : List Char} {ps qs : List (List Char)} (h : ∀ p, p ∈ ps ↔ p ∈ qs) (q : NoSq ls ps) : NoSq ls qs := by
  unfold NoSq com at *
  rw [← J_perm h]
  exact q
theorem nodup_rngD (i j : Int) : (rngD i j).Nodup := by
  unfold rngD
  rw [List.nodup_iff_pairwise_ne, List.pairwise_map]
  have := List.nodup_iff_pairwise_ne.mp (List.nodup_range (n := (j - i).toNat))
  exact this.imp fun {a b} h e => h (by injection e with e; omega)
theorem asc_inj {ls : List Char} (h : ls.Pairwise fun a b => a.toNat < b.toNat) {i j : Nat} {c : Char} (h1 : ls[i]? = some c) (h2 : ls[j]? = some c) : i = j := by
  obtain ⟨l1, e1⟩ := List.getElem?_eq_some_iff.mp h1
  obtain ⟨l2, e2⟩ := List.getElem?_eq_some_iff.mp h2
  have z := List.pairwise_iff_getElem.mp h
  rcases Nat.lt_trichotomy i j with k | k | k
  · have := z i j l1 l2 k
    rw [e1, e2] at this; omega
  · exact k
  · have := z j i l2 l1 k
    rw [e1, e2] at this; omega
/-- where a pair comes from -/
def From (ls : List Char) (M : Nat) (done : List D) (p : List Char) : Prop := ∃ k : Nat, D.int (k : Int) ∈ done ∧ ∃ a b, ls[k / M]? = some a ∧ ls[k % M]? = some b ∧ a.toNat < b.toNat ∧ p = [a, b]
theorem From.inj {ls : List Char} {M : Nat} {d1 d2 : List D} {p : List Char} (hM : 0 < M) (h : ls.Pairwise fun a b => a.toNat < b.toNat) (h1 : From ls M d1 p) (h2 : From ls M d2 p) : ∃ k : Nat, D.int (k : Int) ∈ d1 ∧ D.int (k : Int) ∈ d2 := by
  obtain ⟨k, m1, a, b, e1, e2, _, rfl⟩ := h1
  obtain ⟨k', m2, a', b', e3, e4, _, e⟩ := h2
  injection e with ea e
  injection e with eb _
  subst ea
  subst eb
  have q1 := asc_inj h e1 e3
  have q2 := asc_inj h e2 e4
  have : k = k' := by
    rw [← Nat.div_add_mod k M, ← Nat.div_add_mod k' M, q1, q2]
  subst this
  exact ⟨k, m1, m2⟩
theorem table_tail {hb h : HB} {n M : Nat} {ls : List Char} {QS : SR → HB → Prop} (hM2 : 2 ≤ M) (hM7 : M ≤ 7) (hA : Asc ls) (hls : ls.length = M) (hB2 : Box h n) (hE2 : Ext n hb h)
    (hq : ∀ ps hb', TabOk ls ps → Box hb' n → Ext n hb hb' → QS (.rt (.tup [.str ls, .lst (ps.map .str)])) hb') :
    wp ((sSeq (sFor (iVal (eCallN 2 ev__law_mixed (eCons (eV 0) (eCons (eFz (cLRg (eCons (eOp2 gMul (eV 2) (eV 2)) eNil))) eNil)))) (.nm 3) (sSeq (sMulti [6, 7] [.v (eOp2 gIxD (eV 4) (eOp2 gFdiv (eV 3) (eV 2))), .v (eOp2 gIxD (eV 4) (eOp2 gMod (eL gInt (eCons (eV 3) eNil)) (eV 2)))]) (sIf (eAnd (eOp2 (gOrd .lt) (eV 6) (eV 7)) (eOp2 (gOrd .gt) (eCallN 2 ev__law_pull (eCons (eV 0) (eCons (eC (.int 4)) eNil))) (eC (.int 0)))) (sIf (eBind (eCallN 2 ev__law_square (eCons (eV 4) (eCons (eOp2 gAdd (eV 5) (eLst (eCons (eOp2 gAdd (eV 6) (eV 7)) eNil))) eNil))) (gIsN false)) (sBM "list" omAppend none (eV 5) (eCons (eOp2 gAdd (eV 6) (eV 7)) eNil)) sNil) sNil))) (sRet (eTup (eCons (eV 4) (eCons (eFz (cCall glSort (eCons (eV 5) eNil))) eNil))))) [.sh (.box n), .sh (.int 7), .sh (.int (M : Int)), .un, .sh (.str ls), .ow (.lst []), .un, .un] h) QS := by
  have hz := szL_big
  have hsz : ls.length ≤ szL := by omega
  refine wp_seq (fun f h => ∃ ps : List (List Char), (∀ p ∈ ps, From ls M (rngD 0 (M * M)) p) ∧ ps.Nodup ∧ ps.length ≤ 49 ∧ NoSq ls ps ∧ (∃ s3 s6 s7, f = [.sh (.box n), .sh (.int 7), .sh (.int (M : Int)), s3, .sh (.str ls), .ow (.lst (ps.map .str)), s6, s7]) ∧ Box h n ∧ Ext n hb h) ?_ ?_
  · have hMM : M * M ≤ 49 := Nat.mul_le_mul hM7 hM7
    have hmul : (M : Int) * (M : Int) = ((M * M : Nat) : Int) := by rw [Int.natCast_mul]
    simp -implicitDefEqProofs only [wpF, wpS_seq, wpS_if, wpS_set, wpS_put, wpS_ret, wpS_nil, wpS_drop, wpS_own, wpS_fz, wpS_bx, wpS_asg, wpS_multi, wpM_nil, wpM_v, wpM_o, wpE_op2, wpE_v, wpE_c, wpE_eL, wpEs_cons, wpEs_nil, wpE_callN, wpE_callR, wpE_tup, wpE_lst, wpE_and, wpE_or, wpE_not, wpE_if, wpE_fz, wpE_bx, wpE_bind, wpE_isN, wpE_chain, wpE_cut, wpO_none, wpO_some, wpC_lst, wpC_call, wpC_lrg, wpI_val, wpI_rng1, wpI_rng2, wpI_enum, wpI_zip, wpC_lc, wpC_lc2, wpC_dc, wpS_for, wpA_args, wpC_make, wpS_bm, wpE_bm, wpE_meth, wpE_methR, wpC_meth, wpC_callC, wp_some, onOk, onL, List.getElem?_cons_succ, List.getElem?_cons_zero, List.set_cons_succ, List.set_cons_zero, allVal_cons, allVal_nil, isV_s, isV_i, isV_b, isV_n, isV_t, isV_l, isV_f, isV_d, isV_x, isV_c, isV_r, isV_y, List.length_cons, List.length_nil, Nat.zero_add, Nat.reduceAdd, beq_self_eq_true, Bool.and_true, Bool.true_and, Bool.and_self, decide_true, decide_false, if_true, Bool.not_true, Bool.not_false, dec0, dec1, dec2, dec3, dec4, rtD_s, rtD_i, rtD_b, rtD_n, rtD_t, rtD_l, rtD_x, isN_n, isN_t, isN_s, isN_i, O_dl, O_dd, O_di, v_addI, v_sub, v_intI, v_ordI, v_ordS, v_lenL, v_lenT, v_min2S, v_max2S, v_min2I, v_max2I, v_cutT, v_cutL, v_eqI, v_neI, v_eqS, v_neS, v_eqB, v_neB, v_cint, v_inCh, bne_self_eq_false, Bool.false_bne, Bool.true_bne, Bool.bne_false, Bool.bne_true, stT, stAll, stMI, wipeF, Option.map_some, Option.map_none, wpO_s, wpO_n, v_mulI, hmul]
    rw [if_pos (.inl (by omega))]
    simp -implicitDefEqProofs only [wpF, wpS_seq, wpS_if, wpS_set, wpS_put, wpS_ret, wpS_nil, wpS_drop, wpS_own, wpS_fz, wpS_bx, wpS_asg, wpS_multi, wpM_nil, wpM_v, wpM_o, wpE_op2, wpE_v, wpE_c, wpE_eL, wpEs_cons, wpEs_nil, wpE_callN, wpE_callR, wpE_tup, wpE_lst, wpE_and, wpE_or, wpE_not, wpE_if, wpE_fz, wpE_bx, wpE_bind, wpE_isN, wpE_chain, wpE_cut, wpO_none, wpO_some, wpC_lst, wpC_call, wpC_lrg, wpI_val, wpI_rng1, wpI_rng2, wpI_enum, wpI_zip, wpC_lc, wpC_lc2, wpC_dc, wpS_for, wpA_args, wpC_make, wpS_bm, wpE_bm, wpE_meth, wpE_methR, wpC_meth, wpC_callC, wp_some, onOk, onL, List.getElem?_cons_succ, List.getElem?_cons_zero, List.set_cons_succ, List.set_cons_zero, allVal_cons, allVal_nil, isV_s, isV_i, isV_b, isV_n, isV_t, isV_l, isV_f, isV_d, isV_x, isV_c, isV_r, isV_y, List.length_cons, List.length_nil, Nat.zero_add, Nat.reduceAdd, beq_self_eq_true, Bool.and_true, Bool.true_and, Bool.and_self, decide_true, decide_false, if_true, Bool.not_true, Bool.not_false, dec0, dec1, dec2, dec3, dec4, rtD_s, rtD_i, rtD_b, rtD_n, rtD_t, rtD_l, rtD_x, isN_n, isN_t, isN_s, isN_i, O_dl, O_dd, O_di, v_addI, v_sub, v_intI, v_ordI, v_ordS, v_lenL, v_lenT, v_min2S, v_max2S, v_min2I, v_max2I, v_cutT, v_cutL, v_eqI, v_neI, v_eqS, v_neS, v_eqB, v_neB, v_cint, v_inCh, bne_self_eq_false, Bool.false_bne, Bool.true_bne, Bool.bne_false, Bool.bne_true, stT, stAll, stMI, wipeF, Option.map_some, Option.map_none, wpO_s, wpO_n, smI_nat (show M * M ≤ 1000000 by omega), show decide (((M * M : Nat) : Int) ≤ (szL : Int)) = true from decide_eq_true (by omega)]
    refine mixed_wp hB2 (by rw [rngD_len]; omega) (fun x hx => ?_) (fun x hx => ?_) fun ys hb' hp hB' hE => ?_
    · obtain ⟨k, rfl, _⟩ := rngD_mem hx; rfl
    · obtain ⟨k, rfl, _⟩ := rngD_mem hx; rfl
    simp -implicitDefEqProofs only [wpF, wpS_seq, wpS_if, wpS_set, wpS_put, wpS_ret, wpS_nil, wpS_drop, wpS_own, wpS_fz, wpS_bx, wpS_asg, wpS_multi, wpM_nil, wpM_v, wpM_o, wpE_op2, wpE_v, wpE_c, wpE_eL, wpEs_cons, wpEs_nil, wpE_callN, wpE_callR, wpE_tup, wpE_lst, wpE_and, wpE_or, wpE_not, wpE_if, wpE_fz, wpE_bx, wpE_bind, wpE_isN, wpE_chain, wpE_cut, wpO_none, wpO_some, wpC_lst, wpC_call, wpC_lrg, wpI_val, wpI_rng1, wpI_rng2, wpI_enum, wpI_zip, wpC_lc, wpC_lc2, wpC_dc, wpS_for, wpA_args, wpC_make, wpS_bm, wpE_bm, wpE_meth, wpE_methR, wpC_meth, wpC_callC, wp_some, onOk, onL, List.getElem?_cons_succ, List.getElem?_cons_zero, List.set_cons_succ, List.set_cons_zero, allVal_cons, allVal_nil, isV_s, isV_i, isV_b, isV_n, isV_t, isV_l, isV_f, isV_d, isV_x, isV_c, isV_r, isV_y, List.length_cons, List.length_nil, Nat.zero_add, Nat.reduceAdd, beq_self_eq_true, Bool.and_true, Bool.true_and, Bool.and_self, decide_true, decide_false, if_true, Bool.not_true, Bool.not_false, dec0, dec1, dec2, dec3, dec4, rtD_s, rtD_i, rtD_b, rtD_n, rtD_t, rtD_l, rtD_x, isN_n, isN_t, isN_s, isN_i, O_dl, O_dd, O_di, v_addI, v_sub, v_intI, v_ordI, v_ordS, v_lenL, v_lenT, v_min2S, v_max2S, v_min2I, v_max2I, v_cutT, v_cutL, v_eqI, v_neI, v_eqS, v_neS, v_eqB, v_neB, v_cint, v_inCh, bne_self_eq_false, Bool.false_bne, Bool.true_bne, Bool.bne_false, Bool.bne_true, stT, stAll, stMI, wipeF, Option.map_some, Option.map_none, wpO_s, wpO_n]
    have hnd : ys.Nodup := hp.nodup_iff.mpr (nodup_rngD _ _)
    have hyl : ys.length = M * M := by rw [hp.length_eq, rngD_len]; omega
    refine wp_for (fun done rest f h => done ++ rest = ys ∧ ∃ ps : List (List Char), (∀ p ∈ ps, From ls M done p) ∧ ps.Nodup ∧ ps.length ≤ done.length ∧ NoSq ls ps ∧ (∃ s3 s6 s7, f = [.sh (.box n), .sh (.int 7), .sh (.int (M : Int)), s3, .sh (.str ls), .ow (.lst (ps.map .str)), s6, s7]) ∧ Box h n ∧ Ext n hb h) [] _ _ _ ⟨rfl, [], by simp, by simp, by simp, ?_, ⟨_, _, _, rfl⟩, hB', hE2.trans hE⟩ ?_ ?_
    · intro i j _ _
      unfold com
      have : ∀ a : Char, ls.filter (J [] a) = [] := fun a => List.filter_eq_nil_iff.mpr fun x _ => by simp [J]
      rw [this]; simp
    · rintro done d rest f h3 ⟨hr, ps, hF, hN, hL, hS, ⟨s3, s6, s7, rfl⟩, hB3, hE3⟩
      have hdm : d ∈ ys := by rw [← hr]; simp
      obtain ⟨k0, rfl, hk0, hk1⟩ := rngD_mem (hp.mem_iff.mp hdm)
      obtain ⟨k, rfl⟩ : ∃ k : Nat, k0 = (k : Int) := ⟨k0.toNat, by omega⟩
      have hk : k < M * M := by omega
      have hkd : k / M < ls.length := by rw [hls]; exact Nat.div_lt_of_lt_mul hk
      have hkm : k % M < ls.length := by rw [hls]; exact Nat.mod_lt _ (by omega)
      have nin : D.int (k : Int) ∉ done := by
        rw [← hr, List.nodup_append] at hnd
        exact fun hm => hnd.2.2 _ hm _ List.mem_cons_self rfl
      refine ⟨_, rfl, ?_⟩
      simp -implicitDefEqProofs only [wpF, wpS_seq, wpS_if, wpS_set, wpS_put, wpS_ret, wpS_nil, wpS_drop, wpS_own, wpS_fz, wpS_bx, wpS_asg, wpS_multi, wpM_nil, wpM_v, wpM_o, wpE_op2, wpE_v, wpE_c, wpE_eL, wpEs_cons, wpEs_nil, wpE_callN, wpE_callR, wpE_tup, wpE_lst, wpE_and, wpE_or, wpE_not, wpE_if, wpE_fz, wpE_bx, wpE_bind, wpE_isN, wpE_chain, wpE_cut, wpO_none, wpO_some, wpC_lst, wpC_call, wpC_lrg, wpI_val, wpI_rng1, wpI_rng2, wpI_enum, wpI_zip, wpC_lc, wpC_lc2, wpC_dc, wpS_for, wpA_args, wpC_make, wpS_bm, wpE_bm, wpE_meth, wpE_methR, wpC_meth, wpC_callC, wp_some, onOk, onL, List.getElem?_cons_succ, List.getElem?_cons_zero, List.set_cons_succ, List.set_cons_zero, allVal_cons, allVal_nil, isV_s, isV_i, isV_b, isV_n, isV_t, isV_l, isV_f, isV_d, isV_x, isV_c, isV_r, isV_y, List.length_cons, List.length_nil, Nat.zero_add, Nat.reduceAdd, beq_self_eq_true, Bool.and_true, Bool.true_and, Bool.and_self, decide_true, decide_false, if_true, Bool.not_true, Bool.not_false, dec0, dec1, dec2, dec3, dec4, rtD_s, rtD_i, rtD_b, rtD_n, rtD_t, rtD_l, rtD_x, isN_n, isN_t, isN_s, isN_i, O_dl, O_dd, O_di, v_addI, v_sub, v_intI, v_ordI, v_ordS, v_lenL, v_lenT, v_min2S, v_max2S, v_min2I, v_max2I, v_cutT, v_cutL, v_eqI, v_neI, v_eqS, v_neS, v_eqB, v_neB, v_cint, v_inCh, bne_self_eq_false, Bool.false_bne, Bool.true_bne, Bool.bne_false, Bool.bne_true, stT, stAll, stMI, wipeF, Option.map_some, Option.map_none, wpO_s, wpO_n, v_fdiv, v_mod, ← Int.natCast_ediv, ← Int.natCast_emod]
      rw [if_pos (by omega)]
      simp -implicitDefEqProofs only [wpF, wpS_seq, wpS_if, wpS_set, wpS_put, wpS_ret, wpS_nil, wpS_drop, wpS_own, wpS_fz, wpS_bx, wpS_asg, wpS_multi, wpM_nil, wpM_v, wpM_o, wpE_op2, wpE_v, wpE_c, wpE_eL, wpEs_cons, wpEs_nil, wpE_callN, wpE_callR, wpE_tup, wpE_lst, wpE_and, wpE_or, wpE_not, wpE_if, wpE_fz, wpE_bx, wpE_bind, wpE_isN, wpE_chain, wpE_cut, wpO_none, wpO_some, wpC_lst, wpC_call, wpC_lrg, wpI_val, wpI_rng1, wpI_rng2, wpI_enum, wpI_zip, wpC_lc, wpC_lc2, wpC_dc, wpS_for, wpA_args, wpC_make, wpS_bm, wpE_bm, wpE_meth, wpE_methR, wpC_meth, wpC_callC, wp_some, onOk, onL, List.getElem?_cons_succ, List.getElem?_cons_zero, List.set_cons_succ, List.set_cons_zero, allVal_cons, allVal_nil, isV_s, isV_i, isV_b, isV_n, isV_t, isV_l, isV_f, isV_d, isV_x, isV_c, isV_r, isV_y, List.length_cons, List.length_nil, Nat.zero_add, Nat.reduceAdd, beq_self_eq_true, Bool.and_true, Bool.true_and, Bool.and_self, decide_true, decide_false, if_true, Bool.not_true, Bool.not_false, dec0, dec1, dec2, dec3, dec4, rtD_s, rtD_i, rtD_b, rtD_n, rtD_t, rtD_l, rtD_x, isN_n, isN_t, isN_s, isN_i, O_dl, O_dd, O_di, v_addI, v_sub, v_intI, v_ordI, v_ordS, v_lenL, v_lenT, v_min2S, v_max2S, v_min2I, v_max2I, v_cutT, v_cutL, v_eqI, v_neI, v_eqS, v_neS, v_eqB, v_neB, v_cint, v_inCh, bne_self_eq_false, Bool.false_bne, Bool.true_bne, Bool.bne_false, Bool.bne_true, stT, stAll, stMI, wipeF, Option.map_some, Option.map_none, wpO_s, wpO_n, ix_sg hkd hsz, v_mod, ← Int.natCast_emod]
      rw [if_pos (by omega)]
      simp -implicitDefEqProofs only [wpF, wpS_seq, wpS_if, wpS_set, wpS_put, wpS_ret, wpS_nil, wpS_drop, wpS_own, wpS_fz, wpS_bx, wpS_asg, wpS_multi, wpM_nil, wpM_v, wpM_o, wpE_op2, wpE_v, wpE_c, wpE_eL, wpEs_cons, wpEs_nil, wpE_callN, wpE_callR, wpE_tup, wpE_lst, wpE_and, wpE_or, wpE_not, wpE_if, wpE_fz, wpE_bx, wpE_bind, wpE_isN, wpE_chain, wpE_cut, wpO_none, wpO_some, wpC_lst, wpC_call, wpC_lrg, wpI_val, wpI_rng1, wpI_rng2, wpI_enum, wpI_zip, wpC_lc, wpC_lc2, wpC_dc, wpS_for, wpA_args, wpC_make, wpS_bm, wpE_bm, wpE_meth, wpE_methR, wpC_meth, wpC_callC, wp_some, onOk, onL, List.getElem?_cons_succ, List.getElem?_cons_zero, List.set_cons_succ, List.set_cons_zero, allVal_cons, allVal_nil, isV_s, isV_i, isV_b, isV_n, isV_t, isV_l, isV_f, isV_d, isV_x, isV_c, isV_r, isV_y, List.length_cons, List.length_nil, Nat.zero_add, Nat.reduceAdd, beq_self_eq_true, Bool.and_true, Bool.true_and, Bool.and_self, decide_true, decide_false, if_true, Bool.not_true, Bool.not_false, dec0, dec1, dec2, dec3, dec4, rtD_s, rtD_i, rtD_b, rtD_n, rtD_t, rtD_l, rtD_x, isN_n, isN_t, isN_s, isN_i, O_dl, O_dd, O_di, v_addI, v_sub, v_intI, v_ordI, v_ordS, v_lenL, v_lenT, v_min2S, v_max2S, v_min2I, v_max2I, v_cutT, v_cutL, v_eqI, v_neI, v_eqS, v_neS, v_eqB, v_neB, v_cint, v_inCh, bne_self_eq_false, Bool.false_bne, Bool.true_bne, Bool.bne_false, Bool.bne_true, stT, stAll, stMI, wipeF, Option.map_some, Option.map_none, wpO_s, wpO_n, ix_sg hkm hsz, Ord4.s, ltC1]
      have go : ∀ (qs : List (List Char)) (h : HB), (∀ p ∈ qs, From ls M (done ++ [.int (k : Int)]) p) → qs.Nodup → qs.length ≤ done.length + 1 → NoSq ls qs → Box h n → Ext n hb h → ((done ++ [D.int (k : Int)]) ++ rest = ys ∧ ∃ ps : List (List Char), (∀ p ∈ ps, From ls M (done ++ [.int (k : Int)]) p) ∧ ps.Nodup ∧ ps.length ≤ (done ++ [D.int (k : Int)]).length ∧ NoSq ls ps ∧ (∃ s3 s6 s7, ([.sh (.box n), .sh (.int 7), .sh (.int (M : Int)), .sh (.int (k : Int)), .sh (.str ls), .ow (.lst (qs.map .str)), .sh (sg ls[k / M]), .sh (sg ls[k % M])] : Fr) = [.sh (.box n), .sh (.int 7), .sh (.int (M : Int)), s3, .sh (.str ls), .ow (.lst (ps.map .str)), s6, s7]) ∧ Box h n ∧ Ext n hb h) :=
        fun qs h g1 g2 g3 g4 g5 g6 => ⟨by rw [List.append_assoc]; exact hr, qs, g1, g2, by simpa using g3, g4, ⟨_, _, _, rfl⟩, g5, g6⟩
      have old : ∀ p ∈ ps, From ls M (done ++ [.int (k : Int)]) p := fun p hp => by
        obtain ⟨k', m, z⟩ := hF p hp
        exact ⟨k', List.mem_append_left _ m, z⟩
      by_cases hlt : ls[k / M].toNat < ls[k % M].toNat
      · simp -implicitDefEqProofs only [hlt, decide_true]
        refine pull_wp hB3 (by decide) (by decide) fun r hb' r0 r1 hB4 hE4 => ?_
        simp -implicitDefEqProofs only [wpF, wpS_seq, wpS_if, wpS_set, wpS_put, wpS_ret, wpS_nil, wpS_drop, wpS_own, wpS_fz, wpS_bx, wpS_asg, wpS_multi, wpM_nil, wpM_v, wpM_o, wpE_op2, wpE_v, wpE_c, wpE_eL, wpEs_cons, wpEs_nil, wpE_callN, wpE_callR, wpE_tup, wpE_lst, wpE_and, wpE_or, wpE_not, wpE_if, wpE_fz, wpE_bx, wpE_bind, wpE_isN, wpE_chain, wpE_cut, wpO_none, wpO_some, wpC_lst, wpC_call, wpC_lrg, wpI_val, wpI_rng1, wpI_rng2, wpI_enum, wpI_zip, wpC_lc, wpC_lc2, wpC_dc, wpS_for, wpA_args, wpC_make, wpS_bm, wpE_bm, wpE_meth, wpE_methR, wpC_meth, wpC_callC, wp_some, onOk, onL, List.getElem?_cons_succ, List.getElem?_cons_zero, List.set_cons_succ, List.set_cons_zero, allVal_cons, allVal_nil, isV_s, isV_i, isV_b, isV_n, isV_t, isV_l, isV_f, isV_d, isV_x, isV_c, isV_r, isV_y, List.length_cons, List.length_nil, Nat.zero_add, Nat.reduceAdd, beq_self_eq_true, Bool.and_true, Bool.true_and, Bool.and_self, decide_true, decide_false, if_true, Bool.not_true, Bool.not_false, dec0, dec1, dec2, dec3, dec4, rtD_s, rtD_i, rtD_b, rtD_n, rtD_t, rtD_l, rtD_x, isN_n, isN_t, isN_s, isN_i, O_dl, O_dd, O_di, v_addI, v_sub, v_intI, v_ordI, v_ordS, v_lenL, v_lenT, v_min2S, v_max2S, v_min2I, v_max2I, v_cutT, v_cutL, v_eqI, v_neI, v_eqS, v_neS, v_eqB, v_neB, v_cint, v_inCh, bne_self_eq_false, Bool.false_bne, Bool.true_bne, Bool.bne_false, Bool.bne_true, stT, stAll, stMI, wipeF, Option.map_some, Option.map_none, wpO_s, wpO_n, Ord4.i]
        by_cases hr0 : 0 < r
        · simp -implicitDefEqProofs only [hr0, decide_true]
          rw [v_addS, if_pos (by simp only [List.length_cons, List.length_nil]; omega)]
          simp -implicitDefEqProofs only [wpF, wpS_seq, wpS_if, wpS_set, wpS_put, wpS_ret, wpS_nil, wpS_drop, wpS_own, wpS_fz, wpS_bx, wpS_asg, wpS_multi, wpM_nil, wpM_v, wpM_o, wpE_op2, wpE_v, wpE_c, wpE_eL, wpEs_cons, wpEs_nil, wpE_callN, wpE_callR, wpE_tup, wpE_lst, wpE_and, wpE_or, wpE_not, wpE_if, wpE_fz, wpE_bx, wpE_bind, wpE_isN, wpE_chain, wpE_cut, wpO_none, wpO_some, wpC_lst, wpC_call, wpC_lrg, wpI_val, wpI_rng1, wpI_rng2, wpI_enum, wpI_zip, wpC_lc, wpC_lc2, wpC_dc, wpS_for, wpA_args, wpC_make, wpS_bm, wpE_bm, wpE_meth, wpE_methR, wpC_meth, wpC_callC, wp_some, onOk, onL, List.getElem?_cons_succ, List.getElem?_cons_zero, List.set_cons_succ, List.set_cons_zero, allVal_cons, allVal_nil, isV_s, isV_i, isV_b, isV_n, isV_t, isV_l, isV_f, isV_d, isV_x, isV_c, isV_r, isV_y, List.length_cons, List.length_nil, Nat.zero_add, Nat.reduceAdd, beq_self_eq_true, Bool.and_true, Bool.true_and, Bool.and_self, decide_true, decide_false, if_true, Bool.not_true, Bool.not_false, dec0, dec1, dec2, dec3, dec4, rtD_s, rtD_i, rtD_b, rtD_n, rtD_t, rtD_l, rtD_x, isN_n, isN_t, isN_s, isN_i, O_dl, O_dd, O_di, v_addI, v_sub, v_intI, v_ordI, v_ordS, v_lenL, v_lenT, v_min2S, v_max2S, v_min2I, v_max2I, v_cutT, v_cutL, v_eqI, v_neI, v_eqS, v_neS, v_eqB, v_neB, v_cint, v_inCh, bne_self_eq_false, Bool.false_bne, Bool.true_bne, Bool.bne_false, Bool.bne_true, stT, stAll, stMI, wipeF, Option.map_some, Option.map_none, wpO_s, wpO_n]
          rw [v_addO (xs := ps.map .str) rfl, if_pos (by simp only [List.length_map, List.length_cons, List.length_nil]; have := congrArg List.length hr; rw [List.length_append, hyl] at this; omega)]
          have e1 : ps.map D.str ++ [D.str ([ls[k / M]] ++ [ls[k % M]])] = (ps ++ [[ls[k / M], ls[k % M]]]).map .str := by simp
          simp -implicitDefEqProofs only [wpF, wpS_seq, wpS_if, wpS_set, wpS_put, wpS_ret, wpS_nil, wpS_drop, wpS_own, wpS_fz, wpS_bx, wpS_asg, wpS_multi, wpM_nil, wpM_v, wpM_o, wpE_op2, wpE_v, wpE_c, wpE_eL, wpEs_cons, wpEs_nil, wpE_callN, wpE_callR, wpE_tup, wpE_lst, wpE_and, wpE_or, wpE_not, wpE_if, wpE_fz, wpE_bx, wpE_bind, wpE_isN, wpE_chain, wpE_cut, wpO_none, wpO_some, wpC_lst, wpC_call, wpC_lrg, wpI_val, wpI_rng1, wpI_rng2, wpI_enum, wpI_zip, wpC_lc, wpC_lc2, wpC_dc, wpS_for, wpA_args, wpC_make, wpS_bm, wpE_bm, wpE_meth, wpE_methR, wpC_meth, wpC_callC, wp_some, onOk, onL, List.getElem?_cons_succ, List.getElem?_cons_zero, List.set_cons_succ, List.set_cons_zero, allVal_cons, allVal_nil, isV_s, isV_i, isV_b, isV_n, isV_t, isV_l, isV_f, isV_d, isV_x, isV_c, isV_r, isV_y, List.length_cons, List.length_nil, Nat.zero_add, Nat.reduceAdd, beq_self_eq_true, Bool.and_true, Bool.true_and, Bool.and_self, decide_true, decide_false, if_true, Bool.not_true, Bool.not_false, dec0, dec1, dec2, dec3, dec4, rtD_s, rtD_i, rtD_b, rtD_n, rtD_t, rtD_l, rtD_x, isN_n, isN_t, isN_s, isN_i, O_dl, O_dd, O_di, v_addI, v_sub, v_intI, v_ordI, v_ordS, v_lenL, v_lenT, v_min2S, v_max2S, v_min2I, v_max2I, v_cutT, v_cutL, v_eqI, v_neI, v_eqS, v_neS, v_eqB, v_neB, v_cint, v_inCh, bne_self_eq_false, Bool.false_bne, Bool.true_bne, Bool.bne_false, Bool.bne_true, stT, stAll, stMI, wipeF, Option.map_some, Option.map_none, wpO_s, wpO_n, e1]
          have new : From ls M (done ++ [.int (k : Int)]) [ls[k / M], ls[k % M]] := ⟨k, by simp, _, _, List.getElem?_eq_getElem hkd, List.getElem?_eq_getElem hkm, hlt, rfl⟩
          have newp : [ls[k / M], ls[k % M]] ∉ ps := fun hm => by
            have n1 : From ls M [.int (k : Int)] [ls[k / M], ls[k % M]] := ⟨k, by simp, _, _, List.getElem?_eq_getElem hkd, List.getElem?_eq_getElem hkm, hlt, rfl⟩
            obtain ⟨k', a1, a2⟩ := From.inj (by omega) hA.asc n1 (hF _ hm)
            rw [List.mem_singleton] at a1
            rw [a1] at a2
            exact nin a2
          refine square_wp (by omega) fun v hv hN2 => ?_
          simp -implicitDefEqProofs only [wpF, wpS_seq, wpS_if, wpS_set, wpS_put, wpS_ret, wpS_nil, wpS_drop, wpS_own, wpS_fz, wpS_bx, wpS_asg, wpS_multi, wpM_nil, wpM_v, wpM_o, wpE_op2, wpE_v, wpE_c, wpE_eL, wpEs_cons, wpEs_nil, wpE_callN, wpE_callR, wpE_tup, wpE_lst, wpE_and, wpE_or, wpE_not, wpE_if, wpE_fz, wpE_bx, wpE_bind, wpE_isN, wpE_chain, wpE_cut, wpO_none, wpO_some, wpC_lst, wpC_call, wpC_lrg, wpI_val, wpI_rng1, wpI_rng2, wpI_enum, wpI_zip, wpC_lc, wpC_lc2, wpC_dc, wpS_for, wpA_args, wpC_make, wpS_bm, wpE_bm, wpE_meth, wpE_methR, wpC_meth, wpC_callC, wp_some, onOk, onL, List.getElem?_cons_succ, List.getElem?_cons_zero, List.set_cons_succ, List.set_cons_zero, allVal_cons, allVal_nil, isV_s, isV_i, isV_b, isV_n, isV_t, isV_l, isV_f, isV_d, isV_x, isV_c, isV_r, isV_y, List.length_cons, List.length_nil, Nat.zero_add, Nat.reduceAdd, beq_self_eq_true, Bool.and_true, Bool.true_and, Bool.and_self, decide_true, decide_false, if_true, Bool.not_true, Bool.not_false, dec0, dec1, dec2, dec3, dec4, rtD_s, rtD_i, rtD_b, rtD_n, rtD_t, rtD_l, rtD_x, isN_n, isN_t, isN_s, isN_i, O_dl, O_dd, O_di, v_addI, v_sub, v_intI, v_ordI, v_ordS, v_lenL, v_lenT, v_min2S, v_max2S, v_min2I, v_max2I, v_cutT, v_cutL, v_eqI, v_neI, v_eqS, v_neS, v_eqB, v_neB, v_cint, v_inCh, bne_self_eq_false, Bool.false_bne, Bool.true_bne, Bool.bne_false, Bool.bne_true, stT, stAll, stMI, wipeF, Option.map_some, Option.map_none, wpO_s, wpO_n]
          cases hvn : v.isN with
          | true =>
            simp -implicitDefEqProofs only [wpF, wpS_seq, wpS_if, wpS_set, wpS_put, wpS_ret, wpS_nil, wpS_drop, wpS_own, wpS_fz, wpS_bx, wpS_asg, wpS_multi, wpM_nil, wpM_v, wpM_o, wpE_op2, wpE_v, wpE_c, wpE_eL, wpEs_cons, wpEs_nil, wpE_callN, wpE_callR, wpE_tup, wpE_lst, wpE_and, wpE_or, wpE_not, wpE_if, wpE_fz, wpE_bx, wpE_bind, wpE_isN, wpE_chain, wpE_cut, wpO_none, wpO_some, wpC_lst, wpC_call, wpC_lrg, wpI_val, wpI_rng1, wpI_rng2, wpI_enum, wpI_zip, wpC_lc, wpC_lc2, wpC_dc, wpS_for, wpA_args, wpC_make, wpS_bm, wpE_bm, wpE_meth, wpE_methR, wpC_meth, wpC_callC, wp_some, onOk, onL, List.getElem?_cons_succ, List.getElem?_cons_zero, List.set_cons_succ, List.set_cons_zero, allVal_cons, allVal_nil, isV_s, isV_i, isV_b, isV_n, isV_t, isV_l, isV_f, isV_d, isV_x, isV_c, isV_r, isV_y, List.length_cons, List.length_nil, Nat.zero_add, Nat.reduceAdd, beq_self_eq_true, Bool.and_true, Bool.true_and, Bool.and_self, decide_true, decide_false, if_true, Bool.not_true, Bool.not_false, dec0, dec1, dec2, dec3, dec4, rtD_s, rtD_i, rtD_b, rtD_n, rtD_t, rtD_l, rtD_x, isN_n, isN_t, isN_s, isN_i, O_dl, O_dd, O_di, v_addI, v_sub, v_intI, v_ordI, v_ordS, v_lenL, v_lenT, v_min2S, v_max2S, v_min2I, v_max2I, v_cutT, v_cutL, v_eqI, v_neI, v_eqS, v_neS, v_eqB, v_neB, v_cint, v_inCh, bne_self_eq_false, Bool.false_bne, Bool.true_bne, Bool.bne_false, Bool.bne_true, stT, stAll, stMI, wipeF, Option.map_some, Option.map_none, wpO_s, wpO_n]
            have k5 : ∀ (fr : Fr) (h : HB) (xs : List D), fr[5]? = some (.ow (.lst xs)) → isK "list" (.loc 5) fr h = true := fun fr h xs e => by
              unfold isK rdO
              dsimp only
              rw [e]; rfl
            rw [k5 _ _ (ps.map .str) rfl]
            simp -implicitDefEqProofs only [wpF, wpS_seq, wpS_if, wpS_set, wpS_put, wpS_ret, wpS_nil, wpS_drop, wpS_own, wpS_fz, wpS_bx, wpS_asg, wpS_multi, wpM_nil, wpM_v, wpM_o, wpE_op2, wpE_v, wpE_c, wpE_eL, wpEs_cons, wpEs_nil, wpE_callN, wpE_callR, wpE_tup, wpE_lst, wpE_and, wpE_or, wpE_not, wpE_if, wpE_fz, wpE_bx, wpE_bind, wpE_isN, wpE_chain, wpE_cut, wpO_none, wpO_some, wpC_lst, wpC_call, wpC_lrg, wpI_val, wpI_rng1, wpI_rng2, wpI_enum, wpI_zip, wpC_lc, wpC_lc2, wpC_dc, wpS_for, wpA_args, wpC_make, wpS_bm, wpE_bm, wpE_meth, wpE_methR, wpC_meth, wpC_callC, wp_some, onOk, onL, List.getElem?_cons_succ, List.getElem?_cons_zero, List.set_cons_succ, List.set_cons_zero, allVal_cons, allVal_nil, isV_s, isV_i, isV_b, isV_n, isV_t, isV_l, isV_f, isV_d, isV_x, isV_c, isV_r, isV_y, List.length_cons, List.length_nil, Nat.zero_add, Nat.reduceAdd, beq_self_eq_true, Bool.and_true, Bool.true_and, Bool.and_self, decide_true, decide_false, if_true, Bool.not_true, Bool.not_false, dec0, dec1, dec2, dec3, dec4, rtD_s, rtD_i, rtD_b, rtD_n, rtD_t, rtD_l, rtD_x, isN_n, isN_t, isN_s, isN_i, O_dl, O_dd, O_di, v_addI, v_sub, v_intI, v_ordI, v_ordS, v_lenL, v_lenT, v_min2S, v_max2S, v_min2I, v_max2I, v_cutT, v_cutL, v_eqI, v_neI, v_eqS, v_neS, v_eqB, v_neB, v_cint, v_inCh, bne_self_eq_false, Bool.false_bne, Bool.true_bne, Bool.bne_false, Bool.bne_true, stT, stAll, stMI, wipeF, Option.map_some, Option.map_none, wpO_s, wpO_n]
            rw [v_addS, if_pos (by simp only [List.length_cons, List.length_nil]; omega)]
            simp -implicitDefEqProofs only [wpF, wpS_seq, wpS_if, wpS_set, wpS_put, wpS_ret, wpS_nil, wpS_drop, wpS_own, wpS_fz, wpS_bx, wpS_asg, wpS_multi, wpM_nil, wpM_v, wpM_o, wpE_op2, wpE_v, wpE_c, wpE_eL, wpEs_cons, wpEs_nil, wpE_callN, wpE_callR, wpE_tup, wpE_lst, wpE_and, wpE_or, wpE_not, wpE_if, wpE_fz, wpE_bx, wpE_bind, wpE_isN, wpE_chain, wpE_cut, wpO_none, wpO_some, wpC_lst, wpC_call, wpC_lrg, wpI_val, wpI_rng1, wpI_rng2, wpI_enum, wpI_zip, wpC_lc, wpC_lc2, wpC_dc, wpS_for, wpA_args, wpC_make, wpS_bm, wpE_bm, wpE_meth, wpE_methR, wpC_meth, wpC_callC, wp_some, onOk, onL, List.getElem?_cons_succ, List.getElem?_cons_zero, List.set_cons_succ, List.set_cons_zero, allVal_cons, allVal_nil, isV_s, isV_i, isV_b, isV_n, isV_t, isV_l, isV_f, isV_d, isV_x, isV_c, isV_r, isV_y, List.length_cons, List.length_nil, Nat.zero_add, Nat.reduceAdd, beq_self_eq_true, Bool.and_true, Bool.true_and, Bool.and_self, decide_true, decide_false, if_true, Bool.not_true, Bool.not_false, dec0, dec1, dec2, dec3, dec4, rtD_s, rtD_i, rtD_b, rtD_n, rtD_t, rtD_l, rtD_x, isN_n, isN_t, isN_s, isN_i, O_dl, O_dd, O_di, v_addI, v_sub, v_intI, v_ordI, v_ordS, v_lenL, v_lenT, v_min2S, v_max2S, v_min2I, v_max2I, v_cutT, v_cutL, v_eqI, v_neI, v_eqS, v_neS, v_eqB, v_neB, v_cint, v_inCh, bne_self_eq_false, Bool.false_bne, Bool.true_bne, Bool.bne_false, Bool.bne_true, stT, stAll, stMI, wipeF, Option.map_some, Option.map_none, wpO_s, wpO_n]
            have ea : omAppend (.lst (ps.map .str)) [D.str ([ls[k / M]] ++ [ls[k % M]])] = some (.lst (ps.map .str ++ [D.str ([ls[k / M]] ++ [ls[k % M]])]), .non) := by
              show (if (ps.map D.str).length < szL then some (O.lst (ps.map D.str ++ [_]), D.non) else none) = _
              rw [if_pos (by rw [List.length_map]; have := congrArg List.length hr; rw [List.length_append, hyl] at this; omega)]
            have er : rdO ([.sh (.box n), .sh (.int 7), .sh (.int (M : Int)), .sh (.int (k : Int)), .sh (.str ls), .ow (.lst (ps.map .str)), .sh (sg ls[k / M]), .sh (sg ls[k % M])] : Fr) hb' (.loc 5) = some (.lst (ps.map .str)) := rfl
            rw [er]
            simp -implicitDefEqProofs only [ea, e1, toN, wrO, List.set_cons_succ, List.set_cons_zero]
            refine go _ _ (fun p hp => ?_) ?_ (by rw [List.length_append, List.length_cons, List.length_nil]; omega) (hN2 hvn) hB4 (hE3.trans hE4)
            · rcases List.mem_append.mp hp with q | q
              · exact old p q
              · rw [List.mem_singleton] at q
                rw [q]; exact new
            · rw [List.nodup_append]
              exact ⟨hN, by simp, fun a ha b hb e => by rw [List.mem_singleton] at hb; subst hb; subst e; exact newp ha⟩
          | false =>
            simp -implicitDefEqProofs only [wpF, wpS_seq, wpS_if, wpS_set, wpS_put, wpS_ret, wpS_nil, wpS_drop, wpS_own, wpS_fz, wpS_bx, wpS_asg, wpS_multi, wpM_nil, wpM_v, wpM_o, wpE_op2, wpE_v, wpE_c, wpE_eL, wpEs_cons, wpEs_nil, wpE_callN, wpE_callR, wpE_tup, wpE_lst, wpE_and, wpE_or, wpE_not, wpE_if, wpE_fz, wpE_bx, wpE_bind, wpE_isN, wpE_chain, wpE_cut, wpO_none, wpO_some, wpC_lst, wpC_call, wpC_lrg, wpI_val, wpI_rng1, wpI_rng2, wpI_enum, wpI_zip, wpC_lc, wpC_lc2, wpC_dc, wpS_for, wpA_args, wpC_make, wpS_bm, wpE_bm, wpE_meth, wpE_methR, wpC_meth, wpC_callC, wp_some, onOk, onL, List.getElem?_cons_succ, List.getElem?_cons_zero, List.set_cons_succ, List.set_cons_zero, allVal_cons, allVal_nil, isV_s, isV_i, isV_b, isV_n, isV_t, isV_l, isV_f, isV_d, isV_x, isV_c, isV_r, isV_y, List.length_cons, List.length_nil, Nat.zero_add, Nat.reduceAdd, beq_self_eq_true, Bool.and_true, Bool.true_and, Bool.and_self, decide_true, decide_false, if_true, Bool.not_true, Bool.not_false, dec0, dec1, dec2, dec3, dec4, rtD_s, rtD_i, rtD_b, rtD_n, rtD_t, rtD_l, rtD_x, isN_n, isN_t, isN_s, isN_i, O_dl, O_dd, O_di, v_addI, v_sub, v_intI, v_ordI, v_ordS, v_lenL, v_lenT, v_min2S, v_max2S, v_min2I, v_max2I, v_cutT, v_cutL, v_eqI, v_neI, v_eqS, v_neS, v_eqB, v_neB, v_cint, v_inCh, bne_self_eq_false, Bool.false_bne, Bool.true_bne, Bool.bne_false, Bool.bne_true, stT, stAll, stMI, wipeF, Option.map_some, Option.map_none, wpO_s, wpO_n]
            exact go ps hb' old hN (by omega) hS hB4 (hE3.trans hE4)
        · simp -implicitDefEqProofs only [hr0, decide_false, wpS_nil]
          exact go ps hb' old hN (by omega) hS hB4 (hE3.trans hE4)
      · simp -implicitDefEqProofs only [hlt, decide_false, wpS_nil]
        exact go ps h3 old hN (by omega) hS hB3 hE3
    · rintro done f h3 ⟨hr, ps, hF, hN, hL, hS, hf, hB3, hE3⟩
      rw [List.append_nil] at hr
      subst hr
      refine ⟨ps, fun p hp' => ?_, hN, by omega, hS, hf, hB3, hE3⟩
      obtain ⟨k, m, z⟩ := hF p hp'
      refine ⟨k, ?_, z⟩
      have := hp.mem_iff.mp m
      exact this
  · rintro f h ⟨ps, hF, hN, hL, hS, ⟨s3, s6, s7, rfl⟩, hB3, hE3⟩
    have eg : glSort [.loc 5] [.sh (.box n), .sh (.int 7), .sh (.int (M : Int)), s3, .sh (.str ls), .ow (.lst (ps.map .str)), s6, s7] h = some ((sortT ps).map .str) := by
      show srtD (ps.map .str) = _
      exact srtD_strs (by omega)
    simp -implicitDefEqProofs only [wpF, wpS_seq, wpS_if, wpS_set, wpS_put, wpS_ret, wpS_nil, wpS_drop, wpS_own, wpS_fz, wpS_bx, wpS_asg, wpS_multi, wpM_nil, wpM_v, wpM_o, wpE_op2, wpE_v, wpE_c, wpE_eL, wpEs_cons, wpEs_nil, wpE_callN, wpE_callR, wpE_tup, wpE_lst, wpE_and, wpE_or, wpE_not, wpE_if, wpE_fz, wpE_bx, wpE_bind, wpE_isN, wpE_chain, wpE_cut, wpO_none, wpO_some, wpC_lst, wpC_call, wpC_lrg, wpI_val, wpI_rng1, wpI_rng2, wpI_enum, wpI_zip, wpC_lc, wpC_lc2, wpC_dc, wpS_for, wpA_args, wpC_make, wpS_bm, wpE_bm, wpE_meth, wpE_methR, wpC_meth, wpC_callC, wp_some, onOk, onL, List.getElem?_cons_succ, List.getElem?_cons_zero, List.set_cons_succ, List.set_cons_zero, allVal_cons, allVal_nil, isV_s, isV_i, isV_b, isV_n, isV_t, isV_l, isV_f, isV_d, isV_x, isV_c, isV_r, isV_y, List.length_cons, List.length_nil, Nat.zero_add, Nat.reduceAdd, beq_self_eq_true, Bool.and_true, Bool.true_and, Bool.and_self, decide_true, decide_false, if_true, Bool.not_true, Bool.not_false, dec0, dec1, dec2, dec3, dec4, rtD_s, rtD_i, rtD_b, rtD_n, rtD_t, rtD_l, rtD_x, isN_n, isN_t, isN_s, isN_i, O_dl, O_dd, O_di, v_addI, v_sub, v_intI, v_ordI, v_ordS, v_lenL, v_lenT, v_min2S, v_max2S, v_min2I, v_max2I, v_cutT, v_cutL, v_eqI, v_neI, v_eqS, v_neS, v_eqB, v_neB, v_cint, v_inCh, bne_self_eq_false, Bool.false_bne, Bool.true_bne, Bool.bne_false, Bool.bne_true, stT, stAll, stMI, wipeF, Option.map_some, Option.map_none, wpO_s, wpO_n, eg]
    have pp := sortT_perm ps
    refine hq (sortT ps) h ⟨hA, fun p hp => ?_, pp.nodup_iff.mpr hN, by rw [pp.length_eq]; omega, NoSq_perm (fun p => pp.mem_iff.symm) hS, sortT_pw ps⟩ hB3 hE3
    obtain ⟨k, _, a, b, e1, e2, hlt, rfl⟩ := hF p (pp.mem_iff.mp hp)
    exact ⟨a, b, List.mem_of_getElem? e1, List.mem_of_getElem? e2, hlt, rfl⟩
theorem table_wp {hb : HB} {n : Nat} {Q : R → HB → Prop} (hB : Box hb n) (hq : ∀ ls ps hb', TabOk ls ps → Box hb' n → Ext n hb hb' → Q (.ok (.tup [.str ls, .lst (ps.map .str)])) hb') : wp (ev__law_table [.box n, .int 7] hb) Q := by
  unfold ev__law_table sv__law_table
  rw [wpF]
  show wp (sSeq _ _ [.sh (.box n), .sh (.int 7), .un, .un, .un, .un, .un, .un] hb) _
  have hz := szL_big
  refine wp_seq (fun f h => ∃ M : Nat, 2 ≤ M ∧ M ≤ 7 ∧ f = [.sh (.box n), .sh (.int 7), .sh (.int (M : Int)), .un, .un, .un, .un, .un] ∧ Box h n ∧ Ext n hb h) ?_ ?_
  · simp -implicitDefEqProofs only [wpF, wpS_seq, wpS_if, wpS_set, wpS_put, wpS_ret, wpS_nil, wpS_drop, wpS_own, wpS_fz, wpS_bx, wpS_asg, wpS_multi, wpM_nil, wpM_v, wpM_o, wpE_op2, wpE_v, wpE_c, wpE_eL, wpEs_cons, wpEs_nil, wpE_callN, wpE_callR, wpE_tup, wpE_lst, wpE_and, wpE_or, wpE_not, wpE_if, wpE_fz, wpE_bx, wpE_bind, wpE_isN, wpE_chain, wpE_cut, wpO_none, wpO_some, wpC_lst, wpC_call, wpC_lrg, wpI_val, wpI_rng1, wpI_rng2, wpI_enum, wpI_zip, wpC_lc, wpC_lc2, wpC_dc, wpS_for, wpA_args, wpC_make, wpS_bm, wpE_bm, wpE_meth, wpE_methR, wpC_meth, wpC_callC, wp_some, onOk, onL, List.getElem?_cons_succ, List.getElem?_cons_zero, List.set_cons_succ, List.set_cons_zero, allVal_cons, allVal_nil, isV_s, isV_i, isV_b, isV_n, isV_t, isV_l, isV_f, isV_d, isV_x, isV_c, isV_r, isV_y, List.length_cons, List.length_nil, Nat.zero_add, Nat.reduceAdd, beq_self_eq_true, Bool.and_true, Bool.true_and, Bool.and_self, decide_true, decide_false, if_true, Bool.not_true, Bool.not_false, dec0, dec1, dec2, dec3, dec4, rtD_s, rtD_i, rtD_b, rtD_n, rtD_t, rtD_l, rtD_x, isN_n, isN_t, isN_s, isN_i, O_dl, O_dd, O_di, v_addI, v_sub, v_intI, v_ordI, v_ordS, v_lenL, v_lenT, v_min2S, v_max2S, v_min2I, v_max2I, v_cutT, v_cutL, v_eqI, v_neI, v_eqS, v_neS, v_eqB, v_neB, v_cint, v_inCh, bne_self_eq_false, Bool.false_bne, Bool.true_bne, Bool.bne_false, Bool.bne_true, stT, stAll, stMI, wipeF, Option.map_some, Option.map_none, wpO_s, wpO_n]
    refine pull_wp hB (by decide) (by decide) fun r hb' r0 r1 hB' hE => ?_
    simp -implicitDefEqProofs only [onOk, v_addI, isV_i, if_true, List.set_cons_succ, List.set_cons_zero]
    exact ⟨(2 + r).toNat, by omega, by omega, by rw [show ((2 + r).toNat : Int) = 2 + r by omega], hB', hE⟩
  rintro f h ⟨M, hM2, hM7, rfl, hB1, hE1⟩
  refine wp_seq (fun f h => ∃ ls, Asc ls ∧ ls.length = M ∧ f = [.sh (.box n), .sh (.int 7), .sh (.int (M : Int)), .un, .sh (.str ls), .ow (.lst []), .un, .un] ∧ Box h n ∧ Ext n hb h) ?_ ?_
  · simp -implicitDefEqProofs only [wpF, wpS_seq, wpS_if, wpS_set, wpS_put, wpS_ret, wpS_nil, wpS_drop, wpS_own, wpS_fz, wpS_bx, wpS_asg, wpS_multi, wpM_nil, wpM_v, wpM_o, wpE_op2, wpE_v, wpE_c, wpE_eL, wpEs_cons, wpEs_nil, wpE_callN, wpE_callR, wpE_tup, wpE_lst, wpE_and, wpE_or, wpE_not, wpE_if, wpE_fz, wpE_bx, wpE_bind, wpE_isN, wpE_chain, wpE_cut, wpO_none, wpO_some, wpC_lst, wpC_call, wpC_lrg, wpI_val, wpI_rng1, wpI_rng2, wpI_enum, wpI_zip, wpC_lc, wpC_lc2, wpC_dc, wpS_for, wpA_args, wpC_make, wpS_bm, wpE_bm, wpE_meth, wpE_methR, wpC_meth, wpC_callC, wp_some, onOk, onL, List.getElem?_cons_succ, List.getElem?_cons_zero, List.set_cons_succ, List.set_cons_zero, allVal_cons, allVal_nil, isV_s, isV_i, isV_b, isV_n, isV_t, isV_l, isV_f, isV_d, isV_x, isV_c, isV_r, isV_y, List.length_cons, List.length_nil, Nat.zero_add, Nat.reduceAdd, beq_self_eq_true, Bool.and_true, Bool.true_and, Bool.and_self, decide_true, decide_false, if_true, Bool.not_true, Bool.not_false, dec0, dec1, dec2, dec3, dec4, rtD_s, rtD_i, rtD_b, rtD_n, rtD_t, rtD_l, rtD_x, isN_n, isN_t, isN_s, isN_i, O_dl, O_dd, O_di, v_addI, v_sub, v_intI, v_ordI, v_ordS, v_lenL, v_lenT, v_min2S, v_max2S, v_min2I, v_max2I, v_cutT, v_cutL, v_eqI, v_neI, v_eqS, v_neS, v_eqB, v_neB, v_cint, v_inCh, bne_self_eq_false, Bool.false_bne, Bool.true_bne, Bool.bne_false, Bool.bne_true, stT, stAll, stMI, wipeF, Option.map_some, Option.map_none, wpO_s, wpO_n]
    refine letters_wp hB1 (by omega) (by omega) fun ls hb' hA hl hB' hE => ?_
    simp -implicitDefEqProofs only [wpF, wpS_seq, wpS_if, wpS_set, wpS_put, wpS_ret, wpS_nil, wpS_drop, wpS_own, wpS_fz, wpS_bx, wpS_asg, wpS_multi, wpM_nil, wpM_v, wpM_o, wpE_op2, wpE_v, wpE_c, wpE_eL, wpEs_cons, wpEs_nil, wpE_callN, wpE_callR, wpE_tup, wpE_lst, wpE_and, wpE_or, wpE_not, wpE_if, wpE_fz, wpE_bx, wpE_bind, wpE_isN, wpE_chain, wpE_cut, wpO_none, wpO_some, wpC_lst, wpC_call, wpC_lrg, wpI_val, wpI_rng1, wpI_rng2, wpI_enum, wpI_zip, wpC_lc, wpC_lc2, wpC_dc, wpS_for, wpA_args, wpC_make, wpS_bm, wpE_bm, wpE_meth, wpE_methR, wpC_meth, wpC_callC, wp_some, onOk, onL, List.getElem?_cons_succ, List.getElem?_cons_zero, List.set_cons_succ, List.set_cons_zero, allVal_cons, allVal_nil, isV_s, isV_i, isV_b, isV_n, isV_t, isV_l, isV_f, isV_d, isV_x, isV_c, isV_r, isV_y, List.length_cons, List.length_nil, Nat.zero_add, Nat.reduceAdd, beq_self_eq_true, Bool.and_true, Bool.true_and, Bool.and_self, decide_true, decide_false, if_true, Bool.not_true, Bool.not_false, dec0, dec1, dec2, dec3, dec4, rtD_s, rtD_i, rtD_b, rtD_n, rtD_t, rtD_l, rtD_x, isN_n, isN_t, isN_s, isN_i, O_dl, O_dd, O_di, v_addI, v_sub, v_intI, v_ordI, v_ordS, v_lenL, v_lenT, v_min2S, v_max2S, v_min2I, v_max2I, v_cutT, v_cutL, v_eqI, v_neI, v_eqS, v_neS, v_eqB, v_neB, v_cint, v_inCh, bne_self_eq_false, Bool.false_bne, Bool.true_bne, Bool.bne_false, Bool.bne_true, stT, stAll, stMI, wipeF, Option.map_some, Option.map_none, wpO_s, wpO_n]
    rw [if_pos (by decide)]
    have hlM : ls.length = M := by omega
    exact ⟨ls, hA, hlM, rfl, hB', hE1.trans hE⟩
  rintro f h ⟨ls, hA, hls, rfl, hB2, hE2⟩
  exact table_tail hM2 hM7 hA hls hB2 hE2 fun ps hb' h1 h2 h3 => hq ls ps hb' h1 h2 h3
end Lw
set_option Elab.async false
set_option linter.all false
set_option maxRecDepth 100000
set_option maxHeartbeats 2000000
/-! the class of tables -/
namespace Lw
open PySem DI
/-! ### more rules -/
section
variable {fr : Fr} {hb : HB} {Q : R → HB → Prop} {QS : SR → HB → Prop} {ev ev2 : Ev} {evs : Evs}
theorem wpS_store {cs : List String} {f : String} : wp (sStore cs f ev ev2 fr hb) QS = wp (ev fr hb) (fun r h => match r with
  | .ok d => if d.isVal = true then wp (ev2 fr h) (fun r h => match r with
    | .ok x => (match rdO fr h x with
      | some (.ins c fs vs) => if (cs.contains c && decide (fs.length < 1000)) = true then QS (.nx (wrO x (.ins c (putFD fs vs f d).1 (putFD fs vs f d).2) fr h).1) (wrO x (.ins c (putFD fs vs f d).1 (putFD fs vs f d).2) fr h).2 else False
      | _ => False)
    | .exn z => QS (.ex z) h) else False
  | .exn z => QS (.ex z) h) := by
  unfold sStore
  rcases ev fr hb with _ | ⟨d | x, h⟩
  · with_unfolding_all rfl
  · simp only [wp_some]
    rw [wp_ite, wp_none]
    congr 1
    rcases ev2 fr h with _ | ⟨x | x, h⟩
    · with_unfolding_all rfl
    · simp only [wp_some]
      rcases rdO fr h x with _ | (_ | _ | ⟨c, fs, vs⟩)
      · with_unfolding_all rfl
      · with_unfolding_all rfl
      · with_unfolding_all rfl
      · exact wp_if
    · with_unfolding_all rfl
  · with_unfolding_all rfl
theorem v_fldO {k : Nat} {c f : String} {cs fs : List String} {vs : List D} (e : fr[k]? = some (.ow (.ins c fs vs))) : wp (gFld cs f (.loc k) fr hb) Q = if cs.contains c = true then wpO (getF fs vs f) Q hb else False := by
  have h1 : insD fr hb (.loc k) = some (c, fs, vs) := by simp only [insD, rdO, e]
  unfold gFld
  rw [h1]
  dsimp only
  rw [wp_ite, wp_none]
  congr 1
  cases getF fs vs f <;> with_unfolding_all rfl
theorem wpE_mt {T : String} {g : D → List D → Ev} : wp (eMt T g ev evs fr hb) Q = wp (ev fr hb) (onOk (fun d h => if isM T d fr h = true then wp (evs fr h) (onL (fun ds h => wp (g d ds fr h) Q) fun x h => Q (.exn x) h) else False) Q) := by
  unfold eMt; rw [wpE_bind]; congr 1; funext r h; cases r with
  | exn x => with_unfolding_all rfl
  | ok d => dsimp only [onOk]; rw [wp_ite, wp_none, wpE_eL]
theorem wpE_jn {acc : List Char} : wp (eJs [] acc fr hb) Q = Q (.ok (.str acc)) hb := by with_unfolding_all rfl
theorem wpE_jc {acc : List Char} {r : List Ev} : wp (eJs (ev :: r) acc fr hb) Q = wp (ev fr hb) (onOk (fun d h => match d with
  | .str y => if (acc ++ y).length ≤ szL then wp (eJs r (acc ++ y) fr h) Q else False
  | _ => False) Q) := by
  rw [eJs, wpE_bind]; congr 1; funext r h; cases r with
  | exn x => with_unfolding_all rfl
  | ok d => cases d <;> first | with_unfolding_all rfl | (dsimp only [onOk]; rw [wp_ite, wp_none])
theorem tDs_sg : ∀ cs : List Char, tDs (cs.map sg) = some (cs.map fun c => [c])
  | [] => rfl
  | c :: cs => by
    show (match tDs (cs.map sg) with | some is => some ([c] :: is) | none => none) = _
    rw [tDs_sg cs]; rfl
theorem flat1 : ∀ cs : List Char, (cs.map fun c => [c]).flatten = cs
  | [] => rfl
  | c :: cs => by simp [flat1 cs]
theorem joinC0 (cs : List Char) : joinC [] (cs.map fun c => [c]) = cs := by
  cases cs with
  | nil => rfl
  | cons c cs =>
    show [c] ++ ((cs.map fun c => [c]).map ([] ++ ·)).flatten = _
    have : (cs.map fun c => [c]).map ([] ++ ·) = cs.map fun c => [c] := by simp
    rw [this, flat1 cs]; rfl
theorem sum1 : ∀ cs : List Char, ((cs.map fun c => [c]).map List.length).sum = cs.length
  | [] => rfl
  | c :: cs => by
    have := sum1 cs
    simp only [List.map_cons, List.sum_cons, List.length_cons, List.length_nil]
    omega
theorem v_joinE {cs : List Char} (h : cs.length ≤ szL) : wp (gJoin (.str []) [.lst (cs.map sg)] fr hb) Q = Q (.ok (.str cs)) hb := by
  have e : gJoin (.str []) [.lst (cs.map sg)] fr hb = some (.ok (.str cs), hb) := by
    show (match tDs (cs.map sg) with
      | some ts => if (ts.map List.length).sum + ts.length * ([] : List Char).length ≤ szL then some (R.ok (.str (joinC [] ts)), hb) else none
      | none => none) = _
    rw [tDs_sg]
    dsimp only
    rw [if_pos (by rw [sum1]; simpa using h), joinC0]
  rw [e, wp_some]
theorem cut_from {α : Type} {xs : List α} {k : Nat} (h : k ≤ xs.length) : cutL xs (some (k : Int)) none = xs.drop k := by
  unfold cutL
  have e1 : HT.sIx xs.length 0 (some (k : Int)) = k := by
    show (if (k : Int) < 0 then ((k : Int) + (xs.length : Int)).toNat else min (k : Int).toNat xs.length) = _
    rw [if_neg (by omega)]
    simp only [Int.toNat_natCast]; omega
  have e2 : HT.sIx xs.length xs.length none = xs.length := rfl
  rw [e1, e2, List.take_of_length_le (by rw [List.length_drop]; omega)]
end
theorem getD_sg {f : Char → D} {a : Char} : ∀ {ls : List Char}, a ∈ ls → getD (ls.map sg) (ls.map f) (sg a) = some (f a)
  | c :: ls, h => by
    show (if kEq (sg c) (sg a) then some (f c) else getD (ls.map sg) (ls.map f) (sg a)) = _
    by_cases e : c = a
    · subst e
      rw [if_pos (by show decide ([c] = [c]) = true; simp)]
    · rw [if_neg (by show ¬ decide ([c] = [a]) = true; simp [e])]
      exact getD_sg (by rcases List.mem_cons.mp h with q | q; exact absurd q.symm e; exact q)
theorem keys_sg (ls : List Char) : (ls.map sg).all D.isKey = true := by
  rw [List.all_map]; exact List.all_eq_true.mpr fun _ _ => rfl
theorem enumD_at {xs done ds : List D} {d : D} (h : done ++ d :: ds = enumD xs) : ∃ hl : done.length < xs.length, d = .tup [.int (done.length : Nat), xs[done.length]] := by
  have e : (enumD xs)[done.length]? = some d := by rw [← h]; simp
  unfold enumD at e
  rw [List.getElem?_map, List.getElem?_zipIdx] at e
  cases q : xs[done.length]? with
  | none => rw [q] at e; simp at e
  | some z =>
    rw [q] at e
    obtain ⟨hl, hz⟩ := List.getElem?_eq_some_iff.mp q
    refine ⟨hl, ?_⟩
    simp at e
    rw [hz]
    exact e.symm
theorem map_at {α : Type} {g : α → D} {xs : List α} {done ds : List D} {d : D} (h : done ++ d :: ds = xs.map g) : ∃ hl : done.length < xs.length, d = g xs[done.length] := by
  have e : (xs.map g)[done.length]? = some d := by rw [← h]; simp
  rw [List.getElem?_map] at e
  cases q : xs[done.length]? with
  | none => rw [q] at e; simp at e
  | some z =>
    rw [q] at e
    obtain ⟨hl, hz⟩ := List.getElem?_eq_some_iff.mp q
    refine ⟨hl, ?_⟩
    simp at e
    rw [hz]
    exact e.symm
/-! ### is_ascending, is_pair -/
theorem asc_next {ls : List Char} (h : ls.Pairwise fun a b => a.toNat < b.toNat) : ∀ p ∈ ls.zip (ls.drop 1), p.1.toNat < p.2.toNat := fun p hp => by
  obtain ⟨i, hi, e⟩ := List.mem_iff_getElem.mp hp
  rw [List.length_zip, List.length_drop] at hi
  rw [List.getElem_zip] at e
  subst e
  rw [List.getElem_drop]
  exact List.pairwise_iff_getElem.mp h _ _ (by omega) (by omega) (by omega)
theorem zip_sg : ∀ as bs : List Char, zipD (as.map sg) (bs.map sg) = (as.zip bs).map fun p => .tup [sg p.1, sg p.2]
  | [], _ => by unfold zipD; simp
  | _ :: _, [] => by unfold zipD; simp
  | a :: as, b :: bs => by
    have := zip_sg as bs
    unfold zipD at this ⊢
    simp only [List.map_cons, List.zipWith_cons_cons, List.zip_cons_cons, this]
theorem asc_wp {ls : List Char} {hb : HB} {Q : R → HB → Prop} (hA : Asc ls) (hq : Q (.ok (.bl true)) hb) : wp (ev_is_ascending [.str ls] hb) Q := by
  unfold ev_is_ascending sv_is_ascending
  rw [wpF]
  show wp (sRet _ [.sh (.str ls), .un, .un, .un] hb) _
  have hz := szL_big
  have h7 := hA.n7
  have hs : ls.length ≤ szL := by omega
  simp -implicitDefEqProofs only [wpF, wpS_seq, wpS_if, wpS_set, wpS_put, wpS_ret, wpS_nil, wpS_drop, wpS_own, wpS_fz, wpS_bx, wpS_asg, wpS_multi, wpM_nil, wpM_v, wpM_o, wpE_op2, wpE_v, wpE_c, wpE_eL, wpEs_cons, wpEs_nil, wpE_callN, wpE_callR, wpE_tup, wpE_lst, wpE_and, wpE_or, wpE_not, wpE_if, wpE_fz, wpE_bx, wpE_bind, wpE_isN, wpE_chain, wpE_cut, wpO_none, wpO_some, wpC_lst, wpC_call, wpC_lrg, wpI_val, wpI_rng1, wpI_rng2, wpI_enum, wpI_zip, wpC_lc, wpC_lc2, wpC_dc, wpS_for, wpA_args, wpC_make, wpS_bm, wpE_bm, wpE_meth, wpE_methR, wpC_meth, wpC_callC, wp_some, onOk, onL, List.getElem?_cons_succ, List.getElem?_cons_zero, List.set_cons_succ, List.set_cons_zero, allVal_cons, allVal_nil, isV_s, isV_i, isV_b, isV_n, isV_t, isV_l, isV_f, isV_d, isV_x, isV_c, isV_r, isV_y, List.length_cons, List.length_nil, Nat.zero_add, Nat.reduceAdd, beq_self_eq_true, Bool.and_true, Bool.true_and, Bool.and_self, decide_true, decide_false, if_true, Bool.not_true, Bool.not_false, dec0, dec1, dec2, dec3, dec4, rtD_s, rtD_i, rtD_b, rtD_n, rtD_t, rtD_l, rtD_x, isN_n, isN_t, isN_s, isN_i, O_dl, O_dd, O_di, v_addI, v_sub, v_intI, v_ordI, v_ordS, v_lenL, v_lenT, v_min2S, v_max2S, v_min2I, v_max2I, v_cutT, v_cutL, v_eqI, v_neI, v_eqS, v_neS, v_eqB, v_neB, v_cint, v_inCh, bne_self_eq_false, Bool.false_bne, Bool.true_bne, Bool.bne_false, Bool.bne_true, stT, stAll, stMI, wipeF, Option.map_some, Option.map_none, wpO_s, wpO_n]
  refine wp_lcM (g := sg) (fun _ => true) (fun _ => .bl true) ls [] (fun a ha => ⟨_, rfl, by rw [wpE_c]; exact ⟨rfl, rfl⟩, fun _ => ⟨?_, rfl⟩⟩) (by simp only [List.length_nil]; omega) ?_
  · simp -implicitDefEqProofs only [wpF, wpS_seq, wpS_if, wpS_set, wpS_put, wpS_ret, wpS_nil, wpS_drop, wpS_own, wpS_fz, wpS_bx, wpS_asg, wpS_multi, wpM_nil, wpM_v, wpM_o, wpE_op2, wpE_v, wpE_c, wpE_eL, wpEs_cons, wpEs_nil, wpE_callN, wpE_callR, wpE_tup, wpE_lst, wpE_and, wpE_or, wpE_not, wpE_if, wpE_fz, wpE_bx, wpE_bind, wpE_isN, wpE_chain, wpE_cut, wpO_none, wpO_some, wpC_lst, wpC_call, wpC_lrg, wpI_val, wpI_rng1, wpI_rng2, wpI_enum, wpI_zip, wpC_lc, wpC_lc2, wpC_dc, wpS_for, wpA_args, wpC_make, wpS_bm, wpE_bm, wpE_meth, wpE_methR, wpC_meth, wpC_callC, wp_some, onOk, onL, List.getElem?_cons_succ, List.getElem?_cons_zero, List.set_cons_succ, List.set_cons_zero, allVal_cons, allVal_nil, isV_s, isV_i, isV_b, isV_n, isV_t, isV_l, isV_f, isV_d, isV_x, isV_c, isV_r, isV_y, List.length_cons, List.length_nil, Nat.zero_add, Nat.reduceAdd, beq_self_eq_true, Bool.and_true, Bool.true_and, Bool.and_self, decide_true, decide_false, if_true, Bool.not_true, Bool.not_false, dec0, dec1, dec2, dec3, dec4, rtD_s, rtD_i, rtD_b, rtD_n, rtD_t, rtD_l, rtD_x, isN_n, isN_t, isN_s, isN_i, O_dl, O_dd, O_di, v_addI, v_sub, v_intI, v_ordI, v_ordS, v_lenL, v_lenT, v_min2S, v_max2S, v_min2I, v_max2I, v_cutT, v_cutL, v_eqI, v_neI, v_eqS, v_neS, v_eqB, v_neB, v_cint, v_inCh, bne_self_eq_false, Bool.false_bne, Bool.true_bne, Bool.bne_false, Bool.bne_true, stT, stAll, stMI, wipeF, Option.map_some, Option.map_none, wpO_s, wpO_n]
    have : decide (a ∈ small) = true := decide_eq_true (hA.low a ha)
    rw [this]
    exact ⟨rfl, trivial⟩
  show wp (gAll false [.lst _] _ hb) _
  rw [gAll_true (n := 0) (fun d hd => by simp only [List.nil_append, List.mem_map] at hd; obtain ⟨_, _, rfl⟩ := hd; rfl)]
  simp -implicitDefEqProofs only [wpF, wpS_seq, wpS_if, wpS_set, wpS_put, wpS_ret, wpS_nil, wpS_drop, wpS_own, wpS_fz, wpS_bx, wpS_asg, wpS_multi, wpM_nil, wpM_v, wpM_o, wpE_op2, wpE_v, wpE_c, wpE_eL, wpEs_cons, wpEs_nil, wpE_callN, wpE_callR, wpE_tup, wpE_lst, wpE_and, wpE_or, wpE_not, wpE_if, wpE_fz, wpE_bx, wpE_bind, wpE_isN, wpE_chain, wpE_cut, wpO_none, wpO_some, wpC_lst, wpC_call, wpC_lrg, wpI_val, wpI_rng1, wpI_rng2, wpI_enum, wpI_zip, wpC_lc, wpC_lc2, wpC_dc, wpS_for, wpA_args, wpC_make, wpS_bm, wpE_bm, wpE_meth, wpE_methR, wpC_meth, wpC_callC, wp_some, onOk, onL, List.getElem?_cons_succ, List.getElem?_cons_zero, List.set_cons_succ, List.set_cons_zero, allVal_cons, allVal_nil, isV_s, isV_i, isV_b, isV_n, isV_t, isV_l, isV_f, isV_d, isV_x, isV_c, isV_r, isV_y, List.length_cons, List.length_nil, Nat.zero_add, Nat.reduceAdd, beq_self_eq_true, Bool.and_true, Bool.true_and, Bool.and_self, decide_true, decide_false, if_true, Bool.not_true, Bool.not_false, dec0, dec1, dec2, dec3, dec4, rtD_s, rtD_i, rtD_b, rtD_n, rtD_t, rtD_l, rtD_x, isN_n, isN_t, isN_s, isN_i, O_dl, O_dd, O_di, v_addI, v_sub, v_intI, v_ordI, v_ordS, v_lenL, v_lenT, v_min2S, v_max2S, v_min2I, v_max2I, v_cutT, v_cutL, v_eqI, v_neI, v_eqS, v_neS, v_eqB, v_neB, v_cint, v_inCh, bne_self_eq_false, Bool.false_bne, Bool.true_bne, Bool.bne_false, Bool.bne_true, stT, stAll, stMI, wipeF, Option.map_some, Option.map_none, wpO_s, wpO_n, v_cutS, hs, cut_from (show 1 ≤ ls.length by have := hA.n2; omega), show (1 : Int) = ((1 : Nat) : Int) by rfl, srD]
  have ez : zipD (ls.map fun ch => D.str [ch]) ((ls.drop 1).map fun ch => D.str [ch]) = (ls.zip (ls.drop 1)).map fun p => .tup [sg p.1, sg p.2] := zip_sg _ _
  rw [ez]
  refine wp_lcM (g := fun p : Char × Char => .tup [sg p.1, sg p.2]) (fun _ => true) (fun _ => .bl true) (ls.zip (ls.drop 1)) [] (fun p hp => ⟨_, rfl, by rw [wpE_c]; exact ⟨rfl, rfl⟩, fun _ => ⟨?_, rfl⟩⟩) (by simp only [List.length_nil, List.length_zip]; omega) ?_
  · simp -implicitDefEqProofs only [wpF, wpS_seq, wpS_if, wpS_set, wpS_put, wpS_ret, wpS_nil, wpS_drop, wpS_own, wpS_fz, wpS_bx, wpS_asg, wpS_multi, wpM_nil, wpM_v, wpM_o, wpE_op2, wpE_v, wpE_c, wpE_eL, wpEs_cons, wpEs_nil, wpE_callN, wpE_callR, wpE_tup, wpE_lst, wpE_and, wpE_or, wpE_not, wpE_if, wpE_fz, wpE_bx, wpE_bind, wpE_isN, wpE_chain, wpE_cut, wpO_none, wpO_some, wpC_lst, wpC_call, wpC_lrg, wpI_val, wpI_rng1, wpI_rng2, wpI_enum, wpI_zip, wpC_lc, wpC_lc2, wpC_dc, wpS_for, wpA_args, wpC_make, wpS_bm, wpE_bm, wpE_meth, wpE_methR, wpC_meth, wpC_callC, wp_some, onOk, onL, List.getElem?_cons_succ, List.getElem?_cons_zero, List.set_cons_succ, List.set_cons_zero, allVal_cons, allVal_nil, isV_s, isV_i, isV_b, isV_n, isV_t, isV_l, isV_f, isV_d, isV_x, isV_c, isV_r, isV_y, List.length_cons, List.length_nil, Nat.zero_add, Nat.reduceAdd, beq_self_eq_true, Bool.and_true, Bool.true_and, Bool.and_self, decide_true, decide_false, if_true, Bool.not_true, Bool.not_false, dec0, dec1, dec2, dec3, dec4, rtD_s, rtD_i, rtD_b, rtD_n, rtD_t, rtD_l, rtD_x, isN_n, isN_t, isN_s, isN_i, O_dl, O_dd, O_di, v_addI, v_sub, v_intI, v_ordI, v_ordS, v_lenL, v_lenT, v_min2S, v_max2S, v_min2I, v_max2I, v_cutT, v_cutL, v_eqI, v_neI, v_eqS, v_neS, v_eqB, v_neB, v_cint, v_inCh, bne_self_eq_false, Bool.false_bne, Bool.true_bne, Bool.bne_false, Bool.bne_true, stT, stAll, stMI, wipeF, Option.map_some, Option.map_none, wpO_s, wpO_n, Ord4.s, ltC1, asc_next hA.asc p hp]
    exact ⟨trivial, trivial⟩
  show wp (gAll false [.lst _] _ hb) _
  rw [gAll_true (n := 0) (fun d hd => by simp only [List.nil_append, List.mem_map] at hd; obtain ⟨_, _, rfl⟩ := hd; rfl)]
  exact hq
def isPair (s : List Char) (ls : List Char) : Bool := match s with
  | [a, b] => decide (a ∈ ls) && (decide (b ∈ ls) && !decide (a = b))
  | _ => false
theorem pair_wp {s ls : List Char} {hb : HB} {Q : R → HB → Prop} (h1 : s.length ≤ szL) (hq : Q (.ok (.bl (isPair s ls))) hb) : wp (ev_is_pair [.str s, .str ls] hb) Q := by
  unfold ev_is_pair sv_is_pair
  rw [wpF]
  show wp (sRet _ [.sh (.str s), .sh (.str ls)] hb) _
  simp -implicitDefEqProofs only [wpF, wpS_seq, wpS_if, wpS_set, wpS_put, wpS_ret, wpS_nil, wpS_drop, wpS_own, wpS_fz, wpS_bx, wpS_asg, wpS_multi, wpM_nil, wpM_v, wpM_o, wpE_op2, wpE_v, wpE_c, wpE_eL, wpEs_cons, wpEs_nil, wpE_callN, wpE_callR, wpE_tup, wpE_lst, wpE_and, wpE_or, wpE_not, wpE_if, wpE_fz, wpE_bx, wpE_bind, wpE_isN, wpE_chain, wpE_cut, wpO_none, wpO_some, wpC_lst, wpC_call, wpC_lrg, wpI_val, wpI_rng1, wpI_rng2, wpI_enum, wpI_zip, wpC_lc, wpC_lc2, wpC_dc, wpS_for, wpA_args, wpC_make, wpS_bm, wpE_bm, wpE_meth, wpE_methR, wpC_meth, wpC_callC, wp_some, onOk, onL, List.getElem?_cons_succ, List.getElem?_cons_zero, List.set_cons_succ, List.set_cons_zero, allVal_cons, allVal_nil, isV_s, isV_i, isV_b, isV_n, isV_t, isV_l, isV_f, isV_d, isV_x, isV_c, isV_r, isV_y, List.length_cons, List.length_nil, Nat.zero_add, Nat.reduceAdd, beq_self_eq_true, Bool.and_true, Bool.true_and, Bool.and_self, decide_true, decide_false, if_true, Bool.not_true, Bool.not_false, dec0, dec1, dec2, dec3, dec4, rtD_s, rtD_i, rtD_b, rtD_n, rtD_t, rtD_l, rtD_x, isN_n, isN_t, isN_s, isN_i, O_dl, O_dd, O_di, v_addI, v_sub, v_intI, v_ordI, v_ordS, v_lenL, v_lenT, v_min2S, v_max2S, v_min2I, v_max2I, v_cutT, v_cutL, v_eqI, v_neI, v_eqS, v_neS, v_eqB, v_neB, v_cint, v_inCh, bne_self_eq_false, Bool.false_bne, Bool.true_bne, Bool.bne_false, Bool.bne_true, stT, stAll, stMI, wipeF, Option.map_some, Option.map_none, wpO_s, wpO_n, v_lenS, h1]
  by_cases h2 : ((s.length : Nat) : Int) = 2
  · simp -implicitDefEqProofs only [h2, decide_true]
    rcases s with _ | ⟨a, _ | ⟨b, _ | ⟨c, s⟩⟩⟩
    · simp at h2
    · simp at h2
    · have i0 : ∀ {fr : Fr} {hb : HB} {Q : R → HB → Prop}, wp (gIxD (.str [a, b]) (.int 0) fr hb) Q = Q (.ok (sg a)) hb := fun {fr hb Q} => by rw [v_ixS, if_pos h1]; rfl
      have i1 : ∀ {fr : Fr} {hb : HB} {Q : R → HB → Prop}, wp (gIxD (.str [a, b]) (.int 1) fr hb) Q = Q (.ok (sg b)) hb := fun {fr hb Q} => by rw [v_ixS, if_pos h1]; rfl
      simp -implicitDefEqProofs only [wpF, wpS_seq, wpS_if, wpS_set, wpS_put, wpS_ret, wpS_nil, wpS_drop, wpS_own, wpS_fz, wpS_bx, wpS_asg, wpS_multi, wpM_nil, wpM_v, wpM_o, wpE_op2, wpE_v, wpE_c, wpE_eL, wpEs_cons, wpEs_nil, wpE_callN, wpE_callR, wpE_tup, wpE_lst, wpE_and, wpE_or, wpE_not, wpE_if, wpE_fz, wpE_bx, wpE_bind, wpE_isN, wpE_chain, wpE_cut, wpO_none, wpO_some, wpC_lst, wpC_call, wpC_lrg, wpI_val, wpI_rng1, wpI_rng2, wpI_enum, wpI_zip, wpC_lc, wpC_lc2, wpC_dc, wpS_for, wpA_args, wpC_make, wpS_bm, wpE_bm, wpE_meth, wpE_methR, wpC_meth, wpC_callC, wp_some, onOk, onL, List.getElem?_cons_succ, List.getElem?_cons_zero, List.set_cons_succ, List.set_cons_zero, allVal_cons, allVal_nil, isV_s, isV_i, isV_b, isV_n, isV_t, isV_l, isV_f, isV_d, isV_x, isV_c, isV_r, isV_y, List.length_cons, List.length_nil, Nat.zero_add, Nat.reduceAdd, beq_self_eq_true, Bool.and_true, Bool.true_and, Bool.and_self, decide_true, decide_false, if_true, Bool.not_true, Bool.not_false, dec0, dec1, dec2, dec3, dec4, rtD_s, rtD_i, rtD_b, rtD_n, rtD_t, rtD_l, rtD_x, isN_n, isN_t, isN_s, isN_i, O_dl, O_dd, O_di, v_addI, v_sub, v_intI, v_ordI, v_ordS, v_lenL, v_lenT, v_min2S, v_max2S, v_min2I, v_max2I, v_cutT, v_cutL, v_eqI, v_neI, v_eqS, v_neS, v_eqB, v_neB, v_cint, v_inCh, bne_self_eq_false, Bool.false_bne, Bool.true_bne, Bool.bne_false, Bool.bne_true, stT, stAll, stMI, wipeF, Option.map_some, Option.map_none, wpO_s, wpO_n, i0, i1]
      unfold isPair at hq
      by_cases q0 : a ∈ ls
      · simp -implicitDefEqProofs only [wpF, wpS_seq, wpS_if, wpS_set, wpS_put, wpS_ret, wpS_nil, wpS_drop, wpS_own, wpS_fz, wpS_bx, wpS_asg, wpS_multi, wpM_nil, wpM_v, wpM_o, wpE_op2, wpE_v, wpE_c, wpE_eL, wpEs_cons, wpEs_nil, wpE_callN, wpE_callR, wpE_tup, wpE_lst, wpE_and, wpE_or, wpE_not, wpE_if, wpE_fz, wpE_bx, wpE_bind, wpE_isN, wpE_chain, wpE_cut, wpO_none, wpO_some, wpC_lst, wpC_call, wpC_lrg, wpI_val, wpI_rng1, wpI_rng2, wpI_enum, wpI_zip, wpC_lc, wpC_lc2, wpC_dc, wpS_for, wpA_args, wpC_make, wpS_bm, wpE_bm, wpE_meth, wpE_methR, wpC_meth, wpC_callC, wp_some, onOk, onL, List.getElem?_cons_succ, List.getElem?_cons_zero, List.set_cons_succ, List.set_cons_zero, allVal_cons, allVal_nil, isV_s, isV_i, isV_b, isV_n, isV_t, isV_l, isV_f, isV_d, isV_x, isV_c, isV_r, isV_y, List.length_cons, List.length_nil, Nat.zero_add, Nat.reduceAdd, beq_self_eq_true, Bool.and_true, Bool.true_and, Bool.and_self, decide_true, decide_false, if_true, Bool.not_true, Bool.not_false, dec0, dec1, dec2, dec3, dec4, rtD_s, rtD_i, rtD_b, rtD_n, rtD_t, rtD_l, rtD_x, isN_n, isN_t, isN_s, isN_i, O_dl, O_dd, O_di, v_addI, v_sub, v_intI, v_ordI, v_ordS, v_lenL, v_lenT, v_min2S, v_max2S, v_min2I, v_max2I, v_cutT, v_cutL, v_eqI, v_neI, v_eqS, v_neS, v_eqB, v_neB, v_cint, v_inCh, bne_self_eq_false, Bool.false_bne, Bool.true_bne, Bool.bne_false, Bool.bne_true, stT, stAll, stMI, wipeF, Option.map_some, Option.map_none, wpO_s, wpO_n, q0] at hq ⊢
        by_cases q1 : b ∈ ls
        · simp -implicitDefEqProofs only [wpF, wpS_seq, wpS_if, wpS_set, wpS_put, wpS_ret, wpS_nil, wpS_drop, wpS_own, wpS_fz, wpS_bx, wpS_asg, wpS_multi, wpM_nil, wpM_v, wpM_o, wpE_op2, wpE_v, wpE_c, wpE_eL, wpEs_cons, wpEs_nil, wpE_callN, wpE_callR, wpE_tup, wpE_lst, wpE_and, wpE_or, wpE_not, wpE_if, wpE_fz, wpE_bx, wpE_bind, wpE_isN, wpE_chain, wpE_cut, wpO_none, wpO_some, wpC_lst, wpC_call, wpC_lrg, wpI_val, wpI_rng1, wpI_rng2, wpI_enum, wpI_zip, wpC_lc, wpC_lc2, wpC_dc, wpS_for, wpA_args, wpC_make, wpS_bm, wpE_bm, wpE_meth, wpE_methR, wpC_meth, wpC_callC, wp_some, onOk, onL, List.getElem?_cons_succ, List.getElem?_cons_zero, List.set_cons_succ, List.set_cons_zero, allVal_cons, allVal_nil, isV_s, isV_i, isV_b, isV_n, isV_t, isV_l, isV_f, isV_d, isV_x, isV_c, isV_r, isV_y, List.length_cons, List.length_nil, Nat.zero_add, Nat.reduceAdd, beq_self_eq_true, Bool.and_true, Bool.true_and, Bool.and_self, decide_true, decide_false, if_true, Bool.not_true, Bool.not_false, dec0, dec1, dec2, dec3, dec4, rtD_s, rtD_i, rtD_b, rtD_n, rtD_t, rtD_l, rtD_x, isN_n, isN_t, isN_s, isN_i, O_dl, O_dd, O_di, v_addI, v_sub, v_intI, v_ordI, v_ordS, v_lenL, v_lenT, v_min2S, v_max2S, v_min2I, v_max2I, v_cutT, v_cutL, v_eqI, v_neI, v_eqS, v_neS, v_eqB, v_neB, v_cint, v_inCh, bne_self_eq_false, Bool.false_bne, Bool.true_bne, Bool.bne_false, Bool.bne_true, stT, stAll, stMI, wipeF, Option.map_some, Option.map_none, wpO_s, wpO_n, q1, i0, i1] at hq ⊢
          have e : decide ([a] = [b]) = decide (a = b) := by simp
          rw [e]; exact hq
        · simp -implicitDefEqProofs only [wpF, wpS_seq, wpS_if, wpS_set, wpS_put, wpS_ret, wpS_nil, wpS_drop, wpS_own, wpS_fz, wpS_bx, wpS_asg, wpS_multi, wpM_nil, wpM_v, wpM_o, wpE_op2, wpE_v, wpE_c, wpE_eL, wpEs_cons, wpEs_nil, wpE_callN, wpE_callR, wpE_tup, wpE_lst, wpE_and, wpE_or, wpE_not, wpE_if, wpE_fz, wpE_bx, wpE_bind, wpE_isN, wpE_chain, wpE_cut, wpO_none, wpO_some, wpC_lst, wpC_call, wpC_lrg, wpI_val, wpI_rng1, wpI_rng2, wpI_enum, wpI_zip, wpC_lc, wpC_lc2, wpC_dc, wpS_for, wpA_args, wpC_make, wpS_bm, wpE_bm, wpE_meth, wpE_methR, wpC_meth, wpC_callC, wp_some, onOk, onL, List.getElem?_cons_succ, List.getElem?_cons_zero, List.set_cons_succ, List.set_cons_zero, allVal_cons, allVal_nil, isV_s, isV_i, isV_b, isV_n, isV_t, isV_l, isV_f, isV_d, isV_x, isV_c, isV_r, isV_y, List.length_cons, List.length_nil, Nat.zero_add, Nat.reduceAdd, beq_self_eq_true, Bool.and_true, Bool.true_and, Bool.and_self, decide_true, decide_false, if_true, Bool.not_true, Bool.not_false, dec0, dec1, dec2, dec3, dec4, rtD_s, rtD_i, rtD_b, rtD_n, rtD_t, rtD_l, rtD_x, isN_n, isN_t, isN_s, isN_i, O_dl, O_dd, O_di, v_addI, v_sub, v_intI, v_ordI, v_ordS, v_lenL, v_lenT, v_min2S, v_max2S, v_min2I, v_max2I, v_cutT, v_cutL, v_eqI, v_neI, v_eqS, v_neS, v_eqB, v_neB, v_cint, v_inCh, bne_self_eq_false, Bool.false_bne, Bool.true_bne, Bool.bne_false, Bool.bne_true, stT, stAll, stMI, wipeF, Option.map_some, Option.map_none, wpO_s, wpO_n, q1, Bool.false_and] at hq ⊢
          exact hq
      · simp -implicitDefEqProofs only [wpF, wpS_seq, wpS_if, wpS_set, wpS_put, wpS_ret, wpS_nil, wpS_drop, wpS_own, wpS_fz, wpS_bx, wpS_asg, wpS_multi, wpM_nil, wpM_v, wpM_o, wpE_op2, wpE_v, wpE_c, wpE_eL, wpEs_cons, wpEs_nil, wpE_callN, wpE_callR, wpE_tup, wpE_lst, wpE_and, wpE_or, wpE_not, wpE_if, wpE_fz, wpE_bx, wpE_bind, wpE_isN, wpE_chain, wpE_cut, wpO_none, wpO_some, wpC_lst, wpC_call, wpC_lrg, wpI_val, wpI_rng1, wpI_rng2, wpI_enum, wpI_zip, wpC_lc, wpC_lc2, wpC_dc, wpS_for, wpA_args, wpC_make, wpS_bm, wpE_bm, wpE_meth, wpE_methR, wpC_meth, wpC_callC, wp_some, onOk, onL, List.getElem?_cons_succ, List.getElem?_cons_zero, List.set_cons_succ, List.set_cons_zero, allVal_cons, allVal_nil, isV_s, isV_i, isV_b, isV_n, isV_t, isV_l, isV_f, isV_d, isV_x, isV_c, isV_r, isV_y, List.length_cons, List.length_nil, Nat.zero_add, Nat.reduceAdd, beq_self_eq_true, Bool.and_true, Bool.true_and, Bool.and_self, decide_true, decide_false, if_true, Bool.not_true, Bool.not_false, dec0, dec1, dec2, dec3, dec4, rtD_s, rtD_i, rtD_b, rtD_n, rtD_t, rtD_l, rtD_x, isN_n, isN_t, isN_s, isN_i, O_dl, O_dd, O_di, v_addI, v_sub, v_intI, v_ordI, v_ordS, v_lenL, v_lenT, v_min2S, v_max2S, v_min2I, v_max2I, v_cutT, v_cutL, v_eqI, v_neI, v_eqS, v_neS, v_eqB, v_neB, v_cint, v_inCh, bne_self_eq_false, Bool.false_bne, Bool.true_bne, Bool.bne_false, Bool.bne_true, stT, stAll, stMI, wipeF, Option.map_some, Option.map_none, wpO_s, wpO_n, q0, Bool.false_and] at hq ⊢
        exact hq
    · simp at h2; omega
  · simp -implicitDefEqProofs only [h2, decide_false]
    have : isPair s ls = false := by
      rcases s with _ | ⟨a, _ | ⟨b, _ | ⟨c, s⟩⟩⟩
      · rfl
      · rfl
      · simp at h2
      · rfl
    rw [this] at hq
    exact hq
/-! ### first_square -/
def nb (ls : List Char) (ps : List (List Char)) (a : Char) : List Char := ls.filter (J ps a)
def jn (ls : List Char) (ps : List (List Char)) : D := .dct (ls.map sg) (ls.map fun a => .str (nb ls ps a))
theorem v_jn {ls : List Char} {ps : List (List Char)} {a : Char} (h : a ∈ ls) {fr : Fr} {hb : HB} {Q : R → HB → Prop} : wp (gIxD (jn ls ps) (sg a) fr hb) Q = Q (.ok (.str (nb ls ps a))) hb := by
  unfold jn
  rw [v_ixD rfl (keys_sg ls) (by simp), getD_sg h]; rfl
theorem nb_len (ls : List Char) (ps : List (List Char)) (a : Char) : (nb ls ps a).length ≤ ls.length := List.length_filter_le _ _
theorem fsq_wp {ls : List Char} {ps : List (List Char)} {hb : HB} {Q : R → HB → Prop} (hl : ls.length ≤ 1000) (hN : NoSq ls ps) (hq : Q (.ok .non) hb) : wp (ev_first_square [.str ls, jn ls ps] hb) Q := by
  unfold ev_first_square sv_first_square
  rw [wpF]
  show wp (sSeq _ _ [.sh (.str ls), .sh (jn ls ps), .un, .un, .un, .un] hb) _
  have hz := szL_big
  have hls : ls.length ≤ szL := by omega
  refine wp_seq (fun f h => h = hb) ?_ ?_
  · simp -implicitDefEqProofs only [wpF, wpS_seq, wpS_if, wpS_set, wpS_put, wpS_ret, wpS_nil, wpS_drop, wpS_own, wpS_fz, wpS_bx, wpS_asg, wpS_multi, wpM_nil, wpM_v, wpM_o, wpE_op2, wpE_v, wpE_c, wpE_eL, wpEs_cons, wpEs_nil, wpE_callN, wpE_callR, wpE_tup, wpE_lst, wpE_and, wpE_or, wpE_not, wpE_if, wpE_fz, wpE_bx, wpE_bind, wpE_isN, wpE_chain, wpE_cut, wpO_none, wpO_some, wpC_lst, wpC_call, wpC_lrg, wpI_val, wpI_rng1, wpI_rng2, wpI_enum, wpI_zip, wpC_lc, wpC_lc2, wpC_dc, wpS_for, wpA_args, wpC_make, wpS_bm, wpE_bm, wpE_meth, wpE_methR, wpC_meth, wpC_callC, wp_some, onOk, onL, List.getElem?_cons_succ, List.getElem?_cons_zero, List.set_cons_succ, List.set_cons_zero, allVal_cons, allVal_nil, isV_s, isV_i, isV_b, isV_n, isV_t, isV_l, isV_f, isV_d, isV_x, isV_c, isV_r, isV_y, List.length_cons, List.length_nil, Nat.zero_add, Nat.reduceAdd, beq_self_eq_true, Bool.and_true, Bool.true_and, Bool.and_self, decide_true, decide_false, if_true, Bool.not_true, Bool.not_false, dec0, dec1, dec2, dec3, dec4, rtD_s, rtD_i, rtD_b, rtD_n, rtD_t, rtD_l, rtD_x, isN_n, isN_t, isN_s, isN_i, O_dl, O_dd, O_di, v_addI, v_sub, v_intI, v_ordI, v_ordS, v_lenL, v_lenT, v_min2S, v_max2S, v_min2I, v_max2I, v_cutT, v_cutL, v_eqI, v_neI, v_eqS, v_neS, v_eqB, v_neB, v_cint, v_inCh, bne_self_eq_false, Bool.false_bne, Bool.true_bne, Bool.bne_false, Bool.bne_true, stT, stAll, stMI, wipeF, Option.map_some, Option.map_none, wpO_s, wpO_n, srD]
    refine wp_for (fun done rest f h => done ++ rest = enumD (ls.map sg) ∧ h = hb ∧ ∃ s2 s3 s4 s5, f = [.sh (.str ls), .sh (jn ls ps), s2, s3, s4, s5]) [] _ _ _ ⟨rfl, rfl, _, _, _, _, rfl⟩ ?_ ?_
    · rintro done d rest f h ⟨hr, rfl, s2, s3, s4, s5, rfl⟩
      obtain ⟨hi, rfl⟩ := enumD_at hr
      rw [List.length_map] at hi
      rw [List.getElem_map] at hr ⊢
      refine ⟨_, rfl, ?_⟩
      simp -implicitDefEqProofs only [wpF, wpS_seq, wpS_if, wpS_set, wpS_put, wpS_ret, wpS_nil, wpS_drop, wpS_own, wpS_fz, wpS_bx, wpS_asg, wpS_multi, wpM_nil, wpM_v, wpM_o, wpE_op2, wpE_v, wpE_c, wpE_eL, wpEs_cons, wpEs_nil, wpE_callN, wpE_callR, wpE_tup, wpE_lst, wpE_and, wpE_or, wpE_not, wpE_if, wpE_fz, wpE_bx, wpE_bind, wpE_isN, wpE_chain, wpE_cut, wpO_none, wpO_some, wpC_lst, wpC_call, wpC_lrg, wpI_val, wpI_rng1, wpI_rng2, wpI_enum, wpI_zip, wpC_lc, wpC_lc2, wpC_dc, wpS_for, wpA_args, wpC_make, wpS_bm, wpE_bm, wpE_meth, wpE_methR, wpC_meth, wpC_callC, wp_some, onOk, onL, List.getElem?_cons_succ, List.getElem?_cons_zero, List.set_cons_succ, List.set_cons_zero, allVal_cons, allVal_nil, isV_s, isV_i, isV_b, isV_n, isV_t, isV_l, isV_f, isV_d, isV_x, isV_c, isV_r, isV_y, List.length_cons, List.length_nil, Nat.zero_add, Nat.reduceAdd, beq_self_eq_true, Bool.and_true, Bool.true_and, Bool.and_self, decide_true, decide_false, if_true, Bool.not_true, Bool.not_false, dec0, dec1, dec2, dec3, dec4, rtD_s, rtD_i, rtD_b, rtD_n, rtD_t, rtD_l, rtD_x, isN_n, isN_t, isN_s, isN_i, O_dl, O_dd, O_di, v_addI, v_sub, v_intI, v_ordI, v_ordS, v_lenL, v_lenT, v_min2S, v_max2S, v_min2I, v_max2I, v_cutT, v_cutL, v_eqI, v_neI, v_eqS, v_neS, v_eqB, v_neB, v_cint, v_inCh, bne_self_eq_false, Bool.false_bne, Bool.true_bne, Bool.bne_false, Bool.bne_true, stT, stAll, stMI, wipeF, Option.map_some, Option.map_none, wpO_s, wpO_n, v_cutS, hls, show ((done.length : Int) + 1) = ((done.length + 1 : Nat) : Int) by omega, cut_from (show done.length + 1 ≤ ls.length by omega)]
      refine wp_for (fun done2 rest2 f h2 => done2 ++ rest2 = (ls.drop (done.length + 1)).map sg ∧ h2 = h ∧ ∃ s4 s5, f = [.sh (.str ls), .sh (jn ls ps), .sh (.int (done.length : Nat)), .sh (sg ls[done.length]), s4, s5]) [] _ _ _ ⟨rfl, rfl, _, _, rfl⟩ ?_ ?_
      · rintro done2 d rest2 f h2 ⟨hr2, rfl, s4, s5, rfl⟩
        obtain ⟨hj, rfl⟩ := map_at hr2
        rw [List.length_drop] at hj
        rw [List.getElem_drop] at hr2 ⊢
        refine ⟨_, rfl, ?_⟩
        have hm1 : ls[done.length] ∈ ls := List.getElem_mem hi
        have hm2 : ls[done.length + 1 + done2.length] ∈ ls := List.getElem_mem (by omega)
        simp -implicitDefEqProofs only [wpF, wpS_seq, wpS_if, wpS_set, wpS_put, wpS_ret, wpS_nil, wpS_drop, wpS_own, wpS_fz, wpS_bx, wpS_asg, wpS_multi, wpM_nil, wpM_v, wpM_o, wpE_op2, wpE_v, wpE_c, wpE_eL, wpEs_cons, wpEs_nil, wpE_callN, wpE_callR, wpE_tup, wpE_lst, wpE_and, wpE_or, wpE_not, wpE_if, wpE_fz, wpE_bx, wpE_bind, wpE_isN, wpE_chain, wpE_cut, wpO_none, wpO_some, wpC_lst, wpC_call, wpC_lrg, wpI_val, wpI_rng1, wpI_rng2, wpI_enum, wpI_zip, wpC_lc, wpC_lc2, wpC_dc, wpS_for, wpA_args, wpC_make, wpS_bm, wpE_bm, wpE_meth, wpE_methR, wpC_meth, wpC_callC, wp_some, onOk, onL, List.getElem?_cons_succ, List.getElem?_cons_zero, List.set_cons_succ, List.set_cons_zero, allVal_cons, allVal_nil, isV_s, isV_i, isV_b, isV_n, isV_t, isV_l, isV_f, isV_d, isV_x, isV_c, isV_r, isV_y, List.length_cons, List.length_nil, Nat.zero_add, Nat.reduceAdd, beq_self_eq_true, Bool.and_true, Bool.true_and, Bool.and_self, decide_true, decide_false, if_true, Bool.not_true, Bool.not_false, dec0, dec1, dec2, dec3, dec4, rtD_s, rtD_i, rtD_b, rtD_n, rtD_t, rtD_l, rtD_x, isN_n, isN_t, isN_s, isN_i, O_dl, O_dd, O_di, v_addI, v_sub, v_intI, v_ordI, v_ordS, v_lenL, v_lenT, v_min2S, v_max2S, v_min2I, v_max2I, v_cutT, v_cutL, v_eqI, v_neI, v_eqS, v_neS, v_eqB, v_neB, v_cint, v_inCh, bne_self_eq_false, Bool.false_bne, Bool.true_bne, Bool.bne_false, Bool.bne_true, stT, stAll, stMI, wipeF, Option.map_some, Option.map_none, wpO_s, wpO_n, v_jn hm1]
        refine wp_lcM (g := sg) (fun c => decide (c ∈ nb ls ps ls[done.length + 1 + done2.length])) sg (nb ls ps ls[done.length]) [] (fun c hc => ⟨_, rfl, ?_, fun _ => ⟨?_, rfl⟩⟩) (by have := nb_len ls ps ls[done.length]; simp only [List.length_nil]; omega) ?_
        · simp -implicitDefEqProofs only [wpF, wpS_seq, wpS_if, wpS_set, wpS_put, wpS_ret, wpS_nil, wpS_drop, wpS_own, wpS_fz, wpS_bx, wpS_asg, wpS_multi, wpM_nil, wpM_v, wpM_o, wpE_op2, wpE_v, wpE_c, wpE_eL, wpEs_cons, wpEs_nil, wpE_callN, wpE_callR, wpE_tup, wpE_lst, wpE_and, wpE_or, wpE_not, wpE_if, wpE_fz, wpE_bx, wpE_bind, wpE_isN, wpE_chain, wpE_cut, wpO_none, wpO_some, wpC_lst, wpC_call, wpC_lrg, wpI_val, wpI_rng1, wpI_rng2, wpI_enum, wpI_zip, wpC_lc, wpC_lc2, wpC_dc, wpS_for, wpA_args, wpC_make, wpS_bm, wpE_bm, wpE_meth, wpE_methR, wpC_meth, wpC_callC, wp_some, onOk, onL, List.getElem?_cons_succ, List.getElem?_cons_zero, List.set_cons_succ, List.set_cons_zero, allVal_cons, allVal_nil, isV_s, isV_i, isV_b, isV_n, isV_t, isV_l, isV_f, isV_d, isV_x, isV_c, isV_r, isV_y, List.length_cons, List.length_nil, Nat.zero_add, Nat.reduceAdd, beq_self_eq_true, Bool.and_true, Bool.true_and, Bool.and_self, decide_true, decide_false, if_true, Bool.not_true, Bool.not_false, dec0, dec1, dec2, dec3, dec4, rtD_s, rtD_i, rtD_b, rtD_n, rtD_t, rtD_l, rtD_x, isN_n, isN_t, isN_s, isN_i, O_dl, O_dd, O_di, v_addI, v_sub, v_intI, v_ordI, v_ordS, v_lenL, v_lenT, v_min2S, v_max2S, v_min2I, v_max2I, v_cutT, v_cutL, v_eqI, v_neI, v_eqS, v_neS, v_eqB, v_neB, v_cint, v_inCh, bne_self_eq_false, Bool.false_bne, Bool.true_bne, Bool.bne_false, Bool.bne_true, stT, stAll, stMI, wipeF, Option.map_some, Option.map_none, wpO_s, wpO_n, v_jn hm2]
          exact ⟨trivial, trivial⟩
        · simp -implicitDefEqProofs only [wpF, wpS_seq, wpS_if, wpS_set, wpS_put, wpS_ret, wpS_nil, wpS_drop, wpS_own, wpS_fz, wpS_bx, wpS_asg, wpS_multi, wpM_nil, wpM_v, wpM_o, wpE_op2, wpE_v, wpE_c, wpE_eL, wpEs_cons, wpEs_nil, wpE_callN, wpE_callR, wpE_tup, wpE_lst, wpE_and, wpE_or, wpE_not, wpE_if, wpE_fz, wpE_bx, wpE_bind, wpE_isN, wpE_chain, wpE_cut, wpO_none, wpO_some, wpC_lst, wpC_call, wpC_lrg, wpI_val, wpI_rng1, wpI_rng2, wpI_enum, wpI_zip, wpC_lc, wpC_lc2, wpC_dc, wpS_for, wpA_args, wpC_make, wpS_bm, wpE_bm, wpE_meth, wpE_methR, wpC_meth, wpC_callC, wp_some, onOk, onL, List.getElem?_cons_succ, List.getElem?_cons_zero, List.set_cons_succ, List.set_cons_zero, allVal_cons, allVal_nil, isV_s, isV_i, isV_b, isV_n, isV_t, isV_l, isV_f, isV_d, isV_x, isV_c, isV_r, isV_y, List.length_cons, List.length_nil, Nat.zero_add, Nat.reduceAdd, beq_self_eq_true, Bool.and_true, Bool.true_and, Bool.and_self, decide_true, decide_false, if_true, Bool.not_true, Bool.not_false, dec0, dec1, dec2, dec3, dec4, rtD_s, rtD_i, rtD_b, rtD_n, rtD_t, rtD_l, rtD_x, isN_n, isN_t, isN_s, isN_i, O_dl, O_dd, O_di, v_addI, v_sub, v_intI, v_ordI, v_ordS, v_lenL, v_lenT, v_min2S, v_max2S, v_min2I, v_max2I, v_cutT, v_cutL, v_eqI, v_neI, v_eqS, v_neS, v_eqB, v_neB, v_cint, v_inCh, bne_self_eq_false, Bool.false_bne, Bool.true_bne, Bool.bne_false, Bool.bne_true, stT, stAll, stMI, wipeF, Option.map_some, Option.map_none, wpO_s, wpO_n]
          exact ⟨trivial, trivial⟩
        simp -implicitDefEqProofs only [wpF, wpS_seq, wpS_if, wpS_set, wpS_put, wpS_ret, wpS_nil, wpS_drop, wpS_own, wpS_fz, wpS_bx, wpS_asg, wpS_multi, wpM_nil, wpM_v, wpM_o, wpE_op2, wpE_v, wpE_c, wpE_eL, wpEs_cons, wpEs_nil, wpE_callN, wpE_callR, wpE_tup, wpE_lst, wpE_and, wpE_or, wpE_not, wpE_if, wpE_fz, wpE_bx, wpE_bind, wpE_isN, wpE_chain, wpE_cut, wpO_none, wpO_some, wpC_lst, wpC_call, wpC_lrg, wpI_val, wpI_rng1, wpI_rng2, wpI_enum, wpI_zip, wpC_lc, wpC_lc2, wpC_dc, wpS_for, wpA_args, wpC_make, wpS_bm, wpE_bm, wpE_meth, wpE_methR, wpC_meth, wpC_callC, wp_some, onOk, onL, List.getElem?_cons_succ, List.getElem?_cons_zero, List.set_cons_succ, List.set_cons_zero, allVal_cons, allVal_nil, isV_s, isV_i, isV_b, isV_n, isV_t, isV_l, isV_f, isV_d, isV_x, isV_c, isV_r, isV_y, List.length_cons, List.length_nil, Nat.zero_add, Nat.reduceAdd, beq_self_eq_true, Bool.and_true, Bool.true_and, Bool.and_self, decide_true, decide_false, if_true, Bool.not_true, Bool.not_false, dec0, dec1, dec2, dec3, dec4, rtD_s, rtD_i, rtD_b, rtD_n, rtD_t, rtD_l, rtD_x, isN_n, isN_t, isN_s, isN_i, O_dl, O_dd, O_di, v_addI, v_sub, v_intI, v_ordI, v_ordS, v_lenL, v_lenT, v_min2S, v_max2S, v_min2I, v_max2I, v_cutT, v_cutL, v_eqI, v_neI, v_eqS, v_neS, v_eqB, v_neB, v_cint, v_inCh, bne_self_eq_false, Bool.false_bne, Bool.true_bne, Bool.bne_false, Bool.bne_true, stT, stAll, stMI, wipeF, Option.map_some, Option.map_none, wpO_s, wpO_n, List.nil_append, List.length_map, Ord4.i]
        have hc := hN done.length (done.length + 1 + done2.length) (by omega) (by omega)
        have ef : (nb ls ps ls[done.length]).filter (fun c => decide (c ∈ nb ls ps ls[done.length + 1 + done2.length])) = com ls ps ls[done.length] ls[done.length + 1 + done2.length] := by
          unfold com nb
          refine List.filter_congr fun c hc => ?_
          have hcl := (List.mem_filter.mp hc).1
          simp [List.mem_filter, hcl]
        rw [ef]
        have h1 : ¬ (1 : Int) < ((com ls ps ls[done.length] ls[done.length + 1 + done2.length]).length : Nat) := by omega
        simp -implicitDefEqProofs only [wpF, wpS_seq, wpS_if, wpS_set, wpS_put, wpS_ret, wpS_nil, wpS_drop, wpS_own, wpS_fz, wpS_bx, wpS_asg, wpS_multi, wpM_nil, wpM_v, wpM_o, wpE_op2, wpE_v, wpE_c, wpE_eL, wpEs_cons, wpEs_nil, wpE_callN, wpE_callR, wpE_tup, wpE_lst, wpE_and, wpE_or, wpE_not, wpE_if, wpE_fz, wpE_bx, wpE_bind, wpE_isN, wpE_chain, wpE_cut, wpO_none, wpO_some, wpC_lst, wpC_call, wpC_lrg, wpI_val, wpI_rng1, wpI_rng2, wpI_enum, wpI_zip, wpC_lc, wpC_lc2, wpC_dc, wpS_for, wpA_args, wpC_make, wpS_bm, wpE_bm, wpE_meth, wpE_methR, wpC_meth, wpC_callC, wp_some, onOk, onL, List.getElem?_cons_succ, List.getElem?_cons_zero, List.set_cons_succ, List.set_cons_zero, allVal_cons, allVal_nil, isV_s, isV_i, isV_b, isV_n, isV_t, isV_l, isV_f, isV_d, isV_x, isV_c, isV_r, isV_y, List.length_cons, List.length_nil, Nat.zero_add, Nat.reduceAdd, beq_self_eq_true, Bool.and_true, Bool.true_and, Bool.and_self, decide_true, decide_false, if_true, Bool.not_true, Bool.not_false, dec0, dec1, dec2, dec3, dec4, rtD_s, rtD_i, rtD_b, rtD_n, rtD_t, rtD_l, rtD_x, isN_n, isN_t, isN_s, isN_i, O_dl, O_dd, O_di, v_addI, v_sub, v_intI, v_ordI, v_ordS, v_lenL, v_lenT, v_min2S, v_max2S, v_min2I, v_max2I, v_cutT, v_cutL, v_eqI, v_neI, v_eqS, v_neS, v_eqB, v_neB, v_cint, v_inCh, bne_self_eq_false, Bool.false_bne, Bool.true_bne, Bool.bne_false, Bool.bne_true, stT, stAll, stMI, wipeF, Option.map_some, Option.map_none, wpO_s, wpO_n, h1]
        exact ⟨by rw [List.append_assoc]; exact hr2, trivial, _, _, rfl⟩
      · rintro done2 f h2 ⟨hr2, rfl, s4, s5, rfl⟩
        exact ⟨by rw [List.append_assoc]; exact hr, rfl, _, _, _, _, rfl⟩
    · rintro done f h ⟨hr, rfl, _⟩
      rfl
  · rintro f h rfl
    simp -implicitDefEqProofs only [wpF, wpS_seq, wpS_if, wpS_set, wpS_put, wpS_ret, wpS_nil, wpS_drop, wpS_own, wpS_fz, wpS_bx, wpS_asg, wpS_multi, wpM_nil, wpM_v, wpM_o, wpE_op2, wpE_v, wpE_c, wpE_eL, wpEs_cons, wpEs_nil, wpE_callN, wpE_callR, wpE_tup, wpE_lst, wpE_and, wpE_or, wpE_not, wpE_if, wpE_fz, wpE_bx, wpE_bind, wpE_isN, wpE_chain, wpE_cut, wpO_none, wpO_some, wpC_lst, wpC_call, wpC_lrg, wpI_val, wpI_rng1, wpI_rng2, wpI_enum, wpI_zip, wpC_lc, wpC_lc2, wpC_dc, wpS_for, wpA_args, wpC_make, wpS_bm, wpE_bm, wpE_meth, wpE_methR, wpC_meth, wpC_callC, wp_some, onOk, onL, List.getElem?_cons_succ, List.getElem?_cons_zero, List.set_cons_succ, List.set_cons_zero, allVal_cons, allVal_nil, isV_s, isV_i, isV_b, isV_n, isV_t, isV_l, isV_f, isV_d, isV_x, isV_c, isV_r, isV_y, List.length_cons, List.length_nil, Nat.zero_add, Nat.reduceAdd, beq_self_eq_true, Bool.and_true, Bool.true_and, Bool.and_self, decide_true, decide_false, if_true, Bool.not_true, Bool.not_false, dec0, dec1, dec2, dec3, dec4, rtD_s, rtD_i, rtD_b, rtD_n, rtD_t, rtD_l, rtD_x, isN_n, isN_t, isN_s, isN_i, O_dl, O_dd, O_di, v_addI, v_sub, v_intI, v_ordI, v_ordS, v_lenL, v_lenT, v_min2S, v_max2S, v_min2I, v_max2I, v_cutT, v_cutL, v_eqI, v_neI, v_eqS, v_neS, v_eqB, v_neB, v_cint, v_inCh, bne_self_eq_false, Bool.false_bne, Bool.true_bne, Bool.bne_false, Bool.bne_true, stT, stAll, stMI, wipeF, Option.map_some, Option.map_none, wpO_s, wpO_n]
    exact hq
end Lw
set_option Elab.async false
set_option linter.all false
set_option maxRecDepth 100000
set_option maxHeartbeats 2000000
/-! tables made -/
namespace Lw
open PySem DI
theorem dec1000 {n : Nat} : decide (0 < 1000) = true := rfl
/-- a sequence of texts, as it is handed over -/
def SeqB (hb : HB) (pd : D) (hs : List (List Char)) : Prop := pd = .lst (hs.map .str) ∨ pd = .tup (hs.map .str) ∨ ∃ k, pd = .box k ∧ hb[k]? = some (.lst (hs.map .str))
theorem SeqB.val {hb : HB} {pd : D} {hs : List (List Char)} (h : SeqB hb pd hs) : pd.isVal = true := by
  rcases h with rfl | rfl | ⟨k, rfl, _⟩ <;> rfl
def inB (hs : List (List Char)) (p : List Char) : Bool := decide (p ∈ hs)
theorem inB_t {hs : List (List Char)} {p : List Char} : inB hs p = true ↔ p ∈ hs := decide_eq_true_iff
theorem inSeq {hb : HB} {pd : D} {hs : List (List Char)} {p : List Char} {fr : Fr} {Q : R → HB → Prop} (h : SeqB hb pd hs) : wp (gInD false (.str p) pd fr hb) Q = Q (.ok (.bl (inB hs p))) hb := by
  have e : ∀ i : Decidable (p ∈ hs), @decide _ i = inB hs p := fun i => decide_eq_decide.mpr Iff.rfl
  rcases h with rfl | rfl | ⟨k, rfl, hk⟩
  · rw [v_inL datS (datStrs hs), anyEq_map (f := D.str) (fun _ _ => deqS), Bool.false_bne, e]
  · rw [v_inT datS (datStrs hs), anyEq_map (f := D.str) (fun _ _ => deqS), Bool.false_bne, e]
  · rw [v_inB hk datS (datStrs hs), anyEq_map (f := D.str) (fun _ _ => deqS), Bool.false_bne, e]
theorem enum_for {hb : HB} {pd : D} {hs : List (List Char)} {fr : Fr} {b : Sv} {QS : SR → HB → Prop} (h : SeqB hb pd hs) (hfr : fr[2]? = some (.sh pd)) (I : Fr → Prop) (h0 : I fr)
    (hst : ∀ (i : Nat) p f, p ∈ hs → I f → wp (b ((f.set 4 (.sh (.int (i : Nat)))).set 5 (.sh (.str p))) hb) (fun r h => match r with
      | .nx f2 => I f2 ∧ h = hb
      | _ => False)) (hq : ∀ f, I f → QS (.nx f) hb) : wp (sFor (iEnumD (eCons (eV 2) eNil)) (.tp [4, 5]) b fr hb) QS := by
  have viaL : ∀ ds : List D, ds = hs.map .str → wp (sForL (.tp [4, 5]) b (enumD ds) fr hb) QS := by
    rintro ds rfl
    refine wp_for (fun done rest f h => done ++ rest = enumD (hs.map D.str) ∧ h = hb ∧ I f) [] _ _ _ ⟨rfl, rfl, h0⟩ ?_ ?_
    · rintro done d rest f h ⟨hr, rfl, hI⟩
      obtain ⟨hi, rfl⟩ := enumD_at hr
      rw [List.length_map] at hi
      refine ⟨_, rfl, ?_⟩
      have z := hst done.length hs[done.length] f (List.getElem_mem hi) hI
      rw [List.getElem_map] at hr ⊢
      refine wp_mono z fun r h2 q => ?_
      cases r <;> first | exact q.elim | skip
      exact ⟨by rw [List.append_assoc]; exact hr, q.2, q.1⟩
    · rintro done f h ⟨hr, rfl, hI⟩
      exact hq f hI
  rcases h with rfl | rfl | ⟨k, rfl, hk⟩
  · simp -implicitDefEqProofs only [wpS_for, wpI_enum, wpEs_cons, wpEs_nil, wpE_v, hfr, srD]
    exact viaL _ rfl
  · simp -implicitDefEqProofs only [wpS_for, wpI_enum, wpEs_cons, wpEs_nil, wpE_v, hfr, srD]
    exact viaL _ rfl
  · simp -implicitDefEqProofs only [wpS_for, wpI_enum, wpEs_cons, wpEs_nil, wpE_v, hfr, hk]
    refine wp_forB (n := k) (en := true) (xs := hs.map D.str) (fun done rest f h => h = hb ∧ I f) (fun _ _ _ h q => by rw [q.1]; exact hk) [] _ _ _ rfl ⟨rfl, h0⟩ ?_ ?_
    · rintro done d rest f h hr ⟨rfl, hI⟩
      obtain ⟨hi, rfl⟩ := map_at hr.symm
      refine ⟨_, rfl, ?_⟩
      have z := hst done.length hs[done.length] f (List.getElem_mem hi) hI
      refine wp_mono z fun r h2 q => ?_
      cases r <;> first | exact q.elim | skip
      exact ⟨q.2, q.1⟩
    · rintro done f h ⟨rfl, hI⟩
      exact hq f hI
/-- a dict comprehension over different signs -/
theorem wp_dcM {t : Tg} {c ek el : Ev} {fr : Fr} {hb : HB} (f : Char → D) : ∀ (as pre : List Char) (vs : List D), (pre ++ as).Nodup → pre.length = vs.length → (∀ a ∈ as, ∃ fr1, stT t (sg a) fr = some fr1 ∧ wp (c fr1 hb) (fun r h => r = .ok (.bl true) ∧ h = hb) ∧ wp (ek fr1 hb) (fun r h => r = .ok (sg a) ∧ h = hb) ∧ wp (el fr1 hb) (fun r h => r = .ok (f a) ∧ h = hb) ∧ (f a).isVal = true) → (pre ++ as).length ≤ 1000 →
    dcL t c ek el (as.map sg) (pre.map sg) vs fr hb = some ((pre ++ as).map sg, vs ++ as.map f, hb)
  | [], pre, vs, _, _, _, _ => by simp [dcL]
  | a :: as, pre, vs, hn, hl, h, hz => by
    obtain ⟨fr1, h1, h2, h3, h4, h5⟩ := h a List.mem_cons_self
    rw [wp_eq] at h2 h3 h4
    rw [List.map_cons]
    unfold dcL
    rw [h1]
    dsimp only
    rw [h2]
    dsimp only
    rw [h3]
    dsimp only
    have k1 : (sg a).isKey = true := rfl
    rw [k1, if_pos rfl, h4]
    dsimp only
    have hs := szL_big
    rw [List.length_append, List.length_cons] at hz
    have k2 : decide ((pre.map sg).length < szL) = true := decide_eq_true (by rw [List.length_map]; omega)
    rw [h5, k2]
    simp only [Bool.and_self, if_true]
    have na : a ∉ pre := fun hm => by
      rw [List.nodup_append] at hn
      exact hn.2.2 a hm a List.mem_cons_self rfl
    have kn : (pre.map sg).any (kEq · (sg a)) = false := by
      rw [List.any_map, List.any_eq_false]
      intro x hx
      show ¬ decide ([x] = [a]) = true
      simp only [decide_eq_true_eq]
      intro e
      injection e with e _
      exact na (e ▸ hx)
    have ep : putD (pre.map sg) vs (sg a) (f a) = ((pre ++ [a]).map sg, vs ++ [f a]) := by
      unfold putD
      rw [kn]
      simp
    rw [ep]
    have := wp_dcM f as (pre ++ [a]) (vs ++ [f a]) (by rw [List.append_assoc]; exact hn) (by simp [hl]) (fun x hx => h x (List.mem_cons_of_mem _ hx)) (by simp only [List.length_append, List.length_cons, List.length_nil] at hz ⊢; omega)
    dsimp only
    rw [this]
    simp
theorem asc_nd {ls : List Char} (h : ls.Pairwise fun a b => a.toNat < b.toNat) : ls.Nodup := by
  rw [List.nodup_iff_pairwise_ne]
  exact h.imp fun {a b} k e => by rw [e] at k; omega
/-- what a table holds -/
def tblO (ls : List Char) (ps : List (List Char)) : O := .ins "Table" ["signs", "joined"] [.str ls, jn ls ps]
def tbl (ls : List Char) (ps : List (List Char)) : D := .ins "Table" ["signs", "joined"] [.str ls, jn ls ps]
theorem init_wp {ls : List Char} {ps hs : List (List Char)} {pd : D} {hb : HB} {QO : O ⊕ Xn → HB → Prop} (hA : Asc ls) (hN : NoSq ls ps) (h : SeqB hb pd hs) (hp : ∀ p ∈ hs, isPair p ls = true) (hps : ∀ p ∈ hs, p.length ≤ 10)
    (hJ : ∀ a ∈ ls, ∀ b ∈ ls, ([a, b] ∈ hs ∨ [b, a] ∈ hs) ↔ J ps a b = true) (hq : QO (.inl (tblO ls ps)) hb) : wp (ev_Table___init__ [.str ls, pd] hb) QO := by
  unfold ev_Table___init__ sv_Table___init__
  rw [wpI]
  show wp (sSeq _ _ [.ow (.ins "Table" [] []), .sh (.str ls), .sh pd, .un, .un, .un, .un, .un] hb) _
  have hz := szL_big
  have h7 := hA.n7
  have h2 := hA.n2
  have hls : ls.length ≤ szL := by omega
  refine wp_seq (fun f h => f = [.ow (.ins "Table" [] []), .sh (.str ls), .sh pd, .un, .un, .un, .un, .un] ∧ hb = h) ?_ ?_
  · simp -implicitDefEqProofs only [wpF, wpS_seq, wpS_if, wpS_set, wpS_put, wpS_ret, wpS_nil, wpS_drop, wpS_own, wpS_fz, wpS_bx, wpS_asg, wpS_multi, wpM_nil, wpM_v, wpM_o, wpE_op2, wpE_v, wpE_c, wpE_eL, wpEs_cons, wpEs_nil, wpE_callN, wpE_callR, wpE_tup, wpE_lst, wpE_and, wpE_or, wpE_not, wpE_if, wpE_fz, wpE_bx, wpE_bind, wpE_isN, wpE_chain, wpE_cut, wpO_none, wpO_some, wpC_lst, wpC_call, wpC_lrg, wpI_val, wpI_rng1, wpI_rng2, wpI_enum, wpI_zip, wpC_lc, wpC_lc2, wpC_dc, wpS_for, wpA_args, wpC_make, wpS_bm, wpE_bm, wpE_meth, wpE_methR, wpC_meth, wpC_callC, wp_some, onOk, onL, List.getElem?_cons_succ, List.getElem?_cons_zero, List.set_cons_succ, List.set_cons_zero, allVal_cons, allVal_nil, isV_s, isV_i, isV_b, isV_n, isV_t, isV_l, isV_f, isV_d, isV_x, isV_c, isV_r, isV_y, List.length_cons, List.length_nil, Nat.zero_add, Nat.reduceAdd, beq_self_eq_true, Bool.and_true, Bool.true_and, Bool.and_self, decide_true, decide_false, if_true, Bool.not_true, Bool.not_false, dec0, dec1, dec2, dec3, dec4, rtD_s, rtD_i, rtD_b, rtD_n, rtD_t, rtD_l, rtD_x, isN_n, isN_t, isN_s, isN_i, O_dl, O_dd, O_di, v_addI, v_sub, v_intI, v_ordI, v_ordS, v_lenL, v_lenT, v_min2S, v_max2S, v_min2I, v_max2I, v_cutT, v_cutL, v_eqI, v_neI, v_eqS, v_neS, v_eqB, v_neB, v_cint, v_inCh, bne_self_eq_false, Bool.false_bne, Bool.true_bne, Bool.bne_false, Bool.bne_true, stT, stAll, stMI, wipeF, Option.map_some, Option.map_none, wpO_s, wpO_n, v_lenS, hls, Ord4.i, show ((2 : Int) ≤ (ls.length : Int)) from by omega, show ((ls.length : Int) ≤ 7) from by omega]
    refine asc_wp hA ?_
    simp -implicitDefEqProofs only [wpF, wpS_seq, wpS_if, wpS_set, wpS_put, wpS_ret, wpS_nil, wpS_drop, wpS_own, wpS_fz, wpS_bx, wpS_asg, wpS_multi, wpM_nil, wpM_v, wpM_o, wpE_op2, wpE_v, wpE_c, wpE_eL, wpEs_cons, wpEs_nil, wpE_callN, wpE_callR, wpE_tup, wpE_lst, wpE_and, wpE_or, wpE_not, wpE_if, wpE_fz, wpE_bx, wpE_bind, wpE_isN, wpE_chain, wpE_cut, wpO_none, wpO_some, wpC_lst, wpC_call, wpC_lrg, wpI_val, wpI_rng1, wpI_rng2, wpI_enum, wpI_zip, wpC_lc, wpC_lc2, wpC_dc, wpS_for, wpA_args, wpC_make, wpS_bm, wpE_bm, wpE_meth, wpE_methR, wpC_meth, wpC_callC, wp_some, onOk, onL, List.getElem?_cons_succ, List.getElem?_cons_zero, List.set_cons_succ, List.set_cons_zero, allVal_cons, allVal_nil, isV_s, isV_i, isV_b, isV_n, isV_t, isV_l, isV_f, isV_d, isV_x, isV_c, isV_r, isV_y, List.length_cons, List.length_nil, Nat.zero_add, Nat.reduceAdd, beq_self_eq_true, Bool.and_true, Bool.true_and, Bool.and_self, decide_true, decide_false, if_true, Bool.not_true, Bool.not_false, dec0, dec1, dec2, dec3, dec4, rtD_s, rtD_i, rtD_b, rtD_n, rtD_t, rtD_l, rtD_x, isN_n, isN_t, isN_s, isN_i, O_dl, O_dd, O_di, v_addI, v_sub, v_intI, v_ordI, v_ordS, v_lenL, v_lenT, v_min2S, v_max2S, v_min2I, v_max2I, v_cutT, v_cutL, v_eqI, v_neI, v_eqS, v_neS, v_eqB, v_neB, v_cint, v_inCh, bne_self_eq_false, Bool.false_bne, Bool.true_bne, Bool.bne_false, Bool.bne_true, stT, stAll, stMI, wipeF, Option.map_some, Option.map_none, wpO_s, wpO_n]
    exact ⟨trivial, trivial⟩
  rintro f _ ⟨rfl, rfl⟩
  refine wp_seq (fun f h' => (∃ s4 s5, f = [.ow (.ins "Table" [] []), .sh (.str ls), .sh pd, .un, s4, s5, .un, .un]) ∧ hb = h') ?_ ?_
  · refine enum_for h rfl (fun f => ∃ s4 s5, f = [.ow (.ins "Table" [] []), .sh (.str ls), .sh pd, .un, s4, s5, .un, .un]) ⟨_, _, rfl⟩ ?_ fun f hf => ⟨hf, rfl⟩
    rintro i p f hm ⟨s4, s5, rfl⟩
    simp -implicitDefEqProofs only [wpF, wpS_seq, wpS_if, wpS_set, wpS_put, wpS_ret, wpS_nil, wpS_drop, wpS_own, wpS_fz, wpS_bx, wpS_asg, wpS_multi, wpM_nil, wpM_v, wpM_o, wpE_op2, wpE_v, wpE_c, wpE_eL, wpEs_cons, wpEs_nil, wpE_callN, wpE_callR, wpE_tup, wpE_lst, wpE_and, wpE_or, wpE_not, wpE_if, wpE_fz, wpE_bx, wpE_bind, wpE_isN, wpE_chain, wpE_cut, wpO_none, wpO_some, wpC_lst, wpC_call, wpC_lrg, wpI_val, wpI_rng1, wpI_rng2, wpI_enum, wpI_zip, wpC_lc, wpC_lc2, wpC_dc, wpS_for, wpA_args, wpC_make, wpS_bm, wpE_bm, wpE_meth, wpE_methR, wpC_meth, wpC_callC, wp_some, onOk, onL, List.getElem?_cons_succ, List.getElem?_cons_zero, List.set_cons_succ, List.set_cons_zero, allVal_cons, allVal_nil, isV_s, isV_i, isV_b, isV_n, isV_t, isV_l, isV_f, isV_d, isV_x, isV_c, isV_r, isV_y, List.length_cons, List.length_nil, Nat.zero_add, Nat.reduceAdd, beq_self_eq_true, Bool.and_true, Bool.true_and, Bool.and_self, decide_true, decide_false, if_true, Bool.not_true, Bool.not_false, dec0, dec1, dec2, dec3, dec4, rtD_s, rtD_i, rtD_b, rtD_n, rtD_t, rtD_l, rtD_x, isN_n, isN_t, isN_s, isN_i, O_dl, O_dd, O_di, v_addI, v_sub, v_intI, v_ordI, v_ordS, v_lenL, v_lenT, v_min2S, v_max2S, v_min2I, v_max2I, v_cutT, v_cutL, v_eqI, v_neI, v_eqS, v_neS, v_eqB, v_neB, v_cint, v_inCh, bne_self_eq_false, Bool.false_bne, Bool.true_bne, Bool.bne_false, Bool.bne_true, stT, stAll, stMI, wipeF, Option.map_some, Option.map_none, wpO_s, wpO_n]
    refine pair_wp (by have := hps p hm; omega) ?_
    rw [hp p hm]
    simp -implicitDefEqProofs only [wpF, wpS_seq, wpS_if, wpS_set, wpS_put, wpS_ret, wpS_nil, wpS_drop, wpS_own, wpS_fz, wpS_bx, wpS_asg, wpS_multi, wpM_nil, wpM_v, wpM_o, wpE_op2, wpE_v, wpE_c, wpE_eL, wpEs_cons, wpEs_nil, wpE_callN, wpE_callR, wpE_tup, wpE_lst, wpE_and, wpE_or, wpE_not, wpE_if, wpE_fz, wpE_bx, wpE_bind, wpE_isN, wpE_chain, wpE_cut, wpO_none, wpO_some, wpC_lst, wpC_call, wpC_lrg, wpI_val, wpI_rng1, wpI_rng2, wpI_enum, wpI_zip, wpC_lc, wpC_lc2, wpC_dc, wpS_for, wpA_args, wpC_make, wpS_bm, wpE_bm, wpE_meth, wpE_methR, wpC_meth, wpC_callC, wp_some, onOk, onL, List.getElem?_cons_succ, List.getElem?_cons_zero, List.set_cons_succ, List.set_cons_zero, allVal_cons, allVal_nil, isV_s, isV_i, isV_b, isV_n, isV_t, isV_l, isV_f, isV_d, isV_x, isV_c, isV_r, isV_y, List.length_cons, List.length_nil, Nat.zero_add, Nat.reduceAdd, beq_self_eq_true, Bool.and_true, Bool.true_and, Bool.and_self, decide_true, decide_false, if_true, Bool.not_true, Bool.not_false, dec0, dec1, dec2, dec3, dec4, rtD_s, rtD_i, rtD_b, rtD_n, rtD_t, rtD_l, rtD_x, isN_n, isN_t, isN_s, isN_i, O_dl, O_dd, O_di, v_addI, v_sub, v_intI, v_ordI, v_ordS, v_lenL, v_lenT, v_min2S, v_max2S, v_min2I, v_max2I, v_cutT, v_cutL, v_eqI, v_neI, v_eqS, v_neS, v_eqB, v_neB, v_cint, v_inCh, bne_self_eq_false, Bool.false_bne, Bool.true_bne, Bool.bne_false, Bool.bne_true, stT, stAll, stMI, wipeF, Option.map_some, Option.map_none, wpO_s, wpO_n]
    exact ⟨⟨_, _, rfl⟩, trivial⟩
  rintro f _ ⟨⟨s4, s5, rfl⟩, rfl⟩
  refine wp_seq (fun f h' => f = [.ow (.ins "Table" ["signs"] [.str ls]), .sh (.str ls), .sh pd, .un, s4, s5, .un, .un] ∧ hb = h') ?_ ?_
  · simp -implicitDefEqProofs only [wpS_store, wpF, wpS_seq, wpS_if, wpS_set, wpS_put, wpS_ret, wpS_nil, wpS_drop, wpS_own, wpS_fz, wpS_bx, wpS_asg, wpS_multi, wpM_nil, wpM_v, wpM_o, wpE_op2, wpE_v, wpE_c, wpE_eL, wpEs_cons, wpEs_nil, wpE_callN, wpE_callR, wpE_tup, wpE_lst, wpE_and, wpE_or, wpE_not, wpE_if, wpE_fz, wpE_bx, wpE_bind, wpE_isN, wpE_chain, wpE_cut, wpO_none, wpO_some, wpC_lst, wpC_call, wpC_lrg, wpI_val, wpI_rng1, wpI_rng2, wpI_enum, wpI_zip, wpC_lc, wpC_lc2, wpC_dc, wpS_for, wpA_args, wpC_make, wpS_bm, wpE_bm, wpE_meth, wpE_methR, wpC_meth, wpC_callC, wp_some, onOk, onL, List.getElem?_cons_succ, List.getElem?_cons_zero, List.set_cons_succ, List.set_cons_zero, allVal_cons, allVal_nil, isV_s, isV_i, isV_b, isV_n, isV_t, isV_l, isV_f, isV_d, isV_x, isV_c, isV_r, isV_y, List.length_cons, List.length_nil, Nat.zero_add, Nat.reduceAdd, beq_self_eq_true, Bool.and_true, Bool.true_and, Bool.and_self, decide_true, decide_false, if_true, Bool.not_true, Bool.not_false, dec0, dec1, dec2, dec3, dec4, rtD_s, rtD_i, rtD_b, rtD_n, rtD_t, rtD_l, rtD_x, isN_n, isN_t, isN_s, isN_i, O_dl, O_dd, O_di, v_addI, v_sub, v_intI, v_ordI, v_ordS, v_lenL, v_lenT, v_min2S, v_max2S, v_min2I, v_max2I, v_cutT, v_cutL, v_eqI, v_neI, v_eqS, v_neS, v_eqB, v_neB, v_cint, v_inCh, bne_self_eq_false, Bool.false_bne, Bool.true_bne, Bool.bne_false, Bool.bne_true, stT, stAll, stMI, wipeF, Option.map_some, Option.map_none, wpO_s, wpO_n, rdO, List.contains_cons, Bool.true_or, dec1000, wrO, putFD]
    exact ⟨trivial, trivial⟩
  rintro f _ ⟨rfl, rfl⟩
  refine wp_seq (fun f h' => f = [.ow (tblO ls ps), .sh (.str ls), .sh pd, .un, s4, s5, .un, .un] ∧ hb = h') ?_ ?_
  · have key : ∀ fr : Fr, fr.length = 8 → fr[1]? = some (.sh (.str ls)) → fr[2]? = some (.sh pd) → dcL (.nm 6) (eC (.bl true)) (eV 6) (eMt "str" gJoin (eC (.str [])) (eCons (eFz (cLc (iVal (eV 1)) (.nm 7) [7] (eOr (eOp2 (gInD false) (eOp2 gAdd (eV 6) (eV 7)) (eV 2)) (eOp2 (gInD false) (eOp2 gAdd (eV 7) (eV 6)) (eV 2))) (eV 7))) eNil)) (ls.map sg) [] [] fr hb = some (ls.map sg, ls.map (fun a => .str (nb ls ps a)), hb) := by
      intro fr hf f1 f2
      have z := wp_dcM (t := .nm 6) (c := eC (.bl true)) (ek := eV 6) (el := eMt "str" gJoin (eC (.str [])) (eCons (eFz (cLc (iVal (eV 1)) (.nm 7) [7] (eOr (eOp2 (gInD false) (eOp2 gAdd (eV 6) (eV 7)) (eV 2)) (eOp2 (gInD false) (eOp2 gAdd (eV 7) (eV 6)) (eV 2))) (eV 7))) eNil)) (fr := fr) (hb := hb) (fun a => .str (nb ls ps a)) ls [] [] (by simpa using asc_nd hA.asc) rfl (fun a ha => ?_) (by simp; omega)
      · simpa using z
      have g6 : (fr.set 6 (.sh (sg a)))[6]? = some (.sh (sg a)) := by rw [List.getElem?_set]; simp [hf]
      have g1 : (fr.set 6 (.sh (sg a)))[1]? = some (.sh (.str ls)) := by rw [List.getElem?_set_ne (by omega)]; exact f1
      refine ⟨_, rfl, by rw [wpE_c]; exact ⟨rfl, rfl⟩, by rw [wpE_v, g6]; exact ⟨rfl, rfl⟩, ?_, rfl⟩
      simp -implicitDefEqProofs only [wpE_mt, isM, wpE_c, onOk, onL, show (("str" : String) == "str") = true from rfl, if_true, wpEs_cons, wpEs_nil, wpE_fz, wpC_lc, wpI_val, wpE_v, g1, wipeF]
      refine wp_lcM (g := sg) (J ps a) sg ls [] (fun b hbm => ⟨_, rfl, ?_, fun _ => ⟨?_, rfl⟩⟩) (by simp only [List.length_nil]; omega) ?_
      · have k6 : (((fr.set 6 (.sh (sg a))).set 7 .un).set 7 (.sh (sg b)))[6]? = some (.sh (sg a)) := by rw [List.getElem?_set_ne (by omega), List.getElem?_set_ne (by omega)]; exact g6
        have k7 : (((fr.set 6 (.sh (sg a))).set 7 .un).set 7 (.sh (sg b)))[7]? = some (.sh (sg b)) := by rw [List.getElem?_set]; simp [hf]
        have k2 : (((fr.set 6 (.sh (sg a))).set 7 .un).set 7 (.sh (sg b)))[2]? = some (.sh pd) := by rw [List.getElem?_set_ne (by omega), List.getElem?_set_ne (by omega), List.getElem?_set_ne (by omega)]; exact f2
        have ad : ∀ {x y : Char} {fr : Fr} {hb : HB} {Q : R → HB → Prop}, wp (gAdd (sg x) (sg y) fr hb) Q = Q (.ok (.str [x, y])) hb := fun {x y fr hb Q} => by rw [v_addS, if_pos (by simp only [List.length_cons, List.length_nil]; omega)]; rfl
        simp -implicitDefEqProofs only [wpE_or, wpE_op2, wpE_v, k6, k7, k2, onOk, ad, inSeq h]
        have hJab := hJ a ha b hbm
        rw [← inB_t, ← inB_t] at hJab
        cases q1 : inB hs [a, b] with
        | true =>
          have := hJab.mp (.inl q1)
          simp -implicitDefEqProofs only [this]
          exact ⟨trivial, trivial⟩
        | false =>
          simp -implicitDefEqProofs only []
          have : inB hs [b, a] = J ps a b := by
            rw [q1] at hJab
            cases q2 : inB hs [b, a] <;> cases q3 : J ps a b <;> simp [q2, q3] at hJab ⊢
          rw [this]
          exact ⟨rfl, trivial⟩
      · have k7 : (((fr.set 6 (.sh (sg a))).set 7 .un).set 7 (.sh (sg b)))[7]? = some (.sh (sg b)) := by rw [List.getElem?_set]; simp [hf]
        simp -implicitDefEqProofs only [wpE_v, k7]
        exact ⟨trivial, trivial⟩
      · simp -implicitDefEqProofs only [List.nil_append, O_dl]
        rw [v_joinE (by have := nb_len ls ps a; unfold nb at this; omega)]
        exact ⟨rfl, rfl⟩
    simp -implicitDefEqProofs only [wpS_store, wpF, wpS_seq, wpS_if, wpS_set, wpS_put, wpS_ret, wpS_nil, wpS_drop, wpS_own, wpS_fz, wpS_bx, wpS_asg, wpS_multi, wpM_nil, wpM_v, wpM_o, wpE_op2, wpE_v, wpE_c, wpE_eL, wpEs_cons, wpEs_nil, wpE_callN, wpE_callR, wpE_tup, wpE_lst, wpE_and, wpE_or, wpE_not, wpE_if, wpE_fz, wpE_bx, wpE_bind, wpE_isN, wpE_chain, wpE_cut, wpO_none, wpO_some, wpC_lst, wpC_call, wpC_lrg, wpI_val, wpI_rng1, wpI_rng2, wpI_enum, wpI_zip, wpC_lc, wpC_lc2, wpC_dc, wpS_for, wpA_args, wpC_make, wpS_bm, wpE_bm, wpE_meth, wpE_methR, wpC_meth, wpC_callC, wp_some, onOk, onL, List.getElem?_cons_succ, List.getElem?_cons_zero, List.set_cons_succ, List.set_cons_zero, allVal_cons, allVal_nil, isV_s, isV_i, isV_b, isV_n, isV_t, isV_l, isV_f, isV_d, isV_x, isV_c, isV_r, isV_y, List.length_cons, List.length_nil, Nat.zero_add, Nat.reduceAdd, beq_self_eq_true, Bool.and_true, Bool.true_and, Bool.and_self, decide_true, decide_false, if_true, Bool.not_true, Bool.not_false, dec0, dec1, dec2, dec3, dec4, rtD_s, rtD_i, rtD_b, rtD_n, rtD_t, rtD_l, rtD_x, isN_n, isN_t, isN_s, isN_i, O_dl, O_dd, O_di, v_addI, v_sub, v_intI, v_ordI, v_ordS, v_lenL, v_lenT, v_min2S, v_max2S, v_min2I, v_max2I, v_cutT, v_cutL, v_eqI, v_neI, v_eqS, v_neS, v_eqB, v_neB, v_cint, v_inCh, bne_self_eq_false, Bool.false_bne, Bool.true_bne, Bool.bne_false, Bool.bne_true, stT, stAll, stMI, wipeF, Option.map_some, Option.map_none, wpO_s, wpO_n, key, rdO, List.contains_cons, Bool.true_or, dec1000, wrO, putFD]
    rw [if_pos (by rfl)]
    exact ⟨by rfl, trivial⟩
  rintro f _ ⟨rfl, rfl⟩
  have fj : ∀ {hb : HB} {Q : R → HB → Prop}, wp (gFld ["Table"] "joined" (.loc 0) [.ow (tblO ls ps), .sh (.str ls), .sh pd, .un, s4, s5, .un, .un] hb) Q = Q (.ok (jn ls ps)) hb := fun {hb Q} => by
    rw [v_fldO (c := "Table") (fs := ["signs", "joined"]) (vs := [.str ls, jn ls ps]) rfl]
    rfl
  have jv : (jn ls ps).isVal = true := rfl
  simp -implicitDefEqProofs only [wpF, wpS_seq, wpS_if, wpS_set, wpS_put, wpS_ret, wpS_nil, wpS_drop, wpS_own, wpS_fz, wpS_bx, wpS_asg, wpS_multi, wpM_nil, wpM_v, wpM_o, wpE_op2, wpE_v, wpE_c, wpE_eL, wpEs_cons, wpEs_nil, wpE_callN, wpE_callR, wpE_tup, wpE_lst, wpE_and, wpE_or, wpE_not, wpE_if, wpE_fz, wpE_bx, wpE_bind, wpE_isN, wpE_chain, wpE_cut, wpO_none, wpO_some, wpC_lst, wpC_call, wpC_lrg, wpI_val, wpI_rng1, wpI_rng2, wpI_enum, wpI_zip, wpC_lc, wpC_lc2, wpC_dc, wpS_for, wpA_args, wpC_make, wpS_bm, wpE_bm, wpE_meth, wpE_methR, wpC_meth, wpC_callC, wp_some, onOk, onL, List.getElem?_cons_succ, List.getElem?_cons_zero, List.set_cons_succ, List.set_cons_zero, allVal_cons, allVal_nil, isV_s, isV_i, isV_b, isV_n, isV_t, isV_l, isV_f, isV_d, isV_x, isV_c, isV_r, isV_y, List.length_cons, List.length_nil, Nat.zero_add, Nat.reduceAdd, beq_self_eq_true, Bool.and_true, Bool.true_and, Bool.and_self, decide_true, decide_false, if_true, Bool.not_true, Bool.not_false, dec0, dec1, dec2, dec3, dec4, rtD_s, rtD_i, rtD_b, rtD_n, rtD_t, rtD_l, rtD_x, isN_n, isN_t, isN_s, isN_i, O_dl, O_dd, O_di, v_addI, v_sub, v_intI, v_ordI, v_ordS, v_lenL, v_lenT, v_min2S, v_max2S, v_min2I, v_max2I, v_cutT, v_cutL, v_eqI, v_neI, v_eqS, v_neS, v_eqB, v_neB, v_cint, v_inCh, bne_self_eq_false, Bool.false_bne, Bool.true_bne, Bool.bne_false, Bool.bne_true, stT, stAll, stMI, wipeF, Option.map_some, Option.map_none, wpO_s, wpO_n, fj, jv]
  refine fsq_wp (by omega) hN ?_
  simp -implicitDefEqProofs only [wpF, wpS_seq, wpS_if, wpS_set, wpS_put, wpS_ret, wpS_nil, wpS_drop, wpS_own, wpS_fz, wpS_bx, wpS_asg, wpS_multi, wpM_nil, wpM_v, wpM_o, wpE_op2, wpE_v, wpE_c, wpE_eL, wpEs_cons, wpEs_nil, wpE_callN, wpE_callR, wpE_tup, wpE_lst, wpE_and, wpE_or, wpE_not, wpE_if, wpE_fz, wpE_bx, wpE_bind, wpE_isN, wpE_chain, wpE_cut, wpO_none, wpO_some, wpC_lst, wpC_call, wpC_lrg, wpI_val, wpI_rng1, wpI_rng2, wpI_enum, wpI_zip, wpC_lc, wpC_lc2, wpC_dc, wpS_for, wpA_args, wpC_make, wpS_bm, wpE_bm, wpE_meth, wpE_methR, wpC_meth, wpC_callC, wp_some, onOk, onL, List.getElem?_cons_succ, List.getElem?_cons_zero, List.set_cons_succ, List.set_cons_zero, allVal_cons, allVal_nil, isV_s, isV_i, isV_b, isV_n, isV_t, isV_l, isV_f, isV_d, isV_x, isV_c, isV_r, isV_y, List.length_cons, List.length_nil, Nat.zero_add, Nat.reduceAdd, beq_self_eq_true, Bool.and_true, Bool.true_and, Bool.and_self, decide_true, decide_false, if_true, Bool.not_true, Bool.not_false, dec0, dec1, dec2, dec3, dec4, rtD_s, rtD_i, rtD_b, rtD_n, rtD_t, rtD_l, rtD_x, isN_n, isN_t, isN_s, isN_i, O_dl, O_dd, O_di, v_addI, v_sub, v_intI, v_ordI, v_ordS, v_lenL, v_lenT, v_min2S, v_max2S, v_min2I, v_max2I, v_cutT, v_cutL, v_eqI, v_neI, v_eqS, v_neS, v_eqB, v_neB, v_cint, v_inCh, bne_self_eq_false, Bool.false_bne, Bool.true_bne, Bool.bne_false, Bool.bne_true, stT, stAll, stMI, wipeF, Option.map_some, Option.map_none, wpO_s, wpO_n]
  exact hq
end Lw
set_option Elab.async false
set_option linter.all false
set_option maxRecDepth 100000
set_option maxHeartbeats 2000000
/-! tables asked -/
namespace Lw
open PySem DI
section
variable {ls : List Char} {ps : List (List Char)} {hb : HB} {Q : R → HB → Prop} {fr : Fr}
theorem f_signs : wp (gFld ["Table"] "signs" (tbl ls ps) fr hb) Q = Q (.ok (.str ls)) hb := by
  unfold tbl; rw [v_fld]; rfl
theorem f_joined : wp (gFld ["Table"] "joined" (tbl ls ps) fr hb) Q = Q (.ok (jn ls ps)) hb := by
  unfold tbl; rw [v_fld]; rfl
theorem isV_tbl : (tbl ls ps).isVal = true := rfl
theorem isV_jn : (jn ls ps).isVal = true := rfl
theorem labels_wp : wp (ev_Table_labels [tbl ls ps] hb) Q = Q (.ok (.str ls)) hb := by
  unfold ev_Table_labels sv_Table_labels
  rw [wpF]
  show wp (sRet _ [.sh (tbl ls ps)] hb) _ = _
  simp -implicitDefEqProofs only [wpF, wpS_seq, wpS_if, wpS_set, wpS_put, wpS_ret, wpS_nil, wpS_drop, wpS_own, wpS_fz, wpS_bx, wpS_asg, wpS_multi, wpM_nil, wpM_v, wpM_o, wpE_op2, wpE_v, wpE_c, wpE_eL, wpEs_cons, wpEs_nil, wpE_callN, wpE_callR, wpE_tup, wpE_lst, wpE_and, wpE_or, wpE_not, wpE_if, wpE_fz, wpE_bx, wpE_bind, wpE_isN, wpE_chain, wpE_cut, wpO_none, wpO_some, wpC_lst, wpC_call, wpC_lrg, wpI_val, wpI_rng1, wpI_rng2, wpI_enum, wpI_zip, wpC_lc, wpC_lc2, wpC_dc, wpS_for, wpA_args, wpC_make, wpS_bm, wpE_bm, wpE_meth, wpE_methR, wpC_meth, wpC_callC, wp_some, onOk, onL, List.getElem?_cons_succ, List.getElem?_cons_zero, List.set_cons_succ, List.set_cons_zero, allVal_cons, allVal_nil, isV_s, isV_i, isV_b, isV_n, isV_t, isV_l, isV_f, isV_d, isV_x, isV_c, isV_r, isV_y, List.length_cons, List.length_nil, Nat.zero_add, Nat.reduceAdd, beq_self_eq_true, Bool.and_true, Bool.true_and, Bool.and_self, decide_true, decide_false, if_true, Bool.not_true, Bool.not_false, dec0, dec1, dec2, dec3, dec4, rtD_s, rtD_i, rtD_b, rtD_n, rtD_t, rtD_l, rtD_x, isN_n, isN_t, isN_s, isN_i, O_dl, O_dd, O_di, v_addI, v_sub, v_intI, v_ordI, v_ordS, v_lenL, v_lenT, v_min2S, v_max2S, v_min2I, v_max2I, v_cutT, v_cutL, v_eqI, v_neI, v_eqS, v_neS, v_eqB, v_neB, v_cint, v_inCh, bne_self_eq_false, Bool.false_bne, Bool.true_bne, Bool.bne_false, Bool.bne_true, stT, stAll, stMI, wipeF, Option.map_some, Option.map_none, wpO_s, wpO_n, f_signs]
theorem len_wp (h : ls.length ≤ szL) : wp (ev_Table___len__ [tbl ls ps] hb) Q = Q (.ok (.int ls.length)) hb := by
  unfold ev_Table___len__ sv_Table___len__
  rw [wpF]
  show wp (sRet _ [.sh (tbl ls ps)] hb) _ = _
  simp -implicitDefEqProofs only [wpF, wpS_seq, wpS_if, wpS_set, wpS_put, wpS_ret, wpS_nil, wpS_drop, wpS_own, wpS_fz, wpS_bx, wpS_asg, wpS_multi, wpM_nil, wpM_v, wpM_o, wpE_op2, wpE_v, wpE_c, wpE_eL, wpEs_cons, wpEs_nil, wpE_callN, wpE_callR, wpE_tup, wpE_lst, wpE_and, wpE_or, wpE_not, wpE_if, wpE_fz, wpE_bx, wpE_bind, wpE_isN, wpE_chain, wpE_cut, wpO_none, wpO_some, wpC_lst, wpC_call, wpC_lrg, wpI_val, wpI_rng1, wpI_rng2, wpI_enum, wpI_zip, wpC_lc, wpC_lc2, wpC_dc, wpS_for, wpA_args, wpC_make, wpS_bm, wpE_bm, wpE_meth, wpE_methR, wpC_meth, wpC_callC, wp_some, onOk, onL, List.getElem?_cons_succ, List.getElem?_cons_zero, List.set_cons_succ, List.set_cons_zero, allVal_cons, allVal_nil, isV_s, isV_i, isV_b, isV_n, isV_t, isV_l, isV_f, isV_d, isV_x, isV_c, isV_r, isV_y, List.length_cons, List.length_nil, Nat.zero_add, Nat.reduceAdd, beq_self_eq_true, Bool.and_true, Bool.true_and, Bool.and_self, decide_true, decide_false, if_true, Bool.not_true, Bool.not_false, dec0, dec1, dec2, dec3, dec4, rtD_s, rtD_i, rtD_b, rtD_n, rtD_t, rtD_l, rtD_x, isN_n, isN_t, isN_s, isN_i, O_dl, O_dd, O_di, v_addI, v_sub, v_intI, v_ordI, v_ordS, v_lenL, v_lenT, v_min2S, v_max2S, v_min2I, v_max2I, v_cutT, v_cutL, v_eqI, v_neI, v_eqS, v_neS, v_eqB, v_neB, v_cint, v_inCh, bne_self_eq_false, Bool.false_bne, Bool.true_bne, Bool.bne_false, Bool.bne_true, stT, stAll, stMI, wipeF, Option.map_some, Option.map_none, wpO_s, wpO_n, f_signs, v_lenS, h]
/-- b in the neighbours of a -/
def jb (ls : List Char) (ps : List (List Char)) (a b : Char) : Bool := decide (b ∈ nb ls ps a)
theorem jb_eq {a b : Char} (h : b ∈ ls) : jb ls ps a b = J ps a b := by
  unfold jb nb
  simp [List.mem_filter, h]
theorem check_wp {a b : Char} (hl : ls.length ≤ 1000) (ha : a ∈ ls) (hb' : b ∈ ls) (hq : Q (.ok .non) hb) : wp (ev_Table_check_label [tbl ls ps, sg a, sg b] hb) Q := by
  have e : ev_Table_check_label [tbl ls ps, sg a, sg b] hb = fnE 3 sv_Table_check_label [tbl ls ps, .tup [sg a, sg b]] hb := rfl
  rw [e, wpF]
  unfold sv_Table_check_label
  show wp (sFor _ _ _ [.sh (tbl ls ps), .sh (.tup [sg a, sg b]), .un] hb) _
  have hz := szL_big
  simp -implicitDefEqProofs only [wpF, wpS_seq, wpS_if, wpS_set, wpS_put, wpS_ret, wpS_nil, wpS_drop, wpS_own, wpS_fz, wpS_bx, wpS_asg, wpS_multi, wpM_nil, wpM_v, wpM_o, wpE_op2, wpE_v, wpE_c, wpE_eL, wpEs_cons, wpEs_nil, wpE_callN, wpE_callR, wpE_tup, wpE_lst, wpE_and, wpE_or, wpE_not, wpE_if, wpE_fz, wpE_bx, wpE_bind, wpE_isN, wpE_chain, wpE_cut, wpO_none, wpO_some, wpC_lst, wpC_call, wpC_lrg, wpI_val, wpI_rng1, wpI_rng2, wpI_enum, wpI_zip, wpC_lc, wpC_lc2, wpC_dc, wpS_for, wpA_args, wpC_make, wpS_bm, wpE_bm, wpE_meth, wpE_methR, wpC_meth, wpC_callC, wp_some, onOk, onL, List.getElem?_cons_succ, List.getElem?_cons_zero, List.set_cons_succ, List.set_cons_zero, allVal_cons, allVal_nil, isV_s, isV_i, isV_b, isV_n, isV_t, isV_l, isV_f, isV_d, isV_x, isV_c, isV_r, isV_y, List.length_cons, List.length_nil, Nat.zero_add, Nat.reduceAdd, beq_self_eq_true, Bool.and_true, Bool.true_and, Bool.and_self, decide_true, decide_false, if_true, Bool.not_true, Bool.not_false, dec0, dec1, dec2, dec3, dec4, rtD_s, rtD_i, rtD_b, rtD_n, rtD_t, rtD_l, rtD_x, isN_n, isN_t, isN_s, isN_i, O_dl, O_dd, O_di, v_addI, v_sub, v_intI, v_ordI, v_ordS, v_lenL, v_lenT, v_min2S, v_max2S, v_min2I, v_max2I, v_cutT, v_cutL, v_eqI, v_neI, v_eqS, v_neS, v_eqB, v_neB, v_cint, v_inCh, bne_self_eq_false, Bool.false_bne, Bool.true_bne, Bool.bne_false, Bool.bne_true, stT, stAll, stMI, wipeF, Option.map_some, Option.map_none, wpO_s, wpO_n]
  have one : ∀ {x : Char} {fr : Fr} {Q : R → HB → Prop}, x ∈ ls → wp (gInD true (sg x) (.lst (ls.map sg)) fr hb) Q = Q (.ok (.bl false)) hb := fun {x fr Q} hx => by
    rw [v_inL datS (dat_map (f := sg) (fun _ => datS) ls), anyEq_map (f := sg) (fun a b => by rw [deqS]; simp)]
    simp [hx]
  have gl : ∀ {fr : Fr} {hb : HB}, glList [.str ls] fr hb = some (ls.map sg) := fun {fr hb} => by
    show (if ls.length ≤ szL then some (ls.map sg) else none) = _
    rw [if_pos (by omega)]
  refine wp_for (fun done rest f h => (∃ s, f = [.sh (tbl ls ps), .sh (.tup [sg a, sg b]), s]) ∧ h = hb ∧ done ++ rest = [sg a, sg b]) [] _ _ _ ⟨⟨_, rfl⟩, rfl, rfl⟩ ?_ ?_
  · rintro done d rest f h ⟨⟨s, rfl⟩, rfl, hr⟩
    refine ⟨_, rfl, ?_⟩
    obtain ⟨x, rfl, hx⟩ : ∃ x, d = sg x ∧ x ∈ ls := by
      have : d ∈ [sg a, sg b] := by rw [← hr]; simp
      simp only [List.mem_cons, List.not_mem_nil, or_false] at this
      rcases this with rfl | rfl
      · exact ⟨_, rfl, ha⟩
      · exact ⟨_, rfl, hb'⟩
    simp -implicitDefEqProofs only [wpF, wpS_seq, wpS_if, wpS_set, wpS_put, wpS_ret, wpS_nil, wpS_drop, wpS_own, wpS_fz, wpS_bx, wpS_asg, wpS_multi, wpM_nil, wpM_v, wpM_o, wpE_op2, wpE_v, wpE_c, wpE_eL, wpEs_cons, wpEs_nil, wpE_callN, wpE_callR, wpE_tup, wpE_lst, wpE_and, wpE_or, wpE_not, wpE_if, wpE_fz, wpE_bx, wpE_bind, wpE_isN, wpE_chain, wpE_cut, wpO_none, wpO_some, wpC_lst, wpC_call, wpC_lrg, wpI_val, wpI_rng1, wpI_rng2, wpI_enum, wpI_zip, wpC_lc, wpC_lc2, wpC_dc, wpS_for, wpA_args, wpC_make, wpS_bm, wpE_bm, wpE_meth, wpE_methR, wpC_meth, wpC_callC, wp_some, onOk, onL, List.getElem?_cons_succ, List.getElem?_cons_zero, List.set_cons_succ, List.set_cons_zero, allVal_cons, allVal_nil, isV_s, isV_i, isV_b, isV_n, isV_t, isV_l, isV_f, isV_d, isV_x, isV_c, isV_r, isV_y, List.length_cons, List.length_nil, Nat.zero_add, Nat.reduceAdd, beq_self_eq_true, Bool.and_true, Bool.true_and, Bool.and_self, decide_true, decide_false, if_true, Bool.not_true, Bool.not_false, dec0, dec1, dec2, dec3, dec4, rtD_s, rtD_i, rtD_b, rtD_n, rtD_t, rtD_l, rtD_x, isN_n, isN_t, isN_s, isN_i, O_dl, O_dd, O_di, v_addI, v_sub, v_intI, v_ordI, v_ordS, v_lenL, v_lenT, v_min2S, v_max2S, v_min2I, v_max2I, v_cutT, v_cutL, v_eqI, v_neI, v_eqS, v_neS, v_eqB, v_neB, v_cint, v_inCh, bne_self_eq_false, Bool.false_bne, Bool.true_bne, Bool.bne_false, Bool.bne_true, stT, stAll, stMI, wipeF, Option.map_some, Option.map_none, wpO_s, wpO_n, f_signs, gl, one hx]
    exact ⟨⟨_, rfl⟩, trivial, by rw [List.append_assoc]; exact hr⟩
  · rintro done f h ⟨_, rfl, _⟩
    exact hq
theorem joinsT_wp {a b : Char} (hl : ls.length ≤ 1000) (ha : a ∈ ls) (hb' : b ∈ ls) (hq : Q (.ok (.bl (J ps a b))) hb) : wp (ev_Table_joins [tbl ls ps, sg a, sg b] hb) Q := by
  unfold ev_Table_joins sv_Table_joins
  rw [wpF]
  show wp (sSeq _ _ [.sh (tbl ls ps), .sh (sg a), .sh (sg b)] hb) _
  have mo : mOk "Table" "check_label" [.sh (tbl ls ps), .sh (sg a), .sh (sg b)] hb (tbl ls ps) = true := by
    unfold mOk insD tbl; simp
  simp -implicitDefEqProofs only [wpF, wpS_seq, wpS_if, wpS_set, wpS_put, wpS_ret, wpS_nil, wpS_drop, wpS_own, wpS_fz, wpS_bx, wpS_asg, wpS_multi, wpM_nil, wpM_v, wpM_o, wpE_op2, wpE_v, wpE_c, wpE_eL, wpEs_cons, wpEs_nil, wpE_callN, wpE_callR, wpE_tup, wpE_lst, wpE_and, wpE_or, wpE_not, wpE_if, wpE_fz, wpE_bx, wpE_bind, wpE_isN, wpE_chain, wpE_cut, wpO_none, wpO_some, wpC_lst, wpC_call, wpC_lrg, wpI_val, wpI_rng1, wpI_rng2, wpI_enum, wpI_zip, wpC_lc, wpC_lc2, wpC_dc, wpS_for, wpA_args, wpC_make, wpS_bm, wpE_bm, wpE_meth, wpE_methR, wpC_meth, wpC_callC, wp_some, onOk, onL, List.getElem?_cons_succ, List.getElem?_cons_zero, List.set_cons_succ, List.set_cons_zero, allVal_cons, allVal_nil, isV_s, isV_i, isV_b, isV_n, isV_t, isV_l, isV_f, isV_d, isV_x, isV_c, isV_r, isV_y, List.length_cons, List.length_nil, Nat.zero_add, Nat.reduceAdd, beq_self_eq_true, Bool.and_true, Bool.true_and, Bool.and_self, decide_true, decide_false, if_true, Bool.not_true, Bool.not_false, dec0, dec1, dec2, dec3, dec4, rtD_s, rtD_i, rtD_b, rtD_n, rtD_t, rtD_l, rtD_x, isN_n, isN_t, isN_s, isN_i, O_dl, O_dd, O_di, v_addI, v_sub, v_intI, v_ordI, v_ordS, v_lenL, v_lenT, v_min2S, v_max2S, v_min2I, v_max2I, v_cutT, v_cutL, v_eqI, v_neI, v_eqS, v_neS, v_eqB, v_neB, v_cint, v_inCh, bne_self_eq_false, Bool.false_bne, Bool.true_bne, Bool.bne_false, Bool.bne_true, stT, stAll, stMI, wipeF, Option.map_some, Option.map_none, wpO_s, wpO_n, mo]
  refine check_wp hl ha hb' ?_
  simp -implicitDefEqProofs only [wpF, wpS_seq, wpS_if, wpS_set, wpS_put, wpS_ret, wpS_nil, wpS_drop, wpS_own, wpS_fz, wpS_bx, wpS_asg, wpS_multi, wpM_nil, wpM_v, wpM_o, wpE_op2, wpE_v, wpE_c, wpE_eL, wpEs_cons, wpEs_nil, wpE_callN, wpE_callR, wpE_tup, wpE_lst, wpE_and, wpE_or, wpE_not, wpE_if, wpE_fz, wpE_bx, wpE_bind, wpE_isN, wpE_chain, wpE_cut, wpO_none, wpO_some, wpC_lst, wpC_call, wpC_lrg, wpI_val, wpI_rng1, wpI_rng2, wpI_enum, wpI_zip, wpC_lc, wpC_lc2, wpC_dc, wpS_for, wpA_args, wpC_make, wpS_bm, wpE_bm, wpE_meth, wpE_methR, wpC_meth, wpC_callC, wp_some, onOk, onL, List.getElem?_cons_succ, List.getElem?_cons_zero, List.set_cons_succ, List.set_cons_zero, allVal_cons, allVal_nil, isV_s, isV_i, isV_b, isV_n, isV_t, isV_l, isV_f, isV_d, isV_x, isV_c, isV_r, isV_y, List.length_cons, List.length_nil, Nat.zero_add, Nat.reduceAdd, beq_self_eq_true, Bool.and_true, Bool.true_and, Bool.and_self, decide_true, decide_false, if_true, Bool.not_true, Bool.not_false, dec0, dec1, dec2, dec3, dec4, rtD_s, rtD_i, rtD_b, rtD_n, rtD_t, rtD_l, rtD_x, isN_n, isN_t, isN_s, isN_i, O_dl, O_dd, O_di, v_addI, v_sub, v_intI, v_ordI, v_ordS, v_lenL, v_lenT, v_min2S, v_max2S, v_min2I, v_max2I, v_cutT, v_cutL, v_eqI, v_neI, v_eqS, v_neS, v_eqB, v_neB, v_cint, v_inCh, bne_self_eq_false, Bool.false_bne, Bool.true_bne, Bool.bne_false, Bool.bne_true, stT, stAll, stMI, wipeF, Option.map_some, Option.map_none, wpO_s, wpO_n, f_joined, v_jn ha]
  have : decide (b ∈ nb ls ps a) = J ps a b := jb_eq hb'
  rw [this]
  exact hq
/-- a text in a table -/
def inT (ls : List Char) (ps : List (List Char)) (s : List Char) : Bool := match s with
  | [a, b] => isPair [a, b] ls && J ps a b
  | _ => false
theorem contains_wp {s : List Char} (hs : s.length ≤ 100) (hl : ls.length ≤ 1000) (hq : Q (.ok (.bl (inT ls ps s))) hb) : wp (ev_Table___contains__ [tbl ls ps, .str s] hb) Q := by
  unfold ev_Table___contains__ sv_Table___contains__
  rw [wpF]
  show wp (sRet _ [.sh (tbl ls ps), .sh (.str s)] hb) _
  have hz := szL_big
  simp -implicitDefEqProofs only [wpF, wpS_seq, wpS_if, wpS_set, wpS_put, wpS_ret, wpS_nil, wpS_drop, wpS_own, wpS_fz, wpS_bx, wpS_asg, wpS_multi, wpM_nil, wpM_v, wpM_o, wpE_op2, wpE_v, wpE_c, wpE_eL, wpEs_cons, wpEs_nil, wpE_callN, wpE_callR, wpE_tup, wpE_lst, wpE_and, wpE_or, wpE_not, wpE_if, wpE_fz, wpE_bx, wpE_bind, wpE_isN, wpE_chain, wpE_cut, wpO_none, wpO_some, wpC_lst, wpC_call, wpC_lrg, wpI_val, wpI_rng1, wpI_rng2, wpI_enum, wpI_zip, wpC_lc, wpC_lc2, wpC_dc, wpS_for, wpA_args, wpC_make, wpS_bm, wpE_bm, wpE_meth, wpE_methR, wpC_meth, wpC_callC, wp_some, onOk, onL, List.getElem?_cons_succ, List.getElem?_cons_zero, List.set_cons_succ, List.set_cons_zero, allVal_cons, allVal_nil, isV_s, isV_i, isV_b, isV_n, isV_t, isV_l, isV_f, isV_d, isV_x, isV_c, isV_r, isV_y, List.length_cons, List.length_nil, Nat.zero_add, Nat.reduceAdd, beq_self_eq_true, Bool.and_true, Bool.true_and, Bool.and_self, decide_true, decide_false, if_true, Bool.not_true, Bool.not_false, dec0, dec1, dec2, dec3, dec4, rtD_s, rtD_i, rtD_b, rtD_n, rtD_t, rtD_l, rtD_x, isN_n, isN_t, isN_s, isN_i, O_dl, O_dd, O_di, v_addI, v_sub, v_intI, v_ordI, v_ordS, v_lenL, v_lenT, v_min2S, v_max2S, v_min2I, v_max2I, v_cutT, v_cutL, v_eqI, v_neI, v_eqS, v_neS, v_eqB, v_neB, v_cint, v_inCh, bne_self_eq_false, Bool.false_bne, Bool.true_bne, Bool.bne_false, Bool.bne_true, stT, stAll, stMI, wipeF, Option.map_some, Option.map_none, wpO_s, wpO_n, f_signs]
  refine pair_wp (by omega) ?_
  cases hp : isPair s ls with
  | false =>
    simp -implicitDefEqProofs only [wpF, wpS_seq, wpS_if, wpS_set, wpS_put, wpS_ret, wpS_nil, wpS_drop, wpS_own, wpS_fz, wpS_bx, wpS_asg, wpS_multi, wpM_nil, wpM_v, wpM_o, wpE_op2, wpE_v, wpE_c, wpE_eL, wpEs_cons, wpEs_nil, wpE_callN, wpE_callR, wpE_tup, wpE_lst, wpE_and, wpE_or, wpE_not, wpE_if, wpE_fz, wpE_bx, wpE_bind, wpE_isN, wpE_chain, wpE_cut, wpO_none, wpO_some, wpC_lst, wpC_call, wpC_lrg, wpI_val, wpI_rng1, wpI_rng2, wpI_enum, wpI_zip, wpC_lc, wpC_lc2, wpC_dc, wpS_for, wpA_args, wpC_make, wpS_bm, wpE_bm, wpE_meth, wpE_methR, wpC_meth, wpC_callC, wp_some, onOk, onL, List.getElem?_cons_succ, List.getElem?_cons_zero, List.set_cons_succ, List.set_cons_zero, allVal_cons, allVal_nil, isV_s, isV_i, isV_b, isV_n, isV_t, isV_l, isV_f, isV_d, isV_x, isV_c, isV_r, isV_y, List.length_cons, List.length_nil, Nat.zero_add, Nat.reduceAdd, beq_self_eq_true, Bool.and_true, Bool.true_and, Bool.and_self, decide_true, decide_false, if_true, Bool.not_true, Bool.not_false, dec0, dec1, dec2, dec3, dec4, rtD_s, rtD_i, rtD_b, rtD_n, rtD_t, rtD_l, rtD_x, isN_n, isN_t, isN_s, isN_i, O_dl, O_dd, O_di, v_addI, v_sub, v_intI, v_ordI, v_ordS, v_lenL, v_lenT, v_min2S, v_max2S, v_min2I, v_max2I, v_cutT, v_cutL, v_eqI, v_neI, v_eqS, v_neS, v_eqB, v_neB, v_cint, v_inCh, bne_self_eq_false, Bool.false_bne, Bool.true_bne, Bool.bne_false, Bool.bne_true, stT, stAll, stMI, wipeF, Option.map_some, Option.map_none, wpO_s, wpO_n]
    have : inT ls ps s = false := by
      unfold inT
      split
      · rw [hp]; rfl
      · rfl
    rw [this] at hq
    exact hq
  | true =>
    have hp0 := hp
    unfold isPair at hp
    split at hp
    · rename_i a b
      simp only [Bool.and_eq_true, decide_eq_true_eq] at hp
      have i0 : ∀ {fr : Fr} {hb : HB} {Q : R → HB → Prop}, wp (gIxD (.str [a, b]) (.int 0) fr hb) Q = Q (.ok (sg a)) hb := fun {fr hb Q} => by rw [v_ixS, if_pos (by simp only [List.length_cons, List.length_nil]; omega)]; rfl
      have i1 : ∀ {fr : Fr} {hb : HB} {Q : R → HB → Prop}, wp (gIxD (.str [a, b]) (.int 1) fr hb) Q = Q (.ok (sg b)) hb := fun {fr hb Q} => by rw [v_ixS, if_pos (by simp only [List.length_cons, List.length_nil]; omega)]; rfl
      simp -implicitDefEqProofs only [wpF, wpS_seq, wpS_if, wpS_set, wpS_put, wpS_ret, wpS_nil, wpS_drop, wpS_own, wpS_fz, wpS_bx, wpS_asg, wpS_multi, wpM_nil, wpM_v, wpM_o, wpE_op2, wpE_v, wpE_c, wpE_eL, wpEs_cons, wpEs_nil, wpE_callN, wpE_callR, wpE_tup, wpE_lst, wpE_and, wpE_or, wpE_not, wpE_if, wpE_fz, wpE_bx, wpE_bind, wpE_isN, wpE_chain, wpE_cut, wpO_none, wpO_some, wpC_lst, wpC_call, wpC_lrg, wpI_val, wpI_rng1, wpI_rng2, wpI_enum, wpI_zip, wpC_lc, wpC_lc2, wpC_dc, wpS_for, wpA_args, wpC_make, wpS_bm, wpE_bm, wpE_meth, wpE_methR, wpC_meth, wpC_callC, wp_some, onOk, onL, List.getElem?_cons_succ, List.getElem?_cons_zero, List.set_cons_succ, List.set_cons_zero, allVal_cons, allVal_nil, isV_s, isV_i, isV_b, isV_n, isV_t, isV_l, isV_f, isV_d, isV_x, isV_c, isV_r, isV_y, List.length_cons, List.length_nil, Nat.zero_add, Nat.reduceAdd, beq_self_eq_true, Bool.and_true, Bool.true_and, Bool.and_self, decide_true, decide_false, if_true, Bool.not_true, Bool.not_false, dec0, dec1, dec2, dec3, dec4, rtD_s, rtD_i, rtD_b, rtD_n, rtD_t, rtD_l, rtD_x, isN_n, isN_t, isN_s, isN_i, O_dl, O_dd, O_di, v_addI, v_sub, v_intI, v_ordI, v_ordS, v_lenL, v_lenT, v_min2S, v_max2S, v_min2I, v_max2I, v_cutT, v_cutL, v_eqI, v_neI, v_eqS, v_neS, v_eqB, v_neB, v_cint, v_inCh, bne_self_eq_false, Bool.false_bne, Bool.true_bne, Bool.bne_false, Bool.bne_true, stT, stAll, stMI, wipeF, Option.map_some, Option.map_none, wpO_s, wpO_n, i0, i1, f_joined, v_jn hp.1]
      have e : decide (b ∈ nb ls ps a) = J ps a b := jb_eq hp.2.1
      rw [e]
      have e2 : inT ls ps [a, b] = J ps a b := by unfold inT; show (isPair [a, b] ls && J ps a b) = _; rw [hp0]; rfl
      rw [e2] at hq
      exact hq
    · cases hp
end
/-! ### pairs -/
def prs (ls : List Char) (ps : List (List Char)) : List (List Char) := ls.flatMap fun a => ((nb ls ps a).filter fun b => decide (a.toNat < b.toNat)).map fun b => [a, b]
theorem lc2_pure {t t1 : Tg} {c c1 el : Ev} {iv1 : Iv} {vs1 : List Nat} {fr : Fr} {hb : HB} (F : Char → List D) (N : Nat) : ∀ (as : List Char) (acc : List D), (∀ a ∈ as, ∃ fr1 es, stT t (sg a) fr = some fr1 ∧ wp (c fr1 hb) (fun r h => r = .ok (.bl true) ∧ h = hb) ∧ iv1 fr1 hb = some (.inl (.ls es true), hb) ∧ ∀ acc : List D, acc.length ≤ N → lcL t1 c1 el es acc (wipeF fr1 vs1) hb = some (acc ++ F a, hb)) →
    acc.length + (as.flatMap F).length ≤ N → lc2L t c iv1 t1 vs1 c1 el (as.map sg) acc fr hb = some (acc ++ as.flatMap F, hb)
  | [], acc, _, _ => by simp [lc2L]
  | a :: as, acc, h, hl => by
    obtain ⟨fr1, es, h1, h2, h3, h4⟩ := h a List.mem_cons_self
    rw [wp_eq] at h2
    rw [List.flatMap_cons, List.length_append] at hl
    rw [List.map_cons]
    unfold lc2L
    rw [h1]
    dsimp only
    rw [h2]
    dsimp only
    rw [h3]
    dsimp only
    rw [h4 acc (by omega)]
    dsimp only
    rw [lc2_pure F N as (acc ++ F a) (fun x hx => h x (List.mem_cons_of_mem _ hx)) (by rw [List.length_append]; omega), List.flatMap_cons, List.append_assoc]
theorem prs_len (ls : List Char) (ps : List (List Char)) (h : ls.length ≤ 7) : (prs ls ps).length ≤ 49 := by
  have : ∀ as : List Char, (as.flatMap fun a => ((nb ls ps a).filter fun b => decide (a.toNat < b.toNat)).map fun b => [a, b]).length ≤ as.length * 7 := fun as => by
    induction as with
    | nil => simp
    | cons a as ih =>
      rw [List.flatMap_cons, List.length_append, List.length_map, List.length_cons]
      have h1 := List.length_filter_le (fun b : Char => decide (a.toNat < b.toNat)) (nb ls ps a)
      have h2 := nb_len ls ps a
      omega
  have := this ls
  unfold prs
  omega
theorem pairs_wp {ls : List Char} {ps : List (List Char)} {hb : HB} {QO : O ⊕ Xn → HB → Prop} (h : ls.length ≤ 7) (hq : QO (.inl (.lst ((prs ls ps).map .str))) hb) : wp (ev_Table_pairs [tbl ls ps] hb) QO := by
  unfold ev_Table_pairs sv_Table_pairs
  rw [wpC]
  show wp (cLc2 _ _ _ _ _ _ _ _ _ [.sh (tbl ls ps), .un, .un] hb) _
  have hz := szL_big
  simp -implicitDefEqProofs only [wpF, wpS_seq, wpS_if, wpS_set, wpS_put, wpS_ret, wpS_nil, wpS_drop, wpS_own, wpS_fz, wpS_bx, wpS_asg, wpS_multi, wpM_nil, wpM_v, wpM_o, wpE_op2, wpE_v, wpE_c, wpE_eL, wpEs_cons, wpEs_nil, wpE_callN, wpE_callR, wpE_tup, wpE_lst, wpE_and, wpE_or, wpE_not, wpE_if, wpE_fz, wpE_bx, wpE_bind, wpE_isN, wpE_chain, wpE_cut, wpO_none, wpO_some, wpC_lst, wpC_call, wpC_lrg, wpI_val, wpI_rng1, wpI_rng2, wpI_enum, wpI_zip, wpC_lc, wpC_lc2, wpC_dc, wpS_for, wpA_args, wpC_make, wpS_bm, wpE_bm, wpE_meth, wpE_methR, wpC_meth, wpC_callC, wp_some, onOk, onL, List.getElem?_cons_succ, List.getElem?_cons_zero, List.set_cons_succ, List.set_cons_zero, allVal_cons, allVal_nil, isV_s, isV_i, isV_b, isV_n, isV_t, isV_l, isV_f, isV_d, isV_x, isV_c, isV_r, isV_y, List.length_cons, List.length_nil, Nat.zero_add, Nat.reduceAdd, beq_self_eq_true, Bool.and_true, Bool.true_and, Bool.and_self, decide_true, decide_false, if_true, Bool.not_true, Bool.not_false, dec0, dec1, dec2, dec3, dec4, rtD_s, rtD_i, rtD_b, rtD_n, rtD_t, rtD_l, rtD_x, isN_n, isN_t, isN_s, isN_i, O_dl, O_dd, O_di, v_addI, v_sub, v_intI, v_ordI, v_ordS, v_lenL, v_lenT, v_min2S, v_max2S, v_min2I, v_max2I, v_cutT, v_cutL, v_eqI, v_neI, v_eqS, v_neS, v_eqB, v_neB, v_cint, v_inCh, bne_self_eq_false, Bool.false_bne, Bool.true_bne, Bool.bne_false, Bool.bne_true, stT, stAll, stMI, wipeF, Option.map_some, Option.map_none, wpO_s, wpO_n, f_signs]
  have e : lc2L (.nm 1) (eC (.bl true)) (iVal (eOp2 gIxD (eBind (eV 0) (gFld ["Table"] "joined")) (eV 1))) (.nm 2) [2] (eOp2 (gOrd .lt) (eV 1) (eV 2)) (eOp2 gAdd (eV 1) (eV 2)) (ls.map sg) [] [.sh (tbl ls ps), .un, .un] hb = some ([] ++ ls.flatMap fun a => (((nb ls ps a).filter fun b => decide (a.toNat < b.toNat)).map fun b => D.str [a, b]), hb) := by
    refine lc2_pure _ 1000 ls [] (fun a ha => ⟨_, (nb ls ps a).map sg, rfl, by rw [wpE_c]; exact ⟨rfl, rfl⟩, ?_, fun acc hacc => ?_⟩) ?_
    · rw [← wp_eq]
      simp -implicitDefEqProofs only [wpF, wpS_seq, wpS_if, wpS_set, wpS_put, wpS_ret, wpS_nil, wpS_drop, wpS_own, wpS_fz, wpS_bx, wpS_asg, wpS_multi, wpM_nil, wpM_v, wpM_o, wpE_op2, wpE_v, wpE_c, wpE_eL, wpEs_cons, wpEs_nil, wpE_callN, wpE_callR, wpE_tup, wpE_lst, wpE_and, wpE_or, wpE_not, wpE_if, wpE_fz, wpE_bx, wpE_bind, wpE_isN, wpE_chain, wpE_cut, wpO_none, wpO_some, wpC_lst, wpC_call, wpC_lrg, wpI_val, wpI_rng1, wpI_rng2, wpI_enum, wpI_zip, wpC_lc, wpC_lc2, wpC_dc, wpS_for, wpA_args, wpC_make, wpS_bm, wpE_bm, wpE_meth, wpE_methR, wpC_meth, wpC_callC, wp_some, onOk, onL, List.getElem?_cons_succ, List.getElem?_cons_zero, List.set_cons_succ, List.set_cons_zero, allVal_cons, allVal_nil, isV_s, isV_i, isV_b, isV_n, isV_t, isV_l, isV_f, isV_d, isV_x, isV_c, isV_r, isV_y, List.length_cons, List.length_nil, Nat.zero_add, Nat.reduceAdd, beq_self_eq_true, Bool.and_true, Bool.true_and, Bool.and_self, decide_true, decide_false, if_true, Bool.not_true, Bool.not_false, dec0, dec1, dec2, dec3, dec4, rtD_s, rtD_i, rtD_b, rtD_n, rtD_t, rtD_l, rtD_x, isN_n, isN_t, isN_s, isN_i, O_dl, O_dd, O_di, v_addI, v_sub, v_intI, v_ordI, v_ordS, v_lenL, v_lenT, v_min2S, v_max2S, v_min2I, v_max2I, v_cutT, v_cutL, v_eqI, v_neI, v_eqS, v_neS, v_eqB, v_neB, v_cint, v_inCh, bne_self_eq_false, Bool.false_bne, Bool.true_bne, Bool.bne_false, Bool.bne_true, stT, stAll, stMI, wipeF, Option.map_some, Option.map_none, wpO_s, wpO_n, f_joined, v_jn ha]
      exact ⟨trivial, trivial⟩
    · rw [← wp_eq]
      have := nb_len ls ps a
      refine wp_lcM (g := sg) (fun b => decide (a.toNat < b.toNat)) (fun b => .str [a, b]) (nb ls ps a) acc (fun b hb' => ⟨_, rfl, ?_, fun _ => ⟨?_, rfl⟩⟩) (by omega) ⟨rfl, rfl⟩
      · simp -implicitDefEqProofs only [wpF, wpS_seq, wpS_if, wpS_set, wpS_put, wpS_ret, wpS_nil, wpS_drop, wpS_own, wpS_fz, wpS_bx, wpS_asg, wpS_multi, wpM_nil, wpM_v, wpM_o, wpE_op2, wpE_v, wpE_c, wpE_eL, wpEs_cons, wpEs_nil, wpE_callN, wpE_callR, wpE_tup, wpE_lst, wpE_and, wpE_or, wpE_not, wpE_if, wpE_fz, wpE_bx, wpE_bind, wpE_isN, wpE_chain, wpE_cut, wpO_none, wpO_some, wpC_lst, wpC_call, wpC_lrg, wpI_val, wpI_rng1, wpI_rng2, wpI_enum, wpI_zip, wpC_lc, wpC_lc2, wpC_dc, wpS_for, wpA_args, wpC_make, wpS_bm, wpE_bm, wpE_meth, wpE_methR, wpC_meth, wpC_callC, wp_some, onOk, onL, List.getElem?_cons_succ, List.getElem?_cons_zero, List.set_cons_succ, List.set_cons_zero, allVal_cons, allVal_nil, isV_s, isV_i, isV_b, isV_n, isV_t, isV_l, isV_f, isV_d, isV_x, isV_c, isV_r, isV_y, List.length_cons, List.length_nil, Nat.zero_add, Nat.reduceAdd, beq_self_eq_true, Bool.and_true, Bool.true_and, Bool.and_self, decide_true, decide_false, if_true, Bool.not_true, Bool.not_false, dec0, dec1, dec2, dec3, dec4, rtD_s, rtD_i, rtD_b, rtD_n, rtD_t, rtD_l, rtD_x, isN_n, isN_t, isN_s, isN_i, O_dl, O_dd, O_di, v_addI, v_sub, v_intI, v_ordI, v_ordS, v_lenL, v_lenT, v_min2S, v_max2S, v_min2I, v_max2I, v_cutT, v_cutL, v_eqI, v_neI, v_eqS, v_neS, v_eqB, v_neB, v_cint, v_inCh, bne_self_eq_false, Bool.false_bne, Bool.true_bne, Bool.bne_false, Bool.bne_true, stT, stAll, stMI, wipeF, Option.map_some, Option.map_none, wpO_s, wpO_n, Ord4.s, ltC1]
        exact ⟨trivial, trivial⟩
      · simp -implicitDefEqProofs only [wpF, wpS_seq, wpS_if, wpS_set, wpS_put, wpS_ret, wpS_nil, wpS_drop, wpS_own, wpS_fz, wpS_bx, wpS_asg, wpS_multi, wpM_nil, wpM_v, wpM_o, wpE_op2, wpE_v, wpE_c, wpE_eL, wpEs_cons, wpEs_nil, wpE_callN, wpE_callR, wpE_tup, wpE_lst, wpE_and, wpE_or, wpE_not, wpE_if, wpE_fz, wpE_bx, wpE_bind, wpE_isN, wpE_chain, wpE_cut, wpO_none, wpO_some, wpC_lst, wpC_call, wpC_lrg, wpI_val, wpI_rng1, wpI_rng2, wpI_enum, wpI_zip, wpC_lc, wpC_lc2, wpC_dc, wpS_for, wpA_args, wpC_make, wpS_bm, wpE_bm, wpE_meth, wpE_methR, wpC_meth, wpC_callC, wp_some, onOk, onL, List.getElem?_cons_succ, List.getElem?_cons_zero, List.set_cons_succ, List.set_cons_zero, allVal_cons, allVal_nil, isV_s, isV_i, isV_b, isV_n, isV_t, isV_l, isV_f, isV_d, isV_x, isV_c, isV_r, isV_y, List.length_cons, List.length_nil, Nat.zero_add, Nat.reduceAdd, beq_self_eq_true, Bool.and_true, Bool.true_and, Bool.and_self, decide_true, decide_false, if_true, Bool.not_true, Bool.not_false, dec0, dec1, dec2, dec3, dec4, rtD_s, rtD_i, rtD_b, rtD_n, rtD_t, rtD_l, rtD_x, isN_n, isN_t, isN_s, isN_i, O_dl, O_dd, O_di, v_addI, v_sub, v_intI, v_ordI, v_ordS, v_lenL, v_lenT, v_min2S, v_max2S, v_min2I, v_max2I, v_cutT, v_cutL, v_eqI, v_neI, v_eqS, v_neS, v_eqB, v_neB, v_cint, v_inCh, bne_self_eq_false, Bool.false_bne, Bool.true_bne, Bool.bne_false, Bool.bne_true, stT, stAll, stMI, wipeF, Option.map_some, Option.map_none, wpO_s, wpO_n]
        rw [v_addS, if_pos (by simp only [List.length_cons, List.length_nil]; omega)]
        exact ⟨rfl, rfl⟩
    · have := prs_len ls ps h
      unfold prs at this
      rw [List.length_flatMap] at this ⊢
      simp only [List.length_map, List.length_nil] at this ⊢
      omega
  have e2 : (ls.flatMap fun a => (((nb ls ps a).filter fun b => decide (a.toNat < b.toNat)).map fun b => D.str [a, b])) = (prs ls ps).map .str := by
    unfold prs
    rw [List.map_flatMap]
    congr 1
    funext a
    rw [List.map_map]
    rfl
  have e3 : ([.sh (tbl ls ps), .un, .un] : Fr) = [.sh (tbl ls ps), .un, .un] := rfl
  show wp (lc2L _ _ _ _ _ _ _ (ls.map sg) [] [.sh (tbl ls ps), .un, .un] hb) _
  rw [e, e2, List.nil_append, wp_some]
  exact hq
theorem ext_sorted {α : Type} {lt : α → α → Prop} (irr : ∀ a, ¬ lt a a) (asy : ∀ a b, lt a b → ¬ lt b a) : ∀ l1 l2 : List α, l1.Pairwise lt → l2.Pairwise lt → (∀ x, x ∈ l1 ↔ x ∈ l2) → l1 = l2
  | [], [], _, _, _ => rfl
  | [], b :: l2, _, _, h => absurd ((h b).mpr List.mem_cons_self) (by simp)
  | a :: l1, [], _, _, h => absurd ((h a).mp List.mem_cons_self) (by simp)
  | a :: l1, b :: l2, h1, h2, h => by
    rw [List.pairwise_cons] at h1 h2
    have e : a = b := by
      rcases List.mem_cons.mp ((h a).mp List.mem_cons_self) with q | q
      · exact q
      · rcases List.mem_cons.mp ((h b).mpr List.mem_cons_self) with q2 | q2
        · exact q2.symm
        · exact absurd (h1.1 b q2) (asy _ _ (h2.1 a q))
    subst e
    rw [ext_sorted irr asy l1 l2 h1.2 h2.2 fun x => ?_]
    constructor
    · intro hx
      rcases List.mem_cons.mp ((h x).mp (List.mem_cons_of_mem _ hx)) with q | q
      · exact absurd (h1.1 x hx) (q ▸ irr a)
      · exact q
    · intro hx
      rcases List.mem_cons.mp ((h x).mpr (List.mem_cons_of_mem _ hx)) with q | q
      · exact absurd (h2.1 x hx) (q ▸ irr a)
      · exact q
theorem ltC2 (a b c d : Char) : ltC [a, b] [c, d] = true ↔ a.toNat < c.toNat ∨ (a.toNat = c.toNat ∧ b.toNat < d.toNat) := by
  rw [le_ltC]
  simp only [List.map_cons, List.map_nil, List.cons_lt_cons_iff]
  simp
theorem ltC_irr (a : List Char) : ¬ ltC a a = true := by
  rw [le_ltC]; exact List.lt_irrefl _
theorem ltC_asy (a b : List Char) (h : ltC a b = true) : ¬ ltC b a = true := by
  rw [le_ltC] at h ⊢
  exact List.lt_asymm h
theorem strict {ps : List (List Char)} (h : ps.Pairwise fun a b => (!ltC b a) = true) (n : ps.Nodup) : ps.Pairwise fun a b => ltC a b = true := by
  rw [List.nodup_iff_pairwise_ne] at n
  refine (h.and n).imp fun {a b} k => ?_
  obtain ⟨k1, k2⟩ := k
  rw [nlt_ltC] at k1
  rw [le_ltC]
  cases Classical.em (a.map Char.toNat < b.map Char.toNat) with
  | inl q => exact q
  | inr q => exact absurd (mapNat_inj (List.le_antisymm k1 (List.not_lt.mp q))) k2
theorem prs_mem {ls : List Char} {ps : List (List Char)} {p : List Char} : p ∈ prs ls ps ↔ ∃ a b, a ∈ ls ∧ b ∈ ls ∧ a.toNat < b.toNat ∧ J ps a b = true ∧ p = [a, b] := by
  unfold prs nb
  simp only [List.mem_flatMap, List.mem_map, List.mem_filter, decide_eq_true_eq]
  constructor
  · rintro ⟨a, ha, b, ⟨⟨hb, hj⟩, hlt⟩, rfl⟩
    exact ⟨a, b, ha, hb, hlt, hj, rfl⟩
  · rintro ⟨a, b, ha, hb, hlt, hj, rfl⟩
    exact ⟨a, ha, b, ⟨⟨hb, hj⟩, hlt⟩, rfl⟩
theorem prs_pw {ls : List Char} {ps : List (List Char)} (h : ls.Pairwise fun a b => a.toNat < b.toNat) : (prs ls ps).Pairwise fun a b => ltC a b = true := by
  unfold prs
  rw [List.pairwise_flatMap]
  constructor
  · intro a ha
    rw [List.pairwise_map]
    refine List.Pairwise.imp ?_ ((h.sublist (List.filter_sublist (p := J ps a))).sublist (List.filter_sublist (p := fun b : Char => decide (a.toNat < b.toNat))))
    intro b c hbc
    rw [ltC2]
    exact .inr ⟨rfl, hbc⟩
  · refine h.imp fun {a b} hab x hx y hy => ?_
    obtain ⟨c, _, rfl⟩ := List.mem_map.mp hx
    obtain ⟨d, _, rfl⟩ := List.mem_map.mp hy
    rw [ltC2]
    exact .inl hab
theorem pr_lt {a b : Char} (h : a.toNat < b.toNat) : pr a b = [a, b] := by
  unfold pr; rw [if_neg (by omega)]
theorem prs_eq {ls : List Char} {ps : List (List Char)} (h : TabOk ls ps) : prs ls ps = ps := by
  refine ext_sorted (lt := fun a b => ltC a b = true) ltC_irr ltC_asy _ _ (prs_pw h.ab.asc) (strict h.srt h.nd) fun p => ?_
  rw [prs_mem]
  constructor
  · rintro ⟨a, b, ha, hb, hlt, hj, rfl⟩
    unfold J at hj
    rw [pr_lt hlt] at hj
    exact of_decide_eq_true hj
  · intro hp
    obtain ⟨a, b, ha, hb, hlt, rfl⟩ := h.pr p hp
    refine ⟨a, b, ha, hb, hlt, ?_, rfl⟩
    unfold J
    rw [pr_lt hlt]
    exact decide_eq_true hp
/-! ### the text of a table -/
abbrev tx1 : List Char := [Char.ofNat 84, Char.ofNat 97, Char.ofNat 98, Char.ofNat 108, Char.ofNat 101, Char.ofNat 40]
abbrev tx2 : List Char := [Char.ofNat 44, Char.ofNat 32]
abbrev tx3 : List Char := [Char.ofNat 32, Char.ofNat 112, Char.ofNat 97, Char.ofNat 105, Char.ofNat 114, Char.ofNat 115, Char.ofNat 41]
theorem istr_few : ∀ n : Nat, n < 64 → (istr (n : Int)).length ≤ 10 := by decide
theorem log_few {n : Nat} (h : n < 64) : (n : Int).natAbs.log2 < 1920 := by
  rw [Int.natAbs_natCast]
  have := Nat.log2_le_self n
  omega
def tblText (ls : List Char) (ps : List (List Char)) : List Char := tx1 ++ ls ++ tx2 ++ istr (ps.length : Nat) ++ tx3
theorem repr_wp {ls : List Char} {ps : List (List Char)} {hb : HB} {Q : R → HB → Prop} (h : TabOk ls ps) (hq : Q (.ok (.str (tblText ls ps))) hb) : wp (ev_Table___repr__ [tbl ls ps] hb) Q := by
  unfold ev_Table___repr__ sv_Table___repr__
  rw [wpF]
  show wp (sRet _ [.sh (tbl ls ps)] hb) _
  have hz := szL_big
  have h7 := h.ab.n7
  have hi := istr_few ps.length h.few
  have mo : ∀ {fr : Fr} {hb : HB}, mOk "Table" "pairs" fr hb (tbl ls ps) = true := fun {fr hb} => by
    unfold mOk insD tbl; simp
  simp -implicitDefEqProofs only [wpF, wpS_seq, wpS_if, wpS_set, wpS_put, wpS_ret, wpS_nil, wpS_drop, wpS_own, wpS_fz, wpS_bx, wpS_asg, wpS_multi, wpM_nil, wpM_v, wpM_o, wpE_op2, wpE_v, wpE_c, wpE_eL, wpEs_cons, wpEs_nil, wpE_callN, wpE_callR, wpE_tup, wpE_lst, wpE_and, wpE_or, wpE_not, wpE_if, wpE_fz, wpE_bx, wpE_bind, wpE_isN, wpE_chain, wpE_cut, wpO_none, wpO_some, wpC_lst, wpC_call, wpC_lrg, wpI_val, wpI_rng1, wpI_rng2, wpI_enum, wpI_zip, wpC_lc, wpC_lc2, wpC_dc, wpS_for, wpA_args, wpC_make, wpS_bm, wpE_bm, wpE_meth, wpE_methR, wpC_meth, wpC_callC, wp_some, onOk, onL, List.getElem?_cons_succ, List.getElem?_cons_zero, List.set_cons_succ, List.set_cons_zero, allVal_cons, allVal_nil, isV_s, isV_i, isV_b, isV_n, isV_t, isV_l, isV_f, isV_d, isV_x, isV_c, isV_r, isV_y, List.length_cons, List.length_nil, Nat.zero_add, Nat.reduceAdd, beq_self_eq_true, Bool.and_true, Bool.true_and, Bool.and_self, decide_true, decide_false, if_true, Bool.not_true, Bool.not_false, dec0, dec1, dec2, dec3, dec4, rtD_s, rtD_i, rtD_b, rtD_n, rtD_t, rtD_l, rtD_x, isN_n, isN_t, isN_s, isN_i, O_dl, O_dd, O_di, v_addI, v_sub, v_intI, v_ordI, v_ordS, v_lenL, v_lenT, v_min2S, v_max2S, v_min2I, v_max2I, v_cutT, v_cutL, v_eqI, v_neI, v_eqS, v_neS, v_eqB, v_neB, v_cint, v_inCh, bne_self_eq_false, Bool.false_bne, Bool.true_bne, Bool.bne_false, Bool.bne_true, stT, stAll, stMI, wipeF, Option.map_some, Option.map_none, wpO_s, wpO_n, wpE_jc, wpE_jn, f_signs, v_fmtS, show ls.length ≤ szL from by omega, mo]
  rw [if_pos (by simp only [List.nil_append, List.length_cons, List.length_nil]; omega), if_pos (by simp only [List.nil_append, List.length_append, List.length_cons, List.length_nil]; omega), if_pos (by simp only [List.nil_append, List.length_append, List.length_cons, List.length_nil]; omega)]
  refine pairs_wp h7 ?_
  simp -implicitDefEqProofs only [wpF, wpS_seq, wpS_if, wpS_set, wpS_put, wpS_ret, wpS_nil, wpS_drop, wpS_own, wpS_fz, wpS_bx, wpS_asg, wpS_multi, wpM_nil, wpM_v, wpM_o, wpE_op2, wpE_v, wpE_c, wpE_eL, wpEs_cons, wpEs_nil, wpE_callN, wpE_callR, wpE_tup, wpE_lst, wpE_and, wpE_or, wpE_not, wpE_if, wpE_fz, wpE_bx, wpE_bind, wpE_isN, wpE_chain, wpE_cut, wpO_none, wpO_some, wpC_lst, wpC_call, wpC_lrg, wpI_val, wpI_rng1, wpI_rng2, wpI_enum, wpI_zip, wpC_lc, wpC_lc2, wpC_dc, wpS_for, wpA_args, wpC_make, wpS_bm, wpE_bm, wpE_meth, wpE_methR, wpC_meth, wpC_callC, wp_some, onOk, onL, List.getElem?_cons_succ, List.getElem?_cons_zero, List.set_cons_succ, List.set_cons_zero, allVal_cons, allVal_nil, isV_s, isV_i, isV_b, isV_n, isV_t, isV_l, isV_f, isV_d, isV_x, isV_c, isV_r, isV_y, List.length_cons, List.length_nil, Nat.zero_add, Nat.reduceAdd, beq_self_eq_true, Bool.and_true, Bool.true_and, Bool.and_self, decide_true, decide_false, if_true, Bool.not_true, Bool.not_false, dec0, dec1, dec2, dec3, dec4, rtD_s, rtD_i, rtD_b, rtD_n, rtD_t, rtD_l, rtD_x, isN_n, isN_t, isN_s, isN_i, O_dl, O_dd, O_di, v_addI, v_sub, v_intI, v_ordI, v_ordS, v_lenL, v_lenT, v_min2S, v_max2S, v_min2I, v_max2I, v_cutT, v_cutL, v_eqI, v_neI, v_eqS, v_neS, v_eqB, v_neB, v_cint, v_inCh, bne_self_eq_false, Bool.false_bne, Bool.true_bne, Bool.bne_false, Bool.bne_true, stT, stAll, stMI, wipeF, Option.map_some, Option.map_none, wpO_s, wpO_n, List.length_map, prs_eq h, v_fmtI, log_few h.few]
  rw [if_pos (by simp only [List.nil_append, List.length_append, List.length_cons, List.length_nil]; omega), if_pos (by simp only [List.nil_append, List.length_append, List.length_cons, List.length_nil]; omega)]
  unfold tblText at hq
  exact hq
/-! ### equality -/
def nbs (ls : List Char) (ps : List (List Char)) : List (List Char) := ls.map fun a => nb ls ps a
theorem dctEq_jn {ls : List Char} {ps qs : List (List Char)} (h : ls.Nodup) : dctEq (ls.map sg) (ls.map fun a => .str (nb ls ps a)) (ls.map sg) (ls.map fun a => .str (nb ls qs a)) = ls.all fun a => decide (nb ls qs a = nb ls ps a) := by
  unfold dctEq
  rw [List.zip_map', List.all_map]
  simp only [beq_self_eq_true, Bool.true_and]
  rw [Bool.eq_iff_iff, List.all_eq_true, List.all_eq_true]
  constructor
  · intro k a ha
    have := k a ha
    simp only [Function.comp] at this
    rw [getD_sg ha] at this
    exact this
  · intro k a ha
    have := k a ha
    simp only [Function.comp]
    rw [getD_sg ha]
    exact this
theorem nb_prs {ls : List Char} {ps qs : List (List Char)} (h : ∀ a ∈ ls, nb ls qs a = nb ls ps a) : prs ls ps = prs ls qs := by
  unfold prs
  have : ∀ as : List Char, (∀ a ∈ as, a ∈ ls) → (as.flatMap fun a => ((nb ls ps a).filter fun b => decide (a.toNat < b.toNat)).map fun b => [a, b]) = as.flatMap fun a => ((nb ls qs a).filter fun b => decide (a.toNat < b.toNat)).map fun b => [a, b] := fun as => by
    induction as with
    | nil => intro _; rfl
    | cons a as ih =>
      intro hs
      rw [List.flatMap_cons, List.flatMap_cons, ih fun x hx => hs x (List.mem_cons_of_mem _ hx), h a (hs a List.mem_cons_self)]
  exact this ls fun _ h => h
theorem eq_wp {ls ks : List Char} {ps qs : List (List Char)} {hb : HB} {Q : R → HB → Prop} (h1 : TabOk ls ps) (h2 : TabOk ks qs) (hq : Q (.ok (.bl (decide (ls = ks) && decide (ps = qs)))) hb) : wp (ev_Table___eq__ [tbl ls ps, tbl ks qs] hb) Q := by
  unfold ev_Table___eq__ sv_Table___eq__
  rw [wpF]
  show wp (sRet _ [.sh (tbl ls ps), .sh (tbl ks qs)] hb) _
  have isi : ∀ {fr : Fr} {hb : HB} {Q : R → HB → Prop}, wp (gIsi ["Table"] [tbl ks qs, .rf "Table"] fr hb) Q = Q (.ok (.bl true)) hb := by with_unfolding_all exact fun {fr hb Q} => rfl
  simp -implicitDefEqProofs only [wpF, wpS_seq, wpS_if, wpS_set, wpS_put, wpS_ret, wpS_nil, wpS_drop, wpS_own, wpS_fz, wpS_bx, wpS_asg, wpS_multi, wpM_nil, wpM_v, wpM_o, wpE_op2, wpE_v, wpE_c, wpE_eL, wpEs_cons, wpEs_nil, wpE_callN, wpE_callR, wpE_tup, wpE_lst, wpE_and, wpE_or, wpE_not, wpE_if, wpE_fz, wpE_bx, wpE_bind, wpE_isN, wpE_chain, wpE_cut, wpO_none, wpO_some, wpC_lst, wpC_call, wpC_lrg, wpI_val, wpI_rng1, wpI_rng2, wpI_enum, wpI_zip, wpC_lc, wpC_lc2, wpC_dc, wpS_for, wpA_args, wpC_make, wpS_bm, wpE_bm, wpE_meth, wpE_methR, wpC_meth, wpC_callC, wp_some, onOk, onL, List.getElem?_cons_succ, List.getElem?_cons_zero, List.set_cons_succ, List.set_cons_zero, allVal_cons, allVal_nil, isV_s, isV_i, isV_b, isV_n, isV_t, isV_l, isV_f, isV_d, isV_x, isV_c, isV_r, isV_y, List.length_cons, List.length_nil, Nat.zero_add, Nat.reduceAdd, beq_self_eq_true, Bool.and_true, Bool.true_and, Bool.and_self, decide_true, decide_false, if_true, Bool.not_true, Bool.not_false, dec0, dec1, dec2, dec3, dec4, rtD_s, rtD_i, rtD_b, rtD_n, rtD_t, rtD_l, rtD_x, isN_n, isN_t, isN_s, isN_i, O_dl, O_dd, O_di, v_addI, v_sub, v_intI, v_ordI, v_ordS, v_lenL, v_lenT, v_min2S, v_max2S, v_min2I, v_max2I, v_cutT, v_cutL, v_eqI, v_neI, v_eqS, v_neS, v_eqB, v_neB, v_cint, v_inCh, bne_self_eq_false, Bool.false_bne, Bool.true_bne, Bool.bne_false, Bool.bne_true, stT, stAll, stMI, wipeF, Option.map_some, Option.map_none, wpO_s, wpO_n, isi, f_signs, f_joined]
  by_cases e : ls = ks
  · subst e
    simp -implicitDefEqProofs only [wpF, wpS_seq, wpS_if, wpS_set, wpS_put, wpS_ret, wpS_nil, wpS_drop, wpS_own, wpS_fz, wpS_bx, wpS_asg, wpS_multi, wpM_nil, wpM_v, wpM_o, wpE_op2, wpE_v, wpE_c, wpE_eL, wpEs_cons, wpEs_nil, wpE_callN, wpE_callR, wpE_tup, wpE_lst, wpE_and, wpE_or, wpE_not, wpE_if, wpE_fz, wpE_bx, wpE_bind, wpE_isN, wpE_chain, wpE_cut, wpO_none, wpO_some, wpC_lst, wpC_call, wpC_lrg, wpI_val, wpI_rng1, wpI_rng2, wpI_enum, wpI_zip, wpC_lc, wpC_lc2, wpC_dc, wpS_for, wpA_args, wpC_make, wpS_bm, wpE_bm, wpE_meth, wpE_methR, wpC_meth, wpC_callC, wp_some, onOk, onL, List.getElem?_cons_succ, List.getElem?_cons_zero, List.set_cons_succ, List.set_cons_zero, allVal_cons, allVal_nil, isV_s, isV_i, isV_b, isV_n, isV_t, isV_l, isV_f, isV_d, isV_x, isV_c, isV_r, isV_y, List.length_cons, List.length_nil, Nat.zero_add, Nat.reduceAdd, beq_self_eq_true, Bool.and_true, Bool.true_and, Bool.and_self, decide_true, decide_false, if_true, Bool.not_true, Bool.not_false, dec0, dec1, dec2, dec3, dec4, rtD_s, rtD_i, rtD_b, rtD_n, rtD_t, rtD_l, rtD_x, isN_n, isN_t, isN_s, isN_i, O_dl, O_dd, O_di, v_addI, v_sub, v_intI, v_ordI, v_ordS, v_lenL, v_lenT, v_min2S, v_max2S, v_min2I, v_max2I, v_cutT, v_cutL, v_eqI, v_neI, v_eqS, v_neS, v_eqB, v_neB, v_cint, v_inCh, bne_self_eq_false, Bool.false_bne, Bool.true_bne, Bool.bne_false, Bool.bne_true, stT, stAll, stMI, wipeF, Option.map_some, Option.map_none, wpO_s, wpO_n, f_joined]
    have ge : ∀ {fr : Fr} {Q : R → HB → Prop}, wp (gEqX (jn ls ps) (jn ls qs) fr hb) Q = Q (.ok (.bl (decide (ps = qs)))) hb := fun {fr Q} => by
      have hd : dctEq (ls.map sg) (ls.map fun a => .str (nb ls ps a)) (ls.map sg) (ls.map fun a => .str (nb ls qs a)) = decide (ps = qs) := by
        rw [dctEq_jn (asc_nd h1.ab.asc), Bool.eq_iff_iff, List.all_eq_true, decide_eq_true_iff]
        constructor
        · intro k
          have := nb_prs (ps := ps) (qs := qs) fun a ha => of_decide_eq_true (k a ha)
          rw [prs_eq h1, prs_eq h2] at this
          exact this
        · rintro rfl a _
          exact decide_eq_true rfl
      have tx : ∀ rs : List (List Char), txtOnly (ls.map fun a => .str (nb ls rs a)) = true := fun rs => by
        have : (ls.map fun a => D.str (nb ls rs a)) = (nbs ls rs).map .str := by unfold nbs; rw [List.map_map]; rfl
        unfold txtOnly
        rw [this, tDs_map]; rfl
      have : gEqX (jn ls ps) (jn ls qs) fr hb = some (.ok (.bl (dctEq (ls.map sg) (ls.map fun a => .str (nb ls ps a)) (ls.map sg) (ls.map fun a => .str (nb ls qs a)))), hb) := by
        show (if (((ls.map sg).all D.isKey && (ls.map sg).all D.isKey) && (txtOnly (ls.map fun a => .str (nb ls ps a)) && txtOnly (ls.map fun a => .str (nb ls qs a))) && (decide ((ls.map sg).length = (ls.map fun a => D.str (nb ls ps a)).length) && decide ((ls.map sg).length = (ls.map fun a => D.str (nb ls qs a)).length))) = true then some (R.ok (.bl (dctEq (ls.map sg) (ls.map fun a => .str (nb ls ps a)) (ls.map sg) (ls.map fun a => .str (nb ls qs a)))), hb) else none) = _
        rw [if_pos (by rw [keys_sg, tx, tx]; simp)]
      rw [this, wp_some, hd]
    simp -implicitDefEqProofs only [wpF, wpS_seq, wpS_if, wpS_set, wpS_put, wpS_ret, wpS_nil, wpS_drop, wpS_own, wpS_fz, wpS_bx, wpS_asg, wpS_multi, wpM_nil, wpM_v, wpM_o, wpE_op2, wpE_v, wpE_c, wpE_eL, wpEs_cons, wpEs_nil, wpE_callN, wpE_callR, wpE_tup, wpE_lst, wpE_and, wpE_or, wpE_not, wpE_if, wpE_fz, wpE_bx, wpE_bind, wpE_isN, wpE_chain, wpE_cut, wpO_none, wpO_some, wpC_lst, wpC_call, wpC_lrg, wpI_val, wpI_rng1, wpI_rng2, wpI_enum, wpI_zip, wpC_lc, wpC_lc2, wpC_dc, wpS_for, wpA_args, wpC_make, wpS_bm, wpE_bm, wpE_meth, wpE_methR, wpC_meth, wpC_callC, wp_some, onOk, onL, List.getElem?_cons_succ, List.getElem?_cons_zero, List.set_cons_succ, List.set_cons_zero, allVal_cons, allVal_nil, isV_s, isV_i, isV_b, isV_n, isV_t, isV_l, isV_f, isV_d, isV_x, isV_c, isV_r, isV_y, List.length_cons, List.length_nil, Nat.zero_add, Nat.reduceAdd, beq_self_eq_true, Bool.and_true, Bool.true_and, Bool.and_self, decide_true, decide_false, if_true, Bool.not_true, Bool.not_false, dec0, dec1, dec2, dec3, dec4, rtD_s, rtD_i, rtD_b, rtD_n, rtD_t, rtD_l, rtD_x, isN_n, isN_t, isN_s, isN_i, O_dl, O_dd, O_di, v_addI, v_sub, v_intI, v_ordI, v_ordS, v_lenL, v_lenT, v_min2S, v_max2S, v_min2I, v_max2I, v_cutT, v_cutL, v_eqI, v_neI, v_eqS, v_neS, v_eqB, v_neB, v_cint, v_inCh, bne_self_eq_false, Bool.false_bne, Bool.true_bne, Bool.bne_false, Bool.bne_true, stT, stAll, stMI, wipeF, Option.map_some, Option.map_none, wpO_s, wpO_n, ge] at hq ⊢
    exact hq
  · simp -implicitDefEqProofs only [wpF, wpS_seq, wpS_if, wpS_set, wpS_put, wpS_ret, wpS_nil, wpS_drop, wpS_own, wpS_fz, wpS_bx, wpS_asg, wpS_multi, wpM_nil, wpM_v, wpM_o, wpE_op2, wpE_v, wpE_c, wpE_eL, wpEs_cons, wpEs_nil, wpE_callN, wpE_callR, wpE_tup, wpE_lst, wpE_and, wpE_or, wpE_not, wpE_if, wpE_fz, wpE_bx, wpE_bind, wpE_isN, wpE_chain, wpE_cut, wpO_none, wpO_some, wpC_lst, wpC_call, wpC_lrg, wpI_val, wpI_rng1, wpI_rng2, wpI_enum, wpI_zip, wpC_lc, wpC_lc2, wpC_dc, wpS_for, wpA_args, wpC_make, wpS_bm, wpE_bm, wpE_meth, wpE_methR, wpC_meth, wpC_callC, wp_some, onOk, onL, List.getElem?_cons_succ, List.getElem?_cons_zero, List.set_cons_succ, List.set_cons_zero, allVal_cons, allVal_nil, isV_s, isV_i, isV_b, isV_n, isV_t, isV_l, isV_f, isV_d, isV_x, isV_c, isV_r, isV_y, List.length_cons, List.length_nil, Nat.zero_add, Nat.reduceAdd, beq_self_eq_true, Bool.and_true, Bool.true_and, Bool.and_self, decide_true, decide_false, if_true, Bool.not_true, Bool.not_false, dec0, dec1, dec2, dec3, dec4, rtD_s, rtD_i, rtD_b, rtD_n, rtD_t, rtD_l, rtD_x, isN_n, isN_t, isN_s, isN_i, O_dl, O_dd, O_di, v_addI, v_sub, v_intI, v_ordI, v_ordS, v_lenL, v_lenT, v_min2S, v_max2S, v_min2I, v_max2I, v_cutT, v_cutL, v_eqI, v_neI, v_eqS, v_neS, v_eqB, v_neB, v_cint, v_inCh, bne_self_eq_false, Bool.false_bne, Bool.true_bne, Bool.bne_false, Bool.bne_true, stT, stAll, stMI, wipeF, Option.map_some, Option.map_none, wpO_s, wpO_n, e, Bool.false_and] at hq ⊢
    exact hq
theorem eqS_wp {ls ks : List Char} {ps : List (List Char)} {hb : HB} {Q : R → HB → Prop} (hq : Q (.ok (.bl false)) hb) : wp (ev_Table___eq__ [tbl ls ps, .str ks] hb) Q := by
  unfold ev_Table___eq__ sv_Table___eq__
  rw [wpF]
  show wp (sRet _ [.sh (tbl ls ps), .sh (.str ks)] hb) _
  have isi : ∀ {fr : Fr} {hb : HB} {Q : R → HB → Prop}, wp (gIsi ["Table"] [.str ks, .rf "Table"] fr hb) Q = Q (.ok (.bl false)) hb := by with_unfolding_all exact fun {fr hb Q} => rfl
  simp -implicitDefEqProofs only [wpF, wpS_seq, wpS_if, wpS_set, wpS_put, wpS_ret, wpS_nil, wpS_drop, wpS_own, wpS_fz, wpS_bx, wpS_asg, wpS_multi, wpM_nil, wpM_v, wpM_o, wpE_op2, wpE_v, wpE_c, wpE_eL, wpEs_cons, wpEs_nil, wpE_callN, wpE_callR, wpE_tup, wpE_lst, wpE_and, wpE_or, wpE_not, wpE_if, wpE_fz, wpE_bx, wpE_bind, wpE_isN, wpE_chain, wpE_cut, wpO_none, wpO_some, wpC_lst, wpC_call, wpC_lrg, wpI_val, wpI_rng1, wpI_rng2, wpI_enum, wpI_zip, wpC_lc, wpC_lc2, wpC_dc, wpS_for, wpA_args, wpC_make, wpS_bm, wpE_bm, wpE_meth, wpE_methR, wpC_meth, wpC_callC, wp_some, onOk, onL, List.getElem?_cons_succ, List.getElem?_cons_zero, List.set_cons_succ, List.set_cons_zero, allVal_cons, allVal_nil, isV_s, isV_i, isV_b, isV_n, isV_t, isV_l, isV_f, isV_d, isV_x, isV_c, isV_r, isV_y, List.length_cons, List.length_nil, Nat.zero_add, Nat.reduceAdd, beq_self_eq_true, Bool.and_true, Bool.true_and, Bool.and_self, decide_true, decide_false, if_true, Bool.not_true, Bool.not_false, dec0, dec1, dec2, dec3, dec4, rtD_s, rtD_i, rtD_b, rtD_n, rtD_t, rtD_l, rtD_x, isN_n, isN_t, isN_s, isN_i, O_dl, O_dd, O_di, v_addI, v_sub, v_intI, v_ordI, v_ordS, v_lenL, v_lenT, v_min2S, v_max2S, v_min2I, v_max2I, v_cutT, v_cutL, v_eqI, v_neI, v_eqS, v_neS, v_eqB, v_neB, v_cint, v_inCh, bne_self_eq_false, Bool.false_bne, Bool.true_bne, Bool.bne_false, Bool.bne_true, stT, stAll, stMI, wipeF, Option.map_some, Option.map_none, wpO_s, wpO_n, isi]
  exact hq
end Lw
set_option Elab.async false
set_option linter.all false
set_option maxRecDepth 100000
set_option maxHeartbeats 4000000
/-! the law k01 -/
namespace Lw
open PySem DI
section
variable {ls ks : List Char} {ps qs : List (List Char)} {hb : HB} {Q : R → HB → Prop} {fr : Fr} {fev : FSem}
theorem wp_one {as : List D} {k : D → HB → Option (R × HB)} (h : allVal as = true) : wp (oneI "Table" fev (tbl ls ps) as k fr hb) Q = wp (fev as hb) (fun r h => match r with
  | .ok x => wp (k x h) Q
  | _ => False) := by
  have e : oneI "Table" fev (tbl ls ps) as k fr hb = match fev as hb with
    | some (.ok x, hb1) => k x hb1
    | _ => none := by
    unfold oneI
    rw [h, isV_tbl]
    rfl
  rw [e]
  rcases fev as hb with _ | ⟨r | x, h⟩
  · simp only [wp_none]
  · simp only [wp_some]
  · simp only [wp_some, wp_none]
theorem wp_prop : wp (gProp "Table" fev (tbl ls ps) fr hb) Q = wp (fev [tbl ls ps] hb) (fun r h => match r with
  | .ok x => Q (.ok x) h
  | _ => False) := by
  have e : gProp "Table" fev (tbl ls ps) fr hb = match fev [tbl ls ps] hb with
    | some (.ok x, hb1) => some (.ok x, hb1)
    | _ => none := by
    unfold gProp
    rw [isV_tbl]
    rfl
  rw [e]
  rcases fev [tbl ls ps] hb with _ | ⟨r | x, h⟩
  · simp only [wp_none]
  · simp only [wp_some]
  · simp only [wp_some, wp_none]
theorem lenI_wp (h : ls.length ≤ 7) : wp (gLenI "Table" ev_Table___len__ [tbl ls ps] fr hb) Q = Q (.ok (.int ls.length)) hb := by
  show wp (oneI _ _ _ _ _ fr hb) Q = _
  have hz := szL_big
  rw [wp_one (by rfl), len_wp (by omega)]
  show wp (if decide (0 ≤ (ls.length : Int)) && decide ((ls.length : Int) < 9223372036854775808) then some (R.ok (.int ls.length), hb) else none) Q = _
  rw [if_pos (by simp only [Bool.and_eq_true, decide_eq_true_eq]; omega), wp_some]
theorem reprI_wp (h : TabOk ls ps) (hq : Q (.ok (.str (tblText ls ps))) hb) : wp (gReprI "Table" ev_Table___repr__ [tbl ls ps] fr hb) Q := by
  show wp (oneI _ _ _ _ _ fr hb) Q
  rw [wp_one (by rfl)]
  refine repr_wp h ?_
  show wp (some (R.ok (.str (tblText ls ps)), hb)) Q
  exact wp_i hq
theorem inI_wp {s : List Char} (hs : s.length ≤ 100) (h : ls.length ≤ 7) (hq : Q (.ok (.bl (inT ls ps s))) hb) : wp (gInI "Table" false ev_Table___contains__ (.str s) (tbl ls ps) fr hb) Q := by
  show wp (oneI _ _ _ _ _ fr hb) Q
  rw [wp_one (by rfl)]
  refine contains_wp hs (by omega) ?_
  show wp (some (R.ok (.bl (false != inT ls ps s)), hb)) Q
  rw [Bool.false_bne]
  exact wp_i hq
theorem eqI_wp (h1 : TabOk ls ps) (h2 : TabOk ks qs) (hq : Q (.ok (.bl (decide (ls = ks) && decide (ps = qs)))) hb) : wp (gEqI "Table" ["Table"] ev_Table___eq__ (tbl ls ps) (tbl ks qs) fr hb) Q := by
  have e : gEqI "Table" ["Table"] ev_Table___eq__ (tbl ls ps) (tbl ks qs) fr hb = oneI "Table" ev_Table___eq__ (tbl ls ps) [tbl ls ps, tbl ks qs] (kBl false) fr hb := by
    unfold gEqI tbl
    simp [tyN, okT]
  rw [e, wp_one (by rfl)]
  refine eq_wp h1 h2 ?_
  show wp (some (R.ok (.bl (false != (decide (ls = ks) && decide (ps = qs)))), hb)) Q
  rw [Bool.false_bne]
  exact wp_i hq
theorem eqIS_wp (hq : Q (.ok (.bl false)) hb) : wp (gEqI "Table" ["Table"] ev_Table___eq__ (tbl ls ps) (.str ks) fr hb) Q := by
  have e : gEqI "Table" ["Table"] ev_Table___eq__ (tbl ls ps) (.str ks) fr hb = oneI "Table" ev_Table___eq__ (tbl ls ps) [tbl ls ps, .str ks] (kBl false) fr hb := by
    unfold gEqI tbl
    simp [tyN, okT, bTys]
  rw [e, wp_one (by rfl)]
  refine eqS_wp ?_
  show wp (some (R.ok (.bl (false != false)), hb)) Q
  exact wp_i hq
end
/-- the law's opening -/
theorem open_wp {ns : List Int} {Q : R → HB → Prop} (h : ns.length ≤ 63) (hq : ∀ hb', Box hb' 0 → Q (.ok (.box 0)) hb') : wp (ev__law_open [.fz (ns.map .int)] []) Q := by
  unfold ev__law_open sv__law_open
  rw [wpF]
  show wp (sSeq _ _ [.sh (.fz (ns.map .int)), .un, .un, .un] []) _
  have hz := szL_big
  have ec : cutL (ns.map D.int) none (some 63) = ns.map .int := by
    unfold cutL
    have e1 : HT.sIx (ns.map D.int).length 0 none = 0 := rfl
    have e2 : HT.sIx (ns.map D.int).length (ns.map D.int).length (some 63) = min 63 (ns.map D.int).length := rfl
    rw [e1, e2, List.length_map]
    simp only [List.drop_zero, Nat.sub_zero]
    exact List.take_of_length_le (by rw [List.length_map]; omega)
  refine wp_seq (fun f hb => (∃ s3, f = [.sh (.fz (ns.map .int)), .sh (.lst (ns.map .int)), .un, s3]) ∧ [] = hb) ?_ ?_
  · simp -implicitDefEqProofs only [wpF, wpS_seq, wpS_if, wpS_set, wpS_put, wpS_ret, wpS_nil, wpS_drop, wpS_own, wpS_fz, wpS_bx, wpS_asg, wpS_multi, wpM_nil, wpM_v, wpM_o, wpE_op2, wpE_v, wpE_c, wpE_eL, wpEs_cons, wpEs_nil, wpE_callN, wpE_callR, wpE_tup, wpE_lst, wpE_and, wpE_or, wpE_not, wpE_if, wpE_fz, wpE_bx, wpE_bind, wpE_isN, wpE_chain, wpE_cut, wpO_none, wpO_some, wpC_lst, wpC_call, wpC_lrg, wpI_val, wpI_rng1, wpI_rng2, wpI_enum, wpI_zip, wpC_lc, wpC_lc2, wpC_dc, wpS_for, wpA_args, wpC_make, wpS_bm, wpE_bm, wpE_meth, wpE_methR, wpC_meth, wpC_callC, wp_some, onOk, onL, List.getElem?_cons_succ, List.getElem?_cons_zero, List.set_cons_succ, List.set_cons_zero, allVal_cons, allVal_nil, isV_s, isV_i, isV_b, isV_n, isV_t, isV_l, isV_f, isV_d, isV_x, isV_c, isV_r, isV_y, List.length_cons, List.length_nil, Nat.zero_add, Nat.reduceAdd, beq_self_eq_true, Bool.and_true, Bool.true_and, Bool.and_self, decide_true, decide_false, if_true, Bool.not_true, Bool.not_false, dec0, dec1, dec2, dec3, dec4, rtD_s, rtD_i, rtD_b, rtD_n, rtD_t, rtD_l, rtD_x, isN_n, isN_t, isN_s, isN_i, O_dl, O_dd, O_di, v_addI, v_sub, v_intI, v_ordI, v_ordS, v_lenL, v_lenT, v_min2S, v_max2S, v_min2I, v_max2I, v_cutT, v_cutL, v_eqI, v_neI, v_eqS, v_neS, v_eqB, v_neB, v_cint, v_inCh, bne_self_eq_false, Bool.false_bne, Bool.true_bne, Bool.bne_false, Bool.bne_true, stT, stAll, stMI, wipeF, Option.map_some, Option.map_none, wpO_s, wpO_n, v_cutF, ec]
    refine wp_lcM (g := D.int) (fun _ => true) (fun i => .int i) ns [] (fun i hi => ⟨_, rfl, by rw [wpE_c]; exact ⟨rfl, rfl⟩, fun _ => ⟨?_, rfl⟩⟩) (by simp only [List.length_nil]; omega) ?_
    · simp -implicitDefEqProofs only [wpF, wpS_seq, wpS_if, wpS_set, wpS_put, wpS_ret, wpS_nil, wpS_drop, wpS_own, wpS_fz, wpS_bx, wpS_asg, wpS_multi, wpM_nil, wpM_v, wpM_o, wpE_op2, wpE_v, wpE_c, wpE_eL, wpEs_cons, wpEs_nil, wpE_callN, wpE_callR, wpE_tup, wpE_lst, wpE_and, wpE_or, wpE_not, wpE_if, wpE_fz, wpE_bx, wpE_bind, wpE_isN, wpE_chain, wpE_cut, wpO_none, wpO_some, wpC_lst, wpC_call, wpC_lrg, wpI_val, wpI_rng1, wpI_rng2, wpI_enum, wpI_zip, wpC_lc, wpC_lc2, wpC_dc, wpS_for, wpA_args, wpC_make, wpS_bm, wpE_bm, wpE_meth, wpE_methR, wpC_meth, wpC_callC, wp_some, onOk, onL, List.getElem?_cons_succ, List.getElem?_cons_zero, List.set_cons_succ, List.set_cons_zero, allVal_cons, allVal_nil, isV_s, isV_i, isV_b, isV_n, isV_t, isV_l, isV_f, isV_d, isV_x, isV_c, isV_r, isV_y, List.length_cons, List.length_nil, Nat.zero_add, Nat.reduceAdd, beq_self_eq_true, Bool.and_true, Bool.true_and, Bool.and_self, decide_true, decide_false, if_true, Bool.not_true, Bool.not_false, dec0, dec1, dec2, dec3, dec4, rtD_s, rtD_i, rtD_b, rtD_n, rtD_t, rtD_l, rtD_x, isN_n, isN_t, isN_s, isN_i, O_dl, O_dd, O_di, v_addI, v_sub, v_intI, v_ordI, v_ordS, v_lenL, v_lenT, v_min2S, v_max2S, v_min2I, v_max2I, v_cutT, v_cutL, v_eqI, v_neI, v_eqS, v_neS, v_eqB, v_neB, v_cint, v_inCh, bne_self_eq_false, Bool.false_bne, Bool.true_bne, Bool.bne_false, Bool.bne_true, stT, stAll, stMI, wipeF, Option.map_some, Option.map_none, wpO_s, wpO_n]
      exact ⟨trivial, trivial⟩
    simp -implicitDefEqProofs only [wpF, wpS_seq, wpS_if, wpS_set, wpS_put, wpS_ret, wpS_nil, wpS_drop, wpS_own, wpS_fz, wpS_bx, wpS_asg, wpS_multi, wpM_nil, wpM_v, wpM_o, wpE_op2, wpE_v, wpE_c, wpE_eL, wpEs_cons, wpEs_nil, wpE_callN, wpE_callR, wpE_tup, wpE_lst, wpE_and, wpE_or, wpE_not, wpE_if, wpE_fz, wpE_bx, wpE_bind, wpE_isN, wpE_chain, wpE_cut, wpO_none, wpO_some, wpC_lst, wpC_call, wpC_lrg, wpI_val, wpI_rng1, wpI_rng2, wpI_enum, wpI_zip, wpC_lc, wpC_lc2, wpC_dc, wpS_for, wpA_args, wpC_make, wpS_bm, wpE_bm, wpE_meth, wpE_methR, wpC_meth, wpC_callC, wp_some, onOk, onL, List.getElem?_cons_succ, List.getElem?_cons_zero, List.set_cons_succ, List.set_cons_zero, allVal_cons, allVal_nil, isV_s, isV_i, isV_b, isV_n, isV_t, isV_l, isV_f, isV_d, isV_x, isV_c, isV_r, isV_y, List.length_cons, List.length_nil, Nat.zero_add, Nat.reduceAdd, beq_self_eq_true, Bool.and_true, Bool.true_and, Bool.and_self, decide_true, decide_false, if_true, Bool.not_true, Bool.not_false, dec0, dec1, dec2, dec3, dec4, rtD_s, rtD_i, rtD_b, rtD_n, rtD_t, rtD_l, rtD_x, isN_n, isN_t, isN_s, isN_i, O_dl, O_dd, O_di, v_addI, v_sub, v_intI, v_ordI, v_ordS, v_lenL, v_lenT, v_min2S, v_max2S, v_min2I, v_max2I, v_cutT, v_cutL, v_eqI, v_neI, v_eqS, v_neS, v_eqB, v_neB, v_cint, v_inCh, bne_self_eq_false, Bool.false_bne, Bool.true_bne, Bool.bne_false, Bool.bne_true, stT, stAll, stMI, wipeF, Option.map_some, Option.map_none, wpO_s, wpO_n, List.nil_append]
    rw [if_pos (by decide)]
    rw [List.filter_eq_self.mpr (fun _ _ => rfl)]
    exact ⟨⟨_, rfl⟩, trivial⟩
  rintro f _ ⟨⟨s3, rfl⟩, rfl⟩
  refine wp_seq (fun f hb => (∃ k : Int, f = [.sh (.fz (ns.map .int)), .sh (.lst (ns.map .int)), .sh (.int k), s3]) ∧ [] = hb) ?_ ?_
  · simp -implicitDefEqProofs only [wpF, wpS_seq, wpS_if, wpS_set, wpS_put, wpS_ret, wpS_nil, wpS_drop, wpS_own, wpS_fz, wpS_bx, wpS_asg, wpS_multi, wpM_nil, wpM_v, wpM_o, wpE_op2, wpE_v, wpE_c, wpE_eL, wpEs_cons, wpEs_nil, wpE_callN, wpE_callR, wpE_tup, wpE_lst, wpE_and, wpE_or, wpE_not, wpE_if, wpE_fz, wpE_bx, wpE_bind, wpE_isN, wpE_chain, wpE_cut, wpO_none, wpO_some, wpC_lst, wpC_call, wpC_lrg, wpI_val, wpI_rng1, wpI_rng2, wpI_enum, wpI_zip, wpC_lc, wpC_lc2, wpC_dc, wpS_for, wpA_args, wpC_make, wpS_bm, wpE_bm, wpE_meth, wpE_methR, wpC_meth, wpC_callC, wp_some, onOk, onL, List.getElem?_cons_succ, List.getElem?_cons_zero, List.set_cons_succ, List.set_cons_zero, allVal_cons, allVal_nil, isV_s, isV_i, isV_b, isV_n, isV_t, isV_l, isV_f, isV_d, isV_x, isV_c, isV_r, isV_y, List.length_cons, List.length_nil, Nat.zero_add, Nat.reduceAdd, beq_self_eq_true, Bool.and_true, Bool.true_and, Bool.and_self, decide_true, decide_false, if_true, Bool.not_true, Bool.not_false, dec0, dec1, dec2, dec3, dec4, rtD_s, rtD_i, rtD_b, rtD_n, rtD_t, rtD_l, rtD_x, isN_n, isN_t, isN_s, isN_i, O_dl, O_dd, O_di, v_addI, v_sub, v_intI, v_ordI, v_ordS, v_lenL, v_lenT, v_min2S, v_max2S, v_min2I, v_max2I, v_cutT, v_cutL, v_eqI, v_neI, v_eqS, v_neS, v_eqB, v_neB, v_cint, v_inCh, bne_self_eq_false, Bool.false_bne, Bool.true_bne, Bool.bne_false, Bool.bne_true, stT, stAll, stMI, wipeF, Option.map_some, Option.map_none, wpO_s, wpO_n, v_mulI]
    rw [if_pos (.inl (by decide))]
    exact ⟨⟨_, rfl⟩, trivial⟩
  rintro f _ ⟨⟨k, rfl⟩, rfl⟩
  refine wp_seq (fun f hb => (∃ (k : Int) (s3 : SV), f = [.sh (.fz (ns.map .int)), .sh (.lst (ns.map .int)), .sh (.int k), s3]) ∧ [] = hb) ?_ ?_
  · simp -implicitDefEqProofs only [wpF, wpS_seq, wpS_if, wpS_set, wpS_put, wpS_ret, wpS_nil, wpS_drop, wpS_own, wpS_fz, wpS_bx, wpS_asg, wpS_multi, wpM_nil, wpM_v, wpM_o, wpE_op2, wpE_v, wpE_c, wpE_eL, wpEs_cons, wpEs_nil, wpE_callN, wpE_callR, wpE_tup, wpE_lst, wpE_and, wpE_or, wpE_not, wpE_if, wpE_fz, wpE_bx, wpE_bind, wpE_isN, wpE_chain, wpE_cut, wpO_none, wpO_some, wpC_lst, wpC_call, wpC_lrg, wpI_val, wpI_rng1, wpI_rng2, wpI_enum, wpI_zip, wpC_lc, wpC_lc2, wpC_dc, wpS_for, wpA_args, wpC_make, wpS_bm, wpE_bm, wpE_meth, wpE_methR, wpC_meth, wpC_callC, wp_some, onOk, onL, List.getElem?_cons_succ, List.getElem?_cons_zero, List.set_cons_succ, List.set_cons_zero, allVal_cons, allVal_nil, isV_s, isV_i, isV_b, isV_n, isV_t, isV_l, isV_f, isV_d, isV_x, isV_c, isV_r, isV_y, List.length_cons, List.length_nil, Nat.zero_add, Nat.reduceAdd, beq_self_eq_true, Bool.and_true, Bool.true_and, Bool.and_self, decide_true, decide_false, if_true, Bool.not_true, Bool.not_false, dec0, dec1, dec2, dec3, dec4, rtD_s, rtD_i, rtD_b, rtD_n, rtD_t, rtD_l, rtD_x, isN_n, isN_t, isN_s, isN_i, O_dl, O_dd, O_di, v_addI, v_sub, v_intI, v_ordI, v_ordS, v_lenL, v_lenT, v_min2S, v_max2S, v_min2I, v_max2I, v_cutT, v_cutL, v_eqI, v_neI, v_eqS, v_neS, v_eqB, v_neB, v_cint, v_inCh, bne_self_eq_false, Bool.false_bne, Bool.true_bne, Bool.bne_false, Bool.bne_true, stT, stAll, stMI, wipeF, Option.map_some, Option.map_none, wpO_s, wpO_n]
    refine wp_for (fun done rest f hb => (∃ (k : Int) (s3 : SV), f = [.sh (.fz (ns.map .int)), .sh (.lst (ns.map .int)), .sh (.int k), s3]) ∧ [] = hb ∧ done ++ rest = ns.map .int) [] _ _ _ ⟨⟨_, _, rfl⟩, rfl, rfl⟩ ?_ ?_
    · rintro done d rest f _ ⟨⟨k, s3, rfl⟩, rfl, hr⟩
      obtain ⟨hi, rfl⟩ := map_at hr
      refine ⟨_, rfl, ?_⟩
      simp -implicitDefEqProofs only [wpF, wpS_seq, wpS_if, wpS_set, wpS_put, wpS_ret, wpS_nil, wpS_drop, wpS_own, wpS_fz, wpS_bx, wpS_asg, wpS_multi, wpM_nil, wpM_v, wpM_o, wpE_op2, wpE_v, wpE_c, wpE_eL, wpEs_cons, wpEs_nil, wpE_callN, wpE_callR, wpE_tup, wpE_lst, wpE_and, wpE_or, wpE_not, wpE_if, wpE_fz, wpE_bx, wpE_bind, wpE_isN, wpE_chain, wpE_cut, wpO_none, wpO_some, wpC_lst, wpC_call, wpC_lrg, wpI_val, wpI_rng1, wpI_rng2, wpI_enum, wpI_zip, wpC_lc, wpC_lc2, wpC_dc, wpS_for, wpA_args, wpC_make, wpS_bm, wpE_bm, wpE_meth, wpE_methR, wpC_meth, wpC_callC, wp_some, onOk, onL, List.getElem?_cons_succ, List.getElem?_cons_zero, List.set_cons_succ, List.set_cons_zero, allVal_cons, allVal_nil, isV_s, isV_i, isV_b, isV_n, isV_t, isV_l, isV_f, isV_d, isV_x, isV_c, isV_r, isV_y, List.length_cons, List.length_nil, Nat.zero_add, Nat.reduceAdd, beq_self_eq_true, Bool.and_true, Bool.true_and, Bool.and_self, decide_true, decide_false, if_true, Bool.not_true, Bool.not_false, dec0, dec1, dec2, dec3, dec4, rtD_s, rtD_i, rtD_b, rtD_n, rtD_t, rtD_l, rtD_x, isN_n, isN_t, isN_s, isN_i, O_dl, O_dd, O_di, v_addI, v_sub, v_intI, v_ordI, v_ordS, v_lenL, v_lenT, v_min2S, v_max2S, v_min2I, v_max2I, v_cutT, v_cutL, v_eqI, v_neI, v_eqS, v_neS, v_eqB, v_neB, v_cint, v_inCh, bne_self_eq_false, Bool.false_bne, Bool.true_bne, Bool.bne_false, Bool.bne_true, stT, stAll, stMI, wipeF, Option.map_some, Option.map_none, wpO_s, wpO_n, v_mulI, v_mod]
      rw [if_pos (.inr (by decide))]
      rw [if_pos (by decide)]
      exact ⟨⟨_, _, rfl⟩, trivial, by rw [List.append_assoc]; exact hr⟩
    · rintro done f hb ⟨hf, he, _⟩
      exact ⟨hf, he⟩
  rintro f _ ⟨⟨k, s3, rfl⟩, rfl⟩
  simp -implicitDefEqProofs only [wpF, wpS_seq, wpS_if, wpS_set, wpS_put, wpS_ret, wpS_nil, wpS_drop, wpS_own, wpS_fz, wpS_bx, wpS_asg, wpS_multi, wpM_nil, wpM_v, wpM_o, wpE_op2, wpE_v, wpE_c, wpE_eL, wpEs_cons, wpEs_nil, wpE_callN, wpE_callR, wpE_tup, wpE_lst, wpE_and, wpE_or, wpE_not, wpE_if, wpE_fz, wpE_bx, wpE_bind, wpE_isN, wpE_chain, wpE_cut, wpO_none, wpO_some, wpC_lst, wpC_call, wpC_lrg, wpI_val, wpI_rng1, wpI_rng2, wpI_enum, wpI_zip, wpC_lc, wpC_lc2, wpC_dc, wpS_for, wpA_args, wpC_make, wpS_bm, wpE_bm, wpE_meth, wpE_methR, wpC_meth, wpC_callC, wp_some, onOk, onL, List.getElem?_cons_succ, List.getElem?_cons_zero, List.set_cons_succ, List.set_cons_zero, allVal_cons, allVal_nil, isV_s, isV_i, isV_b, isV_n, isV_t, isV_l, isV_f, isV_d, isV_x, isV_c, isV_r, isV_y, List.length_cons, List.length_nil, Nat.zero_add, Nat.reduceAdd, beq_self_eq_true, Bool.and_true, Bool.true_and, Bool.and_self, decide_true, decide_false, if_true, Bool.not_true, Bool.not_false, dec0, dec1, dec2, dec3, dec4, rtD_s, rtD_i, rtD_b, rtD_n, rtD_t, rtD_l, rtD_x, isN_n, isN_t, isN_s, isN_i, O_dl, O_dd, O_di, v_addI, v_sub, v_intI, v_ordI, v_ordS, v_lenL, v_lenT, v_min2S, v_max2S, v_min2I, v_max2I, v_cutT, v_cutL, v_eqI, v_neI, v_eqS, v_neS, v_eqB, v_neB, v_cint, v_inCh, bne_self_eq_false, Bool.false_bne, Bool.true_bne, Bool.bne_false, Bool.bne_true, stT, stAll, stMI, wipeF, Option.map_some, Option.map_none, wpO_s, wpO_n]
  refine hq _ ⟨ns, 0, 0, k, rfl, by decide⟩
end Lw
set_option Elab.async false
set_option linter.all false
set_option maxRecDepth 100000
set_option maxHeartbeats 4000000
namespace Lw
open PySem DI
theorem cut_to {α : Type} (xs : List α) (k : Nat) : cutL xs none (some (k : Int)) = xs.take k := by
  unfold cutL
  have e1 : HT.sIx xs.length 0 none = 0 := rfl
  have e2 : HT.sIx xs.length xs.length (some (k : Int)) = min k xs.length := by
    show (if (k : Int) < 0 then ((k : Int) + (xs.length : Int)).toNat else min (k : Int).toNat xs.length) = _
    rw [if_neg (by omega), Int.toNat_natCast]
  rw [e1, e2, List.drop_zero, Nat.sub_zero]
  by_cases h : k ≤ xs.length
  · rw [Nat.min_eq_left h]
  · rw [Nat.min_eq_right (by omega), List.take_of_length_le (Nat.le_refl _), List.take_of_length_le (by omega)]
theorem cut_last {α : Type} (xs : List α) : cutL xs none (some (-1)) = xs.dropLast := by
  unfold cutL
  have e1 : HT.sIx xs.length 0 none = 0 := rfl
  have e2 : HT.sIx xs.length xs.length (some (-1)) = xs.length - 1 := by
    show (if (-1 : Int) < 0 then ((-1 : Int) + (xs.length : Int)).toNat else min (-1 : Int).toNat xs.length) = _
    rw [if_pos (by decide)]; omega
  rw [e1, e2, List.drop_zero, Nat.sub_zero, List.dropLast_eq_take]
def unS : D → List Char
  | .str s => s
  | _ => []
theorem perm_strs {ys : List D} {xs : List (List Char)} (h : ys.Perm (xs.map .str)) : ∃ zs : List (List Char), zs.Perm xs ∧ ys = zs.map .str := by
  refine ⟨ys.map unS, ?_, ?_⟩
  · have := h.map unS
    rw [List.map_map] at this
    have e : xs.map (unS ∘ D.str) = xs := by
      have : (unS ∘ D.str) = id := rfl
      rw [this, List.map_id]
    rw [e] at this
    exact this
  · rw [List.map_map]
    have : ∀ y ∈ ys, (D.str ∘ unS) y = y := fun y hy => by
      have := h.mem_iff.mp hy
      obtain ⟨x, _, rfl⟩ := List.mem_map.mp this
      rfl
    exact ((List.map_congr_left this).trans (List.map_id _)).symm
/-- what is handed over stands for the pairs -/
def Hand (ps hs : List (List Char)) : Prop := (∀ x ∈ hs, ∃ p ∈ ps, x = p ∨ x = p.reverse) ∧ ∀ p ∈ ps, p ∈ hs ∨ p.reverse ∈ hs
theorem tab_ne {ls : List Char} {ps : List (List Char)} (h : TabOk ls ps) {a b : Char} (hp : [a, b] ∈ ps) : a.toNat < b.toNat ∧ a ∈ ls ∧ b ∈ ls := by
  obtain ⟨c, d, hc, hd, hlt, e⟩ := h.pr _ hp
  injection e with e1 e
  injection e with e2 _
  subst e1
  subst e2
  exact ⟨hlt, hc, hd⟩
theorem hand_J {ls : List Char} {ps hs : List (List Char)} (h : TabOk ls ps) (g : Hand ps hs) (a b : Char) : ([a, b] ∈ hs ∨ [b, a] ∈ hs) ↔ J ps a b = true := by
  have rev2 : ∀ {p : List Char} {x y : Char}, [x, y] = p.reverse → p = [y, x] := fun {p x y} e => by
    have := congrArg List.reverse e
    rw [List.reverse_reverse] at this
    exact this.symm
  have key : ∀ {x y : Char}, [x, y] ∈ hs → pr x y ∈ ps := fun {x y} hm => by
    obtain ⟨p, hp, e⟩ := g.1 _ hm
    rcases e with e | e
    · subst e
      rw [pr_lt (tab_ne h hp).1]; exact hp
    · have := rev2 e
      subst this
      rw [pr_comm, pr_lt (tab_ne h hp).1]; exact hp
  unfold J
  rw [decide_eq_true_iff]
  constructor
  · rintro (q | q)
    · exact key q
    · rw [pr_comm]; exact key q
  · intro q
    have := g.2 _ q
    unfold pr at this q
    split at this
    · rcases this with z | z
      · exact .inr z
      · exact .inl z
    · rcases this with z | z
      · exact .inl z
      · exact .inr z
theorem hand_pair {ls : List Char} {ps hs : List (List Char)} (h : TabOk ls ps) (g : Hand ps hs) {p : List Char} (hp : p ∈ hs) : isPair p ls = true ∧ p.length ≤ 10 := by
  obtain ⟨q, hq, e⟩ := g.1 _ hp
  obtain ⟨a, b, ha, hb, hlt, rfl⟩ := h.pr _ hq
  have ne : ¬ a = b := fun e => by rw [e] at hlt; omega
  rcases e with rfl | rfl
  · exact ⟨by unfold isPair; simp [ha, hb, ne], by simp⟩
  · exact ⟨by show isPair [b, a] ls = true; unfold isPair; simp [ha, hb, Ne.symm ne], by simp⟩
theorem hand_self {ps : List (List Char)} : Hand ps ps := ⟨fun x hx => ⟨x, hx, .inl rfl⟩, fun p hp => .inl hp⟩
theorem handed_wp {ls : List Char} {ps hs : List (List Char)} {pd : D} {hb : HB} {QO : O ⊕ Xn → HB → Prop} (h : TabOk ls ps) (g : Hand ps hs) (hS : SeqB hb pd hs) (hq : QO (.inl (tblO ls ps)) hb) : wp (ev_Table___init__ [.str ls, pd] hb) QO :=
  init_wp h.ab h.sq hS (fun p hp => (hand_pair h g hp).1) (fun p hp => (hand_pair h g hp).2) (fun a _ b _ => hand_J h g a b) hq
theorem tblO_d {ls : List Char} {ps : List (List Char)} : (tblO ls ps).d = tbl ls ps := rfl
theorem tab_sub {ls : List Char} {ps qs : List (List Char)} (h : TabOk ls ps) (s : qs.Sublist ps) : TabOk ls qs := by
  refine ⟨h.ab, fun p hp => h.pr p (s.subset hp), h.nd.sublist s, Nat.lt_of_le_of_lt s.length_le h.few, fun i j hij hj => ?_, h.srt.sublist s⟩
  have := h.sq i j hij hj
  refine Nat.le_trans ?_ this
  have jj : ∀ {a b : Char}, J qs a b = true → J ps a b = true := fun {a b} k => by
    unfold J at k ⊢
    exact decide_eq_true (s.subset (of_decide_eq_true k))
  unfold com
  have e : (ls.filter (J qs ls[i])).filter (J qs ls[j]) = ((ls.filter (J ps ls[i])).filter (J ps ls[j])).filter fun c => J qs ls[i] c && J qs ls[j] c := by
    rw [List.filter_filter, List.filter_filter, List.filter_filter]
    refine List.filter_congr fun c _ => ?_
    cases q1 : J qs ls[i] c <;> cases q2 : J qs ls[j] c <;> simp
    exact ⟨jj q2, jj q1⟩
  rw [e]
  exact List.length_filter_le _ _

theorem law_ok {ns : List Int} (h63 : ns.length ≤ 63) : ∃ hb, ev_law [.fz (ns.map .int)] [] = some (.ok (.bl true), hb) := by
  suffices wp (ev_law [.fz (ns.map .int)] []) fun r _ => r = .ok (.bl true) by
    obtain ⟨r, hb, e, rfl⟩ := wp_ex.mp this
    exact ⟨hb, e⟩
  unfold ev_law sv_law
  rw [wpF]
  show wp (sSeq _ _ [.sh (.fz (ns.map .int)), .un, .un, .un, .un, .un, .un, .un, .un, .un, .un, .un, .un, .un, .un] []) _
  have hz := szL_big
  -- box
  refine wp_seq (fun f h => f = [.sh (.fz (ns.map .int)), .sh (.box 0), .un, .un, .un, .un, .un, .un, .un, .un, .un, .un, .un, .un, .un] ∧ Box h 0) ?_ ?_
  · simp -implicitDefEqProofs only [wpF, wpS_seq, wpS_if, wpS_set, wpS_put, wpS_ret, wpS_nil, wpS_drop, wpS_own, wpS_fz, wpS_bx, wpS_asg, wpS_multi, wpM_nil, wpM_v, wpM_o, wpE_op2, wpE_v, wpE_c, wpE_eL, wpEs_cons, wpEs_nil, wpE_callN, wpE_callR, wpE_tup, wpE_lst, wpE_and, wpE_or, wpE_not, wpE_if, wpE_fz, wpE_bx, wpE_bind, wpE_isN, wpE_chain, wpE_cut, wpO_none, wpO_some, wpC_lst, wpC_call, wpC_lrg, wpI_val, wpI_rng1, wpI_rng2, wpI_enum, wpI_zip, wpC_lc, wpC_lc2, wpC_dc, wpS_for, wpA_args, wpC_make, wpS_bm, wpE_bm, wpE_meth, wpE_methR, wpC_meth, wpC_callC, wp_some, onOk, onL, List.getElem?_cons_succ, List.getElem?_cons_zero, List.set_cons_succ, List.set_cons_zero, allVal_cons, allVal_nil, isV_s, isV_i, isV_b, isV_n, isV_t, isV_l, isV_f, isV_d, isV_x, isV_c, isV_r, isV_y, List.length_cons, List.length_nil, Nat.zero_add, Nat.reduceAdd, beq_self_eq_true, Bool.and_true, Bool.true_and, Bool.and_self, decide_true, decide_false, if_true, Bool.not_true, Bool.not_false, dec0, dec1, dec2, dec3, dec4, rtD_s, rtD_i, rtD_b, rtD_n, rtD_t, rtD_l, rtD_x, isN_n, isN_t, isN_s, isN_i, O_dl, O_dd, O_di, v_addI, v_sub, v_intI, v_ordI, v_ordS, v_lenL, v_lenT, v_min2S, v_max2S, v_min2I, v_max2I, v_cutT, v_cutL, v_eqI, v_neI, v_eqS, v_neS, v_eqB, v_neB, v_cint, v_inCh, bne_self_eq_false, Bool.false_bne, Bool.true_bne, Bool.bne_false, Bool.bne_true, stT, stAll, stMI, wipeF, Option.map_some, Option.map_none, wpO_s, wpO_n]
    refine open_wp h63 fun hb' hB => ?_
    simp -implicitDefEqProofs only [wpF, wpS_seq, wpS_if, wpS_set, wpS_put, wpS_ret, wpS_nil, wpS_drop, wpS_own, wpS_fz, wpS_bx, wpS_asg, wpS_multi, wpM_nil, wpM_v, wpM_o, wpE_op2, wpE_v, wpE_c, wpE_eL, wpEs_cons, wpEs_nil, wpE_callN, wpE_callR, wpE_tup, wpE_lst, wpE_and, wpE_or, wpE_not, wpE_if, wpE_fz, wpE_bx, wpE_bind, wpE_isN, wpE_chain, wpE_cut, wpO_none, wpO_some, wpC_lst, wpC_call, wpC_lrg, wpI_val, wpI_rng1, wpI_rng2, wpI_enum, wpI_zip, wpC_lc, wpC_lc2, wpC_dc, wpS_for, wpA_args, wpC_make, wpS_bm, wpE_bm, wpE_meth, wpE_methR, wpC_meth, wpC_callC, wp_some, onOk, onL, List.getElem?_cons_succ, List.getElem?_cons_zero, List.set_cons_succ, List.set_cons_zero, allVal_cons, allVal_nil, isV_s, isV_i, isV_b, isV_n, isV_t, isV_l, isV_f, isV_d, isV_x, isV_c, isV_r, isV_y, List.length_cons, List.length_nil, Nat.zero_add, Nat.reduceAdd, beq_self_eq_true, Bool.and_true, Bool.true_and, Bool.and_self, decide_true, decide_false, if_true, Bool.not_true, Bool.not_false, dec0, dec1, dec2, dec3, dec4, rtD_s, rtD_i, rtD_b, rtD_n, rtD_t, rtD_l, rtD_x, isN_n, isN_t, isN_s, isN_i, O_dl, O_dd, O_di, v_addI, v_sub, v_intI, v_ordI, v_ordS, v_lenL, v_lenT, v_min2S, v_max2S, v_min2I, v_max2I, v_cutT, v_cutL, v_eqI, v_neI, v_eqS, v_neS, v_eqB, v_neB, v_cint, v_inCh, bne_self_eq_false, Bool.false_bne, Bool.true_bne, Bool.bne_false, Bool.bne_true, stT, stAll, stMI, wipeF, Option.map_some, Option.map_none, wpO_s, wpO_n]
    exact ⟨trivial, hB⟩
  rintro f h ⟨rfl, hB⟩
  refine wp_seq (fun f h => ∃ ls ps, TabOk ls ps ∧ f = [.sh (.fz (ns.map .int)), .sh (.box 0), .sh (.tup [.str ls, .lst (ps.map .str)]), .un, .un, .un, .un, .un, .un, .un, .un, .un, .un, .un, .un] ∧ Box h 0) ?_ ?_
  · simp -implicitDefEqProofs only [wpF, wpS_seq, wpS_if, wpS_set, wpS_put, wpS_ret, wpS_nil, wpS_drop, wpS_own, wpS_fz, wpS_bx, wpS_asg, wpS_multi, wpM_nil, wpM_v, wpM_o, wpE_op2, wpE_v, wpE_c, wpE_eL, wpEs_cons, wpEs_nil, wpE_callN, wpE_callR, wpE_tup, wpE_lst, wpE_and, wpE_or, wpE_not, wpE_if, wpE_fz, wpE_bx, wpE_bind, wpE_isN, wpE_chain, wpE_cut, wpO_none, wpO_some, wpC_lst, wpC_call, wpC_lrg, wpI_val, wpI_rng1, wpI_rng2, wpI_enum, wpI_zip, wpC_lc, wpC_lc2, wpC_dc, wpS_for, wpA_args, wpC_make, wpS_bm, wpE_bm, wpE_meth, wpE_methR, wpC_meth, wpC_callC, wp_some, onOk, onL, List.getElem?_cons_succ, List.getElem?_cons_zero, List.set_cons_succ, List.set_cons_zero, allVal_cons, allVal_nil, isV_s, isV_i, isV_b, isV_n, isV_t, isV_l, isV_f, isV_d, isV_x, isV_c, isV_r, isV_y, List.length_cons, List.length_nil, Nat.zero_add, Nat.reduceAdd, beq_self_eq_true, Bool.and_true, Bool.true_and, Bool.and_self, decide_true, decide_false, if_true, Bool.not_true, Bool.not_false, dec0, dec1, dec2, dec3, dec4, rtD_s, rtD_i, rtD_b, rtD_n, rtD_t, rtD_l, rtD_x, isN_n, isN_t, isN_s, isN_i, O_dl, O_dd, O_di, v_addI, v_sub, v_intI, v_ordI, v_ordS, v_lenL, v_lenT, v_min2S, v_max2S, v_min2I, v_max2I, v_cutT, v_cutL, v_eqI, v_neI, v_eqS, v_neS, v_eqB, v_neB, v_cint, v_inCh, bne_self_eq_false, Bool.false_bne, Bool.true_bne, Bool.bne_false, Bool.bne_true, stT, stAll, stMI, wipeF, Option.map_some, Option.map_none, wpO_s, wpO_n]
    refine table_wp hB fun ls ps hb' hT hB' hE => ?_
    simp -implicitDefEqProofs only [wpF, wpS_seq, wpS_if, wpS_set, wpS_put, wpS_ret, wpS_nil, wpS_drop, wpS_own, wpS_fz, wpS_bx, wpS_asg, wpS_multi, wpM_nil, wpM_v, wpM_o, wpE_op2, wpE_v, wpE_c, wpE_eL, wpEs_cons, wpEs_nil, wpE_callN, wpE_callR, wpE_tup, wpE_lst, wpE_and, wpE_or, wpE_not, wpE_if, wpE_fz, wpE_bx, wpE_bind, wpE_isN, wpE_chain, wpE_cut, wpO_none, wpO_some, wpC_lst, wpC_call, wpC_lrg, wpI_val, wpI_rng1, wpI_rng2, wpI_enum, wpI_zip, wpC_lc, wpC_lc2, wpC_dc, wpS_for, wpA_args, wpC_make, wpS_bm, wpE_bm, wpE_meth, wpE_methR, wpC_meth, wpC_callC, wp_some, onOk, onL, List.getElem?_cons_succ, List.getElem?_cons_zero, List.set_cons_succ, List.set_cons_zero, allVal_cons, allVal_nil, isV_s, isV_i, isV_b, isV_n, isV_t, isV_l, isV_f, isV_d, isV_x, isV_c, isV_r, isV_y, List.length_cons, List.length_nil, Nat.zero_add, Nat.reduceAdd, beq_self_eq_true, Bool.and_true, Bool.true_and, Bool.and_self, decide_true, decide_false, if_true, Bool.not_true, Bool.not_false, dec0, dec1, dec2, dec3, dec4, rtD_s, rtD_i, rtD_b, rtD_n, rtD_t, rtD_l, rtD_x, isN_n, isN_t, isN_s, isN_i, O_dl, O_dd, O_di, v_addI, v_sub, v_intI, v_ordI, v_ordS, v_lenL, v_lenT, v_min2S, v_max2S, v_min2I, v_max2I, v_cutT, v_cutL, v_eqI, v_neI, v_eqS, v_neS, v_eqB, v_neB, v_cint, v_inCh, bne_self_eq_false, Bool.false_bne, Bool.true_bne, Bool.bne_false, Bool.bne_true, stT, stAll, stMI, wipeF, Option.map_some, Option.map_none, wpO_s, wpO_n]
    exact ⟨ls, ps, hT, rfl, hB'⟩
  rintro f h ⟨ls, ps, hT, rfl, hB⟩
  have h7 := hT.ab.n7
  have h2 := hT.ab.n2
  have hls : ls.length ≤ szL := by omega
  have hfew := hT.few

  -- a, b = tab
  refine wp_seq (fun f h => f = [.sh (.fz (ns.map .int)), .sh (.box 0), .sh (.tup [.str ls, .lst (ps.map .str)]), .un, .un, .un, .un, .un, .un, .un, .un, .un, .sh (.str ls), .sh (.lst (ps.map .str)), .un] ∧ Box h 0) ?_ ?_
  · simp -implicitDefEqProofs only [wpF, wpS_seq, wpS_if, wpS_set, wpS_put, wpS_ret, wpS_nil, wpS_drop, wpS_own, wpS_fz, wpS_bx, wpS_asg, wpS_multi, wpM_nil, wpM_v, wpM_o, wpE_op2, wpE_v, wpE_c, wpE_eL, wpEs_cons, wpEs_nil, wpE_callN, wpE_callR, wpE_tup, wpE_lst, wpE_and, wpE_or, wpE_not, wpE_if, wpE_fz, wpE_bx, wpE_bind, wpE_isN, wpE_chain, wpE_cut, wpO_none, wpO_some, wpC_lst, wpC_call, wpC_lrg, wpI_val, wpI_rng1, wpI_rng2, wpI_enum, wpI_zip, wpC_lc, wpC_lc2, wpC_dc, wpS_for, wpA_args, wpC_make, wpS_bm, wpE_bm, wpE_meth, wpE_methR, wpC_meth, wpC_callC, wp_some, onOk, onL, List.getElem?_cons_succ, List.getElem?_cons_zero, List.set_cons_succ, List.set_cons_zero, allVal_cons, allVal_nil, isV_s, isV_i, isV_b, isV_n, isV_t, isV_l, isV_f, isV_d, isV_x, isV_c, isV_r, isV_y, List.length_cons, List.length_nil, Nat.zero_add, Nat.reduceAdd, beq_self_eq_true, Bool.and_true, Bool.true_and, Bool.and_self, decide_true, decide_false, if_true, Bool.not_true, Bool.not_false, dec0, dec1, dec2, dec3, dec4, rtD_s, rtD_i, rtD_b, rtD_n, rtD_t, rtD_l, rtD_x, isN_n, isN_t, isN_s, isN_i, O_dl, O_dd, O_di, v_addI, v_sub, v_intI, v_ordI, v_ordS, v_lenL, v_lenT, v_min2S, v_max2S, v_min2I, v_max2I, v_cutT, v_cutL, v_eqI, v_neI, v_eqS, v_neS, v_eqB, v_neB, v_cint, v_inCh, bne_self_eq_false, Bool.false_bne, Bool.true_bne, Bool.bne_false, Bool.bne_true, stT, stAll, stMI, wipeF, Option.map_some, Option.map_none, wpO_s, wpO_n]
    exact ⟨trivial, hB⟩
  rintro f h ⟨rfl, hB⟩

  -- handed
  refine wp_seq (fun f h => ∃ k hs, Hand ps hs ∧ 0 < k ∧ f = [.sh (.fz (ns.map .int)), .sh (.box 0), .sh (.tup [.str ls, .lst (ps.map .str)]), .sh (.box k), .un, .un, .un, .un, .un, .un, .un, .un, .sh (.str ls), .sh (.lst (ps.map .str)), .un] ∧ Box h 0 ∧ h[k]? = some (.lst (hs.map .str))) ?_ ?_
  · have e2 : (2 : Int) = ((2 : Nat) : Int) := rfl
    rw [wpS_bx, wpS_own]
    simp -implicitDefEqProofs only [wpC_lc, wpI_val, wpE_callN, wpEs_cons, wpEs_nil, wpE_v, wpE_op2, wpE_cut, wpO_none, wpO_some, wpE_c, v_cutL, v_addL, onOk, onL, List.getElem?_cons_succ, List.getElem?_cons_zero]
    rw [e2, cut_to, if_pos (by rw [List.length_map, List.length_take, List.length_map]; omega)]
    simp -implicitDefEqProofs only [wpF, wpS_seq, wpS_if, wpS_set, wpS_put, wpS_ret, wpS_nil, wpS_drop, wpS_own, wpS_fz, wpS_bx, wpS_asg, wpS_multi, wpM_nil, wpM_v, wpM_o, wpE_op2, wpE_v, wpE_c, wpE_eL, wpEs_cons, wpEs_nil, wpE_callN, wpE_callR, wpE_tup, wpE_lst, wpE_and, wpE_or, wpE_not, wpE_if, wpE_fz, wpE_bx, wpE_bind, wpE_isN, wpE_chain, wpE_cut, wpO_none, wpO_some, wpC_lst, wpC_call, wpC_lrg, wpI_val, wpI_rng1, wpI_rng2, wpI_enum, wpI_zip, wpC_lc, wpC_lc2, wpC_dc, wpS_for, wpA_args, wpC_make, wpS_bm, wpE_bm, wpE_meth, wpE_methR, wpC_meth, wpC_callC, wp_some, onOk, onL, List.getElem?_cons_succ, List.getElem?_cons_zero, List.set_cons_succ, List.set_cons_zero, allVal_cons, allVal_nil, isV_s, isV_i, isV_b, isV_n, isV_t, isV_l, isV_f, isV_d, isV_x, isV_c, isV_r, isV_y, List.length_cons, List.length_nil, Nat.zero_add, Nat.reduceAdd, beq_self_eq_true, Bool.and_true, Bool.true_and, Bool.and_self, decide_true, decide_false, if_true, Bool.not_true, Bool.not_false, dec0, dec1, dec2, dec3, dec4, rtD_s, rtD_i, rtD_b, rtD_n, rtD_t, rtD_l, rtD_x, isN_n, isN_t, isN_s, isN_i, O_dl, O_dd, O_di, v_addI, v_sub, v_intI, v_ordI, v_ordS, v_lenL, v_lenT, v_min2S, v_max2S, v_min2I, v_max2I, v_cutT, v_cutL, v_eqI, v_neI, v_eqS, v_neS, v_eqB, v_neB, v_cint, v_inCh, bne_self_eq_false, Bool.false_bne, Bool.true_bne, Bool.bne_false, Bool.bne_true, stT, stAll, stMI, wipeF, Option.map_some, Option.map_none, wpO_s, wpO_n]
    have em : ps.map D.str ++ (ps.map D.str).take 2 = (ps ++ ps.take 2).map .str := by rw [List.map_append, List.map_take]
    rw [em]
    have hlen : (ps ++ ps.take 2).length < 1000 := by rw [List.length_append, List.length_take]; omega
    refine mixed_wp hB (by rw [List.length_map]; omega) (fun x hx => ?_) (fun x hx => ?_) fun ys hb' hp hB' hE => ?_
    · obtain ⟨p, _, rfl⟩ := List.mem_map.mp hx; rfl
    · obtain ⟨p, _, rfl⟩ := List.mem_map.mp hx; exact datS
    obtain ⟨zs, hz1, rfl⟩ := perm_strs hp
    have zin : ∀ p, p ∈ zs ↔ p ∈ ps := fun p => by
      rw [hz1.mem_iff, List.mem_append]
      exact ⟨fun q => q.elim id fun q => List.mem_of_mem_take q, .inl⟩
    have zlen : zs.length < 1000 := by rw [hz1.length_eq]; exact hlen
    simp -implicitDefEqProofs only [onOk, onL, wipeF, List.set_cons_succ, List.set_cons_zero]
    refine wp_lcI (fun done rest acc h => Box h 0 ∧ done ++ rest = zs.map D.str ∧ ∃ hs : List (List Char), acc = hs.map .str ∧ (∀ x ∈ hs, ∃ p, D.str p ∈ done ∧ (x = p ∨ x = p.reverse)) ∧ (∀ p, D.str p ∈ done → p ∈ hs ∨ p.reverse ∈ hs) ∧ hs.length = done.length) [] _ [] _ ⟨hB', rfl, [], rfl, by simp, by simp, rfl⟩ ?_ ?_
    · rintro done d rest acc h1 ⟨hB1, hr, hs, rfl, i1, i2, i3⟩
      obtain ⟨hi, rfl⟩ := map_at hr
      have hm : zs[done.length] ∈ ps := (zin _).mp (List.getElem_mem hi)
      obtain ⟨a, b, _, _, _, ep⟩ := hT.pr _ hm
      have hpl : zs[done.length].length ≤ szL := by rw [ep]; simp only [List.length_cons, List.length_nil]; omega
      refine ⟨_, rfl, ?_⟩
      simp -implicitDefEqProofs only [wpF, wpS_seq, wpS_if, wpS_set, wpS_put, wpS_ret, wpS_nil, wpS_drop, wpS_own, wpS_fz, wpS_bx, wpS_asg, wpS_multi, wpM_nil, wpM_v, wpM_o, wpE_op2, wpE_v, wpE_c, wpE_eL, wpEs_cons, wpEs_nil, wpE_callN, wpE_callR, wpE_tup, wpE_lst, wpE_and, wpE_or, wpE_not, wpE_if, wpE_fz, wpE_bx, wpE_bind, wpE_isN, wpE_chain, wpE_cut, wpO_none, wpO_some, wpC_lst, wpC_call, wpC_lrg, wpI_val, wpI_rng1, wpI_rng2, wpI_enum, wpI_zip, wpC_lc, wpC_lc2, wpC_dc, wpS_for, wpA_args, wpC_make, wpS_bm, wpE_bm, wpE_meth, wpE_methR, wpC_meth, wpC_callC, wp_some, onOk, onL, List.getElem?_cons_succ, List.getElem?_cons_zero, List.set_cons_succ, List.set_cons_zero, allVal_cons, allVal_nil, isV_s, isV_i, isV_b, isV_n, isV_t, isV_l, isV_f, isV_d, isV_x, isV_c, isV_r, isV_y, List.length_cons, List.length_nil, Nat.zero_add, Nat.reduceAdd, beq_self_eq_true, Bool.and_true, Bool.true_and, Bool.and_self, decide_true, decide_false, if_true, Bool.not_true, Bool.not_false, dec0, dec1, dec2, dec3, dec4, rtD_s, rtD_i, rtD_b, rtD_n, rtD_t, rtD_l, rtD_x, isN_n, isN_t, isN_s, isN_i, O_dl, O_dd, O_di, v_addI, v_sub, v_intI, v_ordI, v_ordS, v_lenL, v_lenT, v_min2S, v_max2S, v_min2I, v_max2I, v_cutT, v_cutL, v_eqI, v_neI, v_eqS, v_neS, v_eqB, v_neB, v_cint, v_inCh, bne_self_eq_false, Bool.false_bne, Bool.true_bne, Bool.bne_false, Bool.bne_true, stT, stAll, stMI, wipeF, Option.map_some, Option.map_none, wpO_s, wpO_n, v_revS, hpl]
      refine pick_wp hB1 (by simp) (by simp) (fun x hx => ?_) fun d2 h2 hd2 hB2 hE2 => ?_
      · simp only [List.mem_cons, List.not_mem_nil, or_false] at hx
        rcases hx with rfl | rfl <;> rfl
      obtain ⟨q, rfl, hq⟩ : ∃ q, d2 = .str q ∧ (q = zs[done.length] ∨ q = zs[done.length].reverse) := by
        simp only [List.mem_cons, List.not_mem_nil, or_false] at hd2
        rcases hd2 with rfl | rfl
        · exact ⟨_, rfl, .inl rfl⟩
        · exact ⟨_, rfl, .inr rfl⟩
      refine ⟨_, rfl, rfl, by rw [List.length_map]; have := congrArg List.length hr; rw [List.length_append, List.length_map, List.length_cons] at this; omega, hB2, by rw [List.append_assoc]; exact hr, hs ++ [q], by simp, ?_, ?_, by simp [i3]⟩
      · intro x hx
        rcases List.mem_append.mp hx with z | z
        · obtain ⟨p, m, e⟩ := i1 x z
          exact ⟨p, List.mem_append_left _ m, e⟩
        · rw [List.mem_singleton] at z
          subst z
          exact ⟨_, List.mem_append_right _ (by simp), hq⟩
      · intro p hp
        rcases List.mem_append.mp hp with z | z
        · rcases i2 p z with z | z
          · exact .inl (List.mem_append_left _ z)
          · exact .inr (List.mem_append_left _ z)
        · rw [List.mem_singleton] at z
          injection z with z
          subst z
          rcases hq with rfl | rfl
          · exact .inl (by simp)
          · exact .inr (by simp)
    · rintro done acc h1 ⟨hB1, hr, hs, rfl, i1, i2, i3⟩
      rw [List.append_nil] at hr
      subst hr
      rw [if_pos (by decide)]
      have dm : ∀ p, D.str p ∈ zs.map D.str ↔ p ∈ ps := fun p => by
        rw [← zin, List.mem_map]
        exact ⟨fun ⟨x, hx, e⟩ => by injection e with e; exact e ▸ hx, fun h => ⟨p, h, rfl⟩⟩
      refine ⟨h1.length, hs, ⟨fun x hx => ?_, fun p hp => i2 p ((dm p).mpr hp)⟩, hB1.lt, rfl, hB1.snoc, by rw [List.getElem?_append_right (Nat.le_refl _)]; simp⟩
      obtain ⟨p, m, e⟩ := i1 x hx
      exact ⟨p, (dm p).mp m, e⟩
  rintro f h ⟨k, hs, hH, hk0, rfl, hB, hk⟩

  -- kept
  refine wp_seq (fun f h => f = [.sh (.fz (ns.map .int)), .sh (.box 0), .sh (.tup [.str ls, .lst (ps.map .str)]), .sh (.box k), .sh (.lst (hs.map .str)), .un, .un, .un, .un, .un, .un, .un, .sh (.str ls), .sh (.lst (ps.map .str)), .un] ∧ Box h 0 ∧ h[k]? = some (.lst (hs.map .str))) ?_ ?_
  · have e : ∀ {fr : Fr}, glList [.box k] fr h = some (hs.map .str) := fun {fr} => by
      show lstD fr h (.box k) = _
      unfold lstD
      dsimp only
      have : vSeq fr h (.box k) = some (hs.map .str) := by simp only [vSeq, vLst, hk]
      rw [this]
    simp -implicitDefEqProofs only [wpF, wpS_seq, wpS_if, wpS_set, wpS_put, wpS_ret, wpS_nil, wpS_drop, wpS_own, wpS_fz, wpS_bx, wpS_asg, wpS_multi, wpM_nil, wpM_v, wpM_o, wpE_op2, wpE_v, wpE_c, wpE_eL, wpEs_cons, wpEs_nil, wpE_callN, wpE_callR, wpE_tup, wpE_lst, wpE_and, wpE_or, wpE_not, wpE_if, wpE_fz, wpE_bx, wpE_bind, wpE_isN, wpE_chain, wpE_cut, wpO_none, wpO_some, wpC_lst, wpC_call, wpC_lrg, wpI_val, wpI_rng1, wpI_rng2, wpI_enum, wpI_zip, wpC_lc, wpC_lc2, wpC_dc, wpS_for, wpA_args, wpC_make, wpS_bm, wpE_bm, wpE_meth, wpE_methR, wpC_meth, wpC_callC, wp_some, onOk, onL, List.getElem?_cons_succ, List.getElem?_cons_zero, List.set_cons_succ, List.set_cons_zero, allVal_cons, allVal_nil, isV_s, isV_i, isV_b, isV_n, isV_t, isV_l, isV_f, isV_d, isV_x, isV_c, isV_r, isV_y, List.length_cons, List.length_nil, Nat.zero_add, Nat.reduceAdd, beq_self_eq_true, Bool.and_true, Bool.true_and, Bool.and_self, decide_true, decide_false, if_true, Bool.not_true, Bool.not_false, dec0, dec1, dec2, dec3, dec4, rtD_s, rtD_i, rtD_b, rtD_n, rtD_t, rtD_l, rtD_x, isN_n, isN_t, isN_s, isN_i, O_dl, O_dd, O_di, v_addI, v_sub, v_intI, v_ordI, v_ordS, v_lenL, v_lenT, v_min2S, v_max2S, v_min2I, v_max2I, v_cutT, v_cutL, v_eqI, v_neI, v_eqS, v_neS, v_eqB, v_neB, v_cint, v_inCh, bne_self_eq_false, Bool.false_bne, Bool.true_bne, Bool.bne_false, Bool.bne_true, stT, stAll, stMI, wipeF, Option.map_some, Option.map_none, wpO_s, wpO_n, e]
    exact ⟨trivial, hB, hk⟩
  rintro f h ⟨rfl, hB, hk⟩

  -- made
  refine wp_seq (fun f h => f = [.sh (.fz (ns.map .int)), .sh (.box 0), .sh (.tup [.str ls, .lst (ps.map .str)]), .sh (.box k), .sh (.lst (hs.map .str)), .sh (tbl ls ps), .un, .un, .un, .un, .un, .un, .sh (.str ls), .sh (.lst (ps.map .str)), .un] ∧ Box h 0 ∧ h[k]? = some (.lst (hs.map .str))) ?_ ?_
  · simp -implicitDefEqProofs only [wpF, wpS_seq, wpS_if, wpS_set, wpS_put, wpS_ret, wpS_nil, wpS_drop, wpS_own, wpS_fz, wpS_bx, wpS_asg, wpS_multi, wpM_nil, wpM_v, wpM_o, wpE_op2, wpE_v, wpE_c, wpE_eL, wpEs_cons, wpEs_nil, wpE_callN, wpE_callR, wpE_tup, wpE_lst, wpE_and, wpE_or, wpE_not, wpE_if, wpE_fz, wpE_bx, wpE_bind, wpE_isN, wpE_chain, wpE_cut, wpO_none, wpO_some, wpC_lst, wpC_call, wpC_lrg, wpI_val, wpI_rng1, wpI_rng2, wpI_enum, wpI_zip, wpC_lc, wpC_lc2, wpC_dc, wpS_for, wpA_args, wpC_make, wpS_bm, wpE_bm, wpE_meth, wpE_methR, wpC_meth, wpC_callC, wp_some, onOk, onL, List.getElem?_cons_succ, List.getElem?_cons_zero, List.set_cons_succ, List.set_cons_zero, allVal_cons, allVal_nil, isV_s, isV_i, isV_b, isV_n, isV_t, isV_l, isV_f, isV_d, isV_x, isV_c, isV_r, isV_y, List.length_cons, List.length_nil, Nat.zero_add, Nat.reduceAdd, beq_self_eq_true, Bool.and_true, Bool.true_and, Bool.and_self, decide_true, decide_false, if_true, Bool.not_true, Bool.not_false, dec0, dec1, dec2, dec3, dec4, rtD_s, rtD_i, rtD_b, rtD_n, rtD_t, rtD_l, rtD_x, isN_n, isN_t, isN_s, isN_i, O_dl, O_dd, O_di, v_addI, v_sub, v_intI, v_ordI, v_ordS, v_lenL, v_lenT, v_min2S, v_max2S, v_min2I, v_max2I, v_cutT, v_cutL, v_eqI, v_neI, v_eqS, v_neS, v_eqB, v_neB, v_cint, v_inCh, bne_self_eq_false, Bool.false_bne, Bool.true_bne, Bool.bne_false, Bool.bne_true, stT, stAll, stMI, wipeF, Option.map_some, Option.map_none, wpO_s, wpO_n]
    refine handed_wp hT hH (.inr (.inr ⟨k, rfl, hk⟩)) ?_
    simp -implicitDefEqProofs only [wpF, wpS_seq, wpS_if, wpS_set, wpS_put, wpS_ret, wpS_nil, wpS_drop, wpS_own, wpS_fz, wpS_bx, wpS_asg, wpS_multi, wpM_nil, wpM_v, wpM_o, wpE_op2, wpE_v, wpE_c, wpE_eL, wpEs_cons, wpEs_nil, wpE_callN, wpE_callR, wpE_tup, wpE_lst, wpE_and, wpE_or, wpE_not, wpE_if, wpE_fz, wpE_bx, wpE_bind, wpE_isN, wpE_chain, wpE_cut, wpO_none, wpO_some, wpC_lst, wpC_call, wpC_lrg, wpI_val, wpI_rng1, wpI_rng2, wpI_enum, wpI_zip, wpC_lc, wpC_lc2, wpC_dc, wpS_for, wpA_args, wpC_make, wpS_bm, wpE_bm, wpE_meth, wpE_methR, wpC_meth, wpC_callC, wp_some, onOk, onL, List.getElem?_cons_succ, List.getElem?_cons_zero, List.set_cons_succ, List.set_cons_zero, allVal_cons, allVal_nil, isV_s, isV_i, isV_b, isV_n, isV_t, isV_l, isV_f, isV_d, isV_x, isV_c, isV_r, isV_y, List.length_cons, List.length_nil, Nat.zero_add, Nat.reduceAdd, beq_self_eq_true, Bool.and_true, Bool.true_and, Bool.and_self, decide_true, decide_false, if_true, Bool.not_true, Bool.not_false, dec0, dec1, dec2, dec3, dec4, rtD_s, rtD_i, rtD_b, rtD_n, rtD_t, rtD_l, rtD_x, isN_n, isN_t, isN_s, isN_i, O_dl, O_dd, O_di, v_addI, v_sub, v_intI, v_ordI, v_ordS, v_lenL, v_lenT, v_min2S, v_max2S, v_min2I, v_max2I, v_cutT, v_cutL, v_eqI, v_neI, v_eqS, v_neS, v_eqB, v_neB, v_cint, v_inCh, bne_self_eq_false, Bool.false_bne, Bool.true_bne, Bool.bne_false, Bool.bne_true, stT, stAll, stMI, wipeF, Option.map_some, Option.map_none, wpO_s, wpO_n, tblO_d, isV_tbl]
    exact ⟨trivial, hB, hk⟩
  rintro f h ⟨rfl, hB, hk⟩

  -- handed stays
  refine wp_seq (fun f h => f = [.sh (.fz (ns.map .int)), .sh (.box 0), .sh (.tup [.str ls, .lst (ps.map .str)]), .sh (.box k), .sh (.lst (hs.map .str)), .sh (tbl ls ps), .un, .un, .un, .un, .un, .un, .sh (.str ls), .sh (.lst (ps.map .str)), .un] ∧ Box h 0 ∧ h[k]? = some (.lst (hs.map .str))) ?_ ?_
  · rw [wpS_if]
    simp -implicitDefEqProofs only [wpE_op2, wpE_v, onOk, List.getElem?_cons_succ, List.getElem?_cons_zero]
    rw [v_ne (by rw [rzX hk]; exact dat_map (fun _ => datS) hs) (by rw [rzL]; exact dat_map (fun _ => datS) hs), rzX hk, rzL, deqL, deqs_map (f := D.str) (fun _ _ => deqS)]
    simp -implicitDefEqProofs only [wpF, wpS_seq, wpS_if, wpS_set, wpS_put, wpS_ret, wpS_nil, wpS_drop, wpS_own, wpS_fz, wpS_bx, wpS_asg, wpS_multi, wpM_nil, wpM_v, wpM_o, wpE_op2, wpE_v, wpE_c, wpE_eL, wpEs_cons, wpEs_nil, wpE_callN, wpE_callR, wpE_tup, wpE_lst, wpE_and, wpE_or, wpE_not, wpE_if, wpE_fz, wpE_bx, wpE_bind, wpE_isN, wpE_chain, wpE_cut, wpO_none, wpO_some, wpC_lst, wpC_call, wpC_lrg, wpI_val, wpI_rng1, wpI_rng2, wpI_enum, wpI_zip, wpC_lc, wpC_lc2, wpC_dc, wpS_for, wpA_args, wpC_make, wpS_bm, wpE_bm, wpE_meth, wpE_methR, wpC_meth, wpC_callC, wp_some, onOk, onL, List.getElem?_cons_succ, List.getElem?_cons_zero, List.set_cons_succ, List.set_cons_zero, allVal_cons, allVal_nil, isV_s, isV_i, isV_b, isV_n, isV_t, isV_l, isV_f, isV_d, isV_x, isV_c, isV_r, isV_y, List.length_cons, List.length_nil, Nat.zero_add, Nat.reduceAdd, beq_self_eq_true, Bool.and_true, Bool.true_and, Bool.and_self, decide_true, decide_false, if_true, Bool.not_true, Bool.not_false, dec0, dec1, dec2, dec3, dec4, rtD_s, rtD_i, rtD_b, rtD_n, rtD_t, rtD_l, rtD_x, isN_n, isN_t, isN_s, isN_i, O_dl, O_dd, O_di, v_addI, v_sub, v_intI, v_ordI, v_ordS, v_lenL, v_lenT, v_min2S, v_max2S, v_min2I, v_max2I, v_cutT, v_cutL, v_eqI, v_neI, v_eqS, v_neS, v_eqB, v_neB, v_cint, v_inCh, bne_self_eq_false, Bool.false_bne, Bool.true_bne, Bool.bne_false, Bool.bne_true, stT, stAll, stMI, wipeF, Option.map_some, Option.map_none, wpO_s, wpO_n]
    exact ⟨trivial, hB, hk⟩
  rintro f h ⟨rfl, hB, hk⟩

  -- clear
  refine wp_seq (fun f h => f = [.sh (.fz (ns.map .int)), .sh (.box 0), .sh (.tup [.str ls, .lst (ps.map .str)]), .sh (.box k), .sh (.lst (hs.map .str)), .sh (tbl ls ps), .un, .un, .un, .un, .un, .un, .sh (.str ls), .sh (.lst (ps.map .str)), .un] ∧ Box h 0) ?_ ?_
  · have k3 : ∀ {fr : Fr}, isK "list" (.box k) fr h = true := fun {fr} => by
      unfold isK rdO
      simp only [hk]
      rfl
    have r3 : ∀ {fr : Fr}, rdO fr h (.box k) = some (.lst (hs.map .str)) := fun {fr} => hk
    have o3 : omClear (.lst (hs.map .str)) [] = some (.lst [], .non) := rfl
    simp -implicitDefEqProofs only [wpF, wpS_seq, wpS_if, wpS_set, wpS_put, wpS_ret, wpS_nil, wpS_drop, wpS_own, wpS_fz, wpS_bx, wpS_asg, wpS_multi, wpM_nil, wpM_v, wpM_o, wpE_op2, wpE_v, wpE_c, wpE_eL, wpEs_cons, wpEs_nil, wpE_callN, wpE_callR, wpE_tup, wpE_lst, wpE_and, wpE_or, wpE_not, wpE_if, wpE_fz, wpE_bx, wpE_bind, wpE_isN, wpE_chain, wpE_cut, wpO_none, wpO_some, wpC_lst, wpC_call, wpC_lrg, wpI_val, wpI_rng1, wpI_rng2, wpI_enum, wpI_zip, wpC_lc, wpC_lc2, wpC_dc, wpS_for, wpA_args, wpC_make, wpS_bm, wpE_bm, wpE_meth, wpE_methR, wpC_meth, wpC_callC, wp_some, onOk, onL, List.getElem?_cons_succ, List.getElem?_cons_zero, List.set_cons_succ, List.set_cons_zero, allVal_cons, allVal_nil, isV_s, isV_i, isV_b, isV_n, isV_t, isV_l, isV_f, isV_d, isV_x, isV_c, isV_r, isV_y, List.length_cons, List.length_nil, Nat.zero_add, Nat.reduceAdd, beq_self_eq_true, Bool.and_true, Bool.true_and, Bool.and_self, decide_true, decide_false, if_true, Bool.not_true, Bool.not_false, dec0, dec1, dec2, dec3, dec4, rtD_s, rtD_i, rtD_b, rtD_n, rtD_t, rtD_l, rtD_x, isN_n, isN_t, isN_s, isN_i, O_dl, O_dd, O_di, v_addI, v_sub, v_intI, v_ordI, v_ordS, v_lenL, v_lenT, v_min2S, v_max2S, v_min2I, v_max2I, v_cutT, v_cutL, v_eqI, v_neI, v_eqS, v_neS, v_eqB, v_neB, v_cint, v_inCh, bne_self_eq_false, Bool.false_bne, Bool.true_bne, Bool.bne_false, Bool.bne_true, stT, stAll, stMI, wipeF, Option.map_some, Option.map_none, wpO_s, wpO_n, k3, r3, o3, toN, wrO]
    obtain ⟨cs, a, b, c, e, ha⟩ := hB
    exact ⟨trivial, cs, a, b, c, by rw [List.getElem?_set_ne (by omega)]; exact e, ha⟩
  rintro f h ⟨rfl, hB⟩

  -- text
  have hi := istr_few ps.length hfew
  refine wp_seq (fun f h => f = [.sh (.fz (ns.map .int)), .sh (.box 0), .sh (.tup [.str ls, .lst (ps.map .str)]), .sh (.box k), .sh (.lst (hs.map .str)), .sh (tbl ls ps), .sh (.str (tblText ls ps)), .un, .un, .un, .un, .un, .sh (.str ls), .sh (.lst (ps.map .str)), .un] ∧ Box h 0) ?_ ?_
  · simp -implicitDefEqProofs only [wpF, wpS_seq, wpS_if, wpS_set, wpS_put, wpS_ret, wpS_nil, wpS_drop, wpS_own, wpS_fz, wpS_bx, wpS_asg, wpS_multi, wpM_nil, wpM_v, wpM_o, wpE_op2, wpE_v, wpE_c, wpE_eL, wpEs_cons, wpEs_nil, wpE_callN, wpE_callR, wpE_tup, wpE_lst, wpE_and, wpE_or, wpE_not, wpE_if, wpE_fz, wpE_bx, wpE_bind, wpE_isN, wpE_chain, wpE_cut, wpO_none, wpO_some, wpC_lst, wpC_call, wpC_lrg, wpI_val, wpI_rng1, wpI_rng2, wpI_enum, wpI_zip, wpC_lc, wpC_lc2, wpC_dc, wpS_for, wpA_args, wpC_make, wpS_bm, wpE_bm, wpE_meth, wpE_methR, wpC_meth, wpC_callC, wp_some, onOk, onL, List.getElem?_cons_succ, List.getElem?_cons_zero, List.set_cons_succ, List.set_cons_zero, allVal_cons, allVal_nil, isV_s, isV_i, isV_b, isV_n, isV_t, isV_l, isV_f, isV_d, isV_x, isV_c, isV_r, isV_y, List.length_cons, List.length_nil, Nat.zero_add, Nat.reduceAdd, beq_self_eq_true, Bool.and_true, Bool.true_and, Bool.and_self, decide_true, decide_false, if_true, Bool.not_true, Bool.not_false, dec0, dec1, dec2, dec3, dec4, rtD_s, rtD_i, rtD_b, rtD_n, rtD_t, rtD_l, rtD_x, isN_n, isN_t, isN_s, isN_i, O_dl, O_dd, O_di, v_addI, v_sub, v_intI, v_ordI, v_ordS, v_lenL, v_lenT, v_min2S, v_max2S, v_min2I, v_max2I, v_cutT, v_cutL, v_eqI, v_neI, v_eqS, v_neS, v_eqB, v_neB, v_cint, v_inCh, bne_self_eq_false, Bool.false_bne, Bool.true_bne, Bool.bne_false, Bool.bne_true, stT, stAll, stMI, wipeF, Option.map_some, Option.map_none, wpO_s, wpO_n, v_addS, List.length_map, v_strI, log_few hfew]
    rw [if_pos (by omega), if_pos (by simp only [List.length_append, List.length_cons, List.length_nil]; omega), if_pos (by simp only [List.length_append, List.length_cons, List.length_nil]; omega), if_pos (by simp only [List.length_append, List.length_cons, List.length_nil]; omega)]
    exact ⟨by unfold tblText; rfl, hB⟩
  rintro f h ⟨rfl, hB⟩

  -- due
  refine wp_seq (fun f h => f = [.sh (.fz (ns.map .int)), .sh (.box 0), .sh (.tup [.str ls, .lst (ps.map .str)]), .sh (.box k), .sh (.lst (hs.map .str)), .sh (tbl ls ps), .sh (.str (tblText ls ps)), .sh (.lst [.str ls, .lst (ps.map .str), .int ls.length, .str (tblText ls ps)]), .un, .un, .un, .un, .sh (.str ls), .sh (.lst (ps.map .str)), .un] ∧ Box h 0) ?_ ?_
  · simp -implicitDefEqProofs only [wpF, wpS_seq, wpS_if, wpS_set, wpS_put, wpS_ret, wpS_nil, wpS_drop, wpS_own, wpS_fz, wpS_bx, wpS_asg, wpS_multi, wpM_nil, wpM_v, wpM_o, wpE_op2, wpE_v, wpE_c, wpE_eL, wpEs_cons, wpEs_nil, wpE_callN, wpE_callR, wpE_tup, wpE_lst, wpE_and, wpE_or, wpE_not, wpE_if, wpE_fz, wpE_bx, wpE_bind, wpE_isN, wpE_chain, wpE_cut, wpO_none, wpO_some, wpC_lst, wpC_call, wpC_lrg, wpI_val, wpI_rng1, wpI_rng2, wpI_enum, wpI_zip, wpC_lc, wpC_lc2, wpC_dc, wpS_for, wpA_args, wpC_make, wpS_bm, wpE_bm, wpE_meth, wpE_methR, wpC_meth, wpC_callC, wp_some, onOk, onL, List.getElem?_cons_succ, List.getElem?_cons_zero, List.set_cons_succ, List.set_cons_zero, allVal_cons, allVal_nil, isV_s, isV_i, isV_b, isV_n, isV_t, isV_l, isV_f, isV_d, isV_x, isV_c, isV_r, isV_y, List.length_cons, List.length_nil, Nat.zero_add, Nat.reduceAdd, beq_self_eq_true, Bool.and_true, Bool.true_and, Bool.and_self, decide_true, decide_false, if_true, Bool.not_true, Bool.not_false, dec0, dec1, dec2, dec3, dec4, rtD_s, rtD_i, rtD_b, rtD_n, rtD_t, rtD_l, rtD_x, isN_n, isN_t, isN_s, isN_i, O_dl, O_dd, O_di, v_addI, v_sub, v_intI, v_ordI, v_ordS, v_lenL, v_lenT, v_min2S, v_max2S, v_min2I, v_max2I, v_cutT, v_cutL, v_eqI, v_neI, v_eqS, v_neS, v_eqB, v_neB, v_cint, v_inCh, bne_self_eq_false, Bool.false_bne, Bool.true_bne, Bool.bne_false, Bool.bne_true, stT, stAll, stMI, wipeF, Option.map_some, Option.map_none, wpO_s, wpO_n, v_lenS, hls]
    exact ⟨trivial, hB⟩
  rintro f h ⟨rfl, hB⟩

  have mo : ∀ {fr : Fr} {hb : HB}, mOk "Table" "pairs" fr hb (tbl ls ps) = true := fun {fr hb} => by
    unfold mOk insD tbl; simp
  have mj : ∀ {fr : Fr} {hb : HB}, mOk "Table" "joins" fr hb (tbl ls ps) = true := fun {fr hb} => by
    unfold mOk insD tbl; simp
  -- the first look
  refine wp_seq (fun f h => f = [.sh (.fz (ns.map .int)), .sh (.box 0), .sh (.tup [.str ls, .lst (ps.map .str)]), .sh (.box k), .sh (.lst (hs.map .str)), .sh (tbl ls ps), .sh (.str (tblText ls ps)), .sh (.lst [.str ls, .lst (ps.map .str), .int ls.length, .str (tblText ls ps)]), .un, .un, .un, .un, .sh (.str ls), .sh (.lst (ps.map .str)), .un] ∧ Box h 0) ?_ ?_
  · simp -implicitDefEqProofs only [wpF, wpS_seq, wpS_if, wpS_set, wpS_put, wpS_ret, wpS_nil, wpS_drop, wpS_own, wpS_fz, wpS_bx, wpS_asg, wpS_multi, wpM_nil, wpM_v, wpM_o, wpE_op2, wpE_v, wpE_c, wpE_eL, wpEs_cons, wpEs_nil, wpE_callN, wpE_callR, wpE_tup, wpE_lst, wpE_and, wpE_or, wpE_not, wpE_if, wpE_fz, wpE_bx, wpE_bind, wpE_isN, wpE_chain, wpE_cut, wpO_none, wpO_some, wpC_lst, wpC_call, wpC_lrg, wpI_val, wpI_rng1, wpI_rng2, wpI_enum, wpI_zip, wpC_lc, wpC_lc2, wpC_dc, wpS_for, wpA_args, wpC_make, wpS_bm, wpE_bm, wpE_meth, wpE_methR, wpC_meth, wpC_callC, wp_some, onOk, onL, List.getElem?_cons_succ, List.getElem?_cons_zero, List.set_cons_succ, List.set_cons_zero, allVal_cons, allVal_nil, isV_s, isV_i, isV_b, isV_n, isV_t, isV_l, isV_f, isV_d, isV_x, isV_c, isV_r, isV_y, List.length_cons, List.length_nil, Nat.zero_add, Nat.reduceAdd, beq_self_eq_true, Bool.and_true, Bool.true_and, Bool.and_self, decide_true, decide_false, if_true, Bool.not_true, Bool.not_false, dec0, dec1, dec2, dec3, dec4, rtD_s, rtD_i, rtD_b, rtD_n, rtD_t, rtD_l, rtD_x, isN_n, isN_t, isN_s, isN_i, O_dl, O_dd, O_di, v_addI, v_sub, v_intI, v_ordI, v_ordS, v_lenL, v_lenT, v_min2S, v_max2S, v_min2I, v_max2I, v_cutT, v_cutL, v_eqI, v_neI, v_eqS, v_neS, v_eqB, v_neB, v_cint, v_inCh, bne_self_eq_false, Bool.false_bne, Bool.true_bne, Bool.bne_false, Bool.bne_true, stT, stAll, stMI, wipeF, Option.map_some, Option.map_none, wpO_s, wpO_n, wp_prop, labels_wp, mo, isV_tbl]
    refine pairs_wp h7 ?_
    rw [prs_eq hT]
    simp -implicitDefEqProofs only [wpF, wpS_seq, wpS_if, wpS_set, wpS_put, wpS_ret, wpS_nil, wpS_drop, wpS_own, wpS_fz, wpS_bx, wpS_asg, wpS_multi, wpM_nil, wpM_v, wpM_o, wpE_op2, wpE_v, wpE_c, wpE_eL, wpEs_cons, wpEs_nil, wpE_callN, wpE_callR, wpE_tup, wpE_lst, wpE_and, wpE_or, wpE_not, wpE_if, wpE_fz, wpE_bx, wpE_bind, wpE_isN, wpE_chain, wpE_cut, wpO_none, wpO_some, wpC_lst, wpC_call, wpC_lrg, wpI_val, wpI_rng1, wpI_rng2, wpI_enum, wpI_zip, wpC_lc, wpC_lc2, wpC_dc, wpS_for, wpA_args, wpC_make, wpS_bm, wpE_bm, wpE_meth, wpE_methR, wpC_meth, wpC_callC, wp_some, onOk, onL, List.getElem?_cons_succ, List.getElem?_cons_zero, List.set_cons_succ, List.set_cons_zero, allVal_cons, allVal_nil, isV_s, isV_i, isV_b, isV_n, isV_t, isV_l, isV_f, isV_d, isV_x, isV_c, isV_r, isV_y, List.length_cons, List.length_nil, Nat.zero_add, Nat.reduceAdd, beq_self_eq_true, Bool.and_true, Bool.true_and, Bool.and_self, decide_true, decide_false, if_true, Bool.not_true, Bool.not_false, dec0, dec1, dec2, dec3, dec4, rtD_s, rtD_i, rtD_b, rtD_n, rtD_t, rtD_l, rtD_x, isN_n, isN_t, isN_s, isN_i, O_dl, O_dd, O_di, v_addI, v_sub, v_intI, v_ordI, v_ordS, v_lenL, v_lenT, v_min2S, v_max2S, v_min2I, v_max2I, v_cutT, v_cutL, v_eqI, v_neI, v_eqS, v_neS, v_eqB, v_neB, v_cint, v_inCh, bne_self_eq_false, Bool.false_bne, Bool.true_bne, Bool.bne_false, Bool.bne_true, stT, stAll, stMI, wipeF, Option.map_some, Option.map_none, wpO_s, wpO_n, lenI_wp h7]
    refine reprI_wp hT ?_
    simp -implicitDefEqProofs only [wpF, wpS_seq, wpS_if, wpS_set, wpS_put, wpS_ret, wpS_nil, wpS_drop, wpS_own, wpS_fz, wpS_bx, wpS_asg, wpS_multi, wpM_nil, wpM_v, wpM_o, wpE_op2, wpE_v, wpE_c, wpE_eL, wpEs_cons, wpEs_nil, wpE_callN, wpE_callR, wpE_tup, wpE_lst, wpE_and, wpE_or, wpE_not, wpE_if, wpE_fz, wpE_bx, wpE_bind, wpE_isN, wpE_chain, wpE_cut, wpO_none, wpO_some, wpC_lst, wpC_call, wpC_lrg, wpI_val, wpI_rng1, wpI_rng2, wpI_enum, wpI_zip, wpC_lc, wpC_lc2, wpC_dc, wpS_for, wpA_args, wpC_make, wpS_bm, wpE_bm, wpE_meth, wpE_methR, wpC_meth, wpC_callC, wp_some, onOk, onL, List.getElem?_cons_succ, List.getElem?_cons_zero, List.set_cons_succ, List.set_cons_zero, allVal_cons, allVal_nil, isV_s, isV_i, isV_b, isV_n, isV_t, isV_l, isV_f, isV_d, isV_x, isV_c, isV_r, isV_y, List.length_cons, List.length_nil, Nat.zero_add, Nat.reduceAdd, beq_self_eq_true, Bool.and_true, Bool.true_and, Bool.and_self, decide_true, decide_false, if_true, Bool.not_true, Bool.not_false, dec0, dec1, dec2, dec3, dec4, rtD_s, rtD_i, rtD_b, rtD_n, rtD_t, rtD_l, rtD_x, isN_n, isN_t, isN_s, isN_i, O_dl, O_dd, O_di, v_addI, v_sub, v_intI, v_ordI, v_ordS, v_lenL, v_lenT, v_min2S, v_max2S, v_min2I, v_max2I, v_cutT, v_cutL, v_eqI, v_neI, v_eqS, v_neS, v_eqB, v_neB, v_cint, v_inCh, bne_self_eq_false, Bool.false_bne, Bool.true_bne, Bool.bne_false, Bool.bne_true, stT, stAll, stMI, wipeF, Option.map_some, Option.map_none, wpO_s, wpO_n]
    refine like_wp ?_ ?_
    · have : (ps.map D.str).all (pl 6) = true := by
        rw [List.all_map]; exact List.all_eq_true.mpr fun _ _ => rfl
      simp [pl, this]
      omega
    simp -implicitDefEqProofs only [wpF, wpS_seq, wpS_if, wpS_set, wpS_put, wpS_ret, wpS_nil, wpS_drop, wpS_own, wpS_fz, wpS_bx, wpS_asg, wpS_multi, wpM_nil, wpM_v, wpM_o, wpE_op2, wpE_v, wpE_c, wpE_eL, wpEs_cons, wpEs_nil, wpE_callN, wpE_callR, wpE_tup, wpE_lst, wpE_and, wpE_or, wpE_not, wpE_if, wpE_fz, wpE_bx, wpE_bind, wpE_isN, wpE_chain, wpE_cut, wpO_none, wpO_some, wpC_lst, wpC_call, wpC_lrg, wpI_val, wpI_rng1, wpI_rng2, wpI_enum, wpI_zip, wpC_lc, wpC_lc2, wpC_dc, wpS_for, wpA_args, wpC_make, wpS_bm, wpE_bm, wpE_meth, wpE_methR, wpC_meth, wpC_callC, wp_some, onOk, onL, List.getElem?_cons_succ, List.getElem?_cons_zero, List.set_cons_succ, List.set_cons_zero, allVal_cons, allVal_nil, isV_s, isV_i, isV_b, isV_n, isV_t, isV_l, isV_f, isV_d, isV_x, isV_c, isV_r, isV_y, List.length_cons, List.length_nil, Nat.zero_add, Nat.reduceAdd, beq_self_eq_true, Bool.and_true, Bool.true_and, Bool.and_self, decide_true, decide_false, if_true, Bool.not_true, Bool.not_false, dec0, dec1, dec2, dec3, dec4, rtD_s, rtD_i, rtD_b, rtD_n, rtD_t, rtD_l, rtD_x, isN_n, isN_t, isN_s, isN_i, O_dl, O_dd, O_di, v_addI, v_sub, v_intI, v_ordI, v_ordS, v_lenL, v_lenT, v_min2S, v_max2S, v_min2I, v_max2I, v_cutT, v_cutL, v_eqI, v_neI, v_eqS, v_neS, v_eqB, v_neB, v_cint, v_inCh, bne_self_eq_false, Bool.false_bne, Bool.true_bne, Bool.bne_false, Bool.bne_true, stT, stAll, stMI, wipeF, Option.map_some, Option.map_none, wpO_s, wpO_n]
    exact ⟨trivial, hB⟩
  rintro f h ⟨rfl, hB⟩

  -- a list of its own
  refine wp_seq (fun f h => f = [.sh (.fz (ns.map .int)), .sh (.box 0), .sh (.tup [.str ls, .lst (ps.map .str)]), .sh (.box k), .sh (.lst (hs.map .str)), .sh (tbl ls ps), .sh (.str (tblText ls ps)), .sh (.lst [.str ls, .lst (ps.map .str), .int ls.length, .str (tblText ls ps)]), .un, .un, .un, .un, .sh (.str ls), .sh (.lst (ps.map .str)), .un] ∧ Box h 0) ?_ ?_
  · simp -implicitDefEqProofs only [wpS_drop, wpE_bm, wpE_bx, wpC_meth, wpE_v, List.getElem?_cons_succ, List.getElem?_cons_zero, mo, if_true, wpEs_nil, onL, onOk, allVal_nil, List.length_nil, Nat.zero_add, decide_true, Bool.and_self]
    refine pairs_wp h7 ?_
    have kk : ∀ {fr : Fr} {xs : List D}, isK "list" (.box h.length) fr (h ++ [.lst xs]) = true := fun {fr xs} => by
      unfold isK rdO
      simp
      rfl
    have gg : ∀ {xs : List D}, (h ++ [O.lst xs])[h.length]? = some (.lst xs) := fun {xs} => by simp
    have oo : ∀ {z : List Char}, omAppend (.lst ((prs ls ps).map .str)) [D.str z] = some (.lst ((prs ls ps).map .str ++ [D.str z]), .non) := fun {z} => by
      show (if ((prs ls ps).map D.str).length < szL then some (O.lst ((prs ls ps).map D.str ++ [_]), D.non) else none) = _
      rw [if_pos (by rw [List.length_map, prs_eq hT]; omega)]
    simp -implicitDefEqProofs only [onL, kk, if_true, wpEs_cons, wpEs_nil, wpE_c, gg, allVal_cons, allVal_nil, isV_s, Bool.and_self, oo]
    have hB0 := hB.lt
    obtain ⟨cs, a, b, c, e, ha⟩ := hB.snoc (o := .lst ((prs ls ps).map .str))
    exact ⟨trivial, cs, a, b, c, by rw [List.getElem?_set_ne (by omega)]; exact e, ha⟩
  rintro f h ⟨rfl, hB⟩

  have Jself : ∀ a, J ps a a = false := fun a => by
    unfold J pr
    rw [if_neg (by omega)]
    refine decide_eq_false fun hm => ?_
    have := (tab_ne hT hm).1
    omega
  have inJ : ∀ a ∈ ls, ∀ b ∈ ls, inT ls ps [a, b] = J ps a b := fun a ha b hb => by
    show (isPair [a, b] ls && J ps a b) = _
    by_cases e : a = b
    · subst e
      rw [Jself]; simp
    · have : isPair [a, b] ls = true := by unfold isPair; simp [ha, hb, e]
      rw [this]; rfl
  -- all pairs of labels
  refine wp_seq (fun f h => (∃ s7 s8 s10, f = [.sh (.fz (ns.map .int)), .sh (.box 0), .sh (.tup [.str ls, .lst (ps.map .str)]), .sh (.box k), .sh (.lst (hs.map .str)), .sh (tbl ls ps), .sh (.str (tblText ls ps)), s7, s8, .un, s10, .un, .sh (.str ls), .sh (.lst (ps.map .str)), .un]) ∧ Box h 0) ?_ ?_
  · simp -implicitDefEqProofs only [wpF, wpS_seq, wpS_if, wpS_set, wpS_put, wpS_ret, wpS_nil, wpS_drop, wpS_own, wpS_fz, wpS_bx, wpS_asg, wpS_multi, wpM_nil, wpM_v, wpM_o, wpE_op2, wpE_v, wpE_c, wpE_eL, wpEs_cons, wpEs_nil, wpE_callN, wpE_callR, wpE_tup, wpE_lst, wpE_and, wpE_or, wpE_not, wpE_if, wpE_fz, wpE_bx, wpE_bind, wpE_isN, wpE_chain, wpE_cut, wpO_none, wpO_some, wpC_lst, wpC_call, wpC_lrg, wpI_val, wpI_rng1, wpI_rng2, wpI_enum, wpI_zip, wpC_lc, wpC_lc2, wpC_dc, wpS_for, wpA_args, wpC_make, wpS_bm, wpE_bm, wpE_meth, wpE_methR, wpC_meth, wpC_callC, wp_some, onOk, onL, List.getElem?_cons_succ, List.getElem?_cons_zero, List.set_cons_succ, List.set_cons_zero, allVal_cons, allVal_nil, isV_s, isV_i, isV_b, isV_n, isV_t, isV_l, isV_f, isV_d, isV_x, isV_c, isV_r, isV_y, List.length_cons, List.length_nil, Nat.zero_add, Nat.reduceAdd, beq_self_eq_true, Bool.and_true, Bool.true_and, Bool.and_self, decide_true, decide_false, if_true, Bool.not_true, Bool.not_false, dec0, dec1, dec2, dec3, dec4, rtD_s, rtD_i, rtD_b, rtD_n, rtD_t, rtD_l, rtD_x, isN_n, isN_t, isN_s, isN_i, O_dl, O_dd, O_di, v_addI, v_sub, v_intI, v_ordI, v_ordS, v_lenL, v_lenT, v_min2S, v_max2S, v_min2I, v_max2I, v_cutT, v_cutL, v_eqI, v_neI, v_eqS, v_neS, v_eqB, v_neB, v_cint, v_inCh, bne_self_eq_false, Bool.false_bne, Bool.true_bne, Bool.bne_false, Bool.bne_true, stT, stAll, stMI, wipeF, Option.map_some, Option.map_none, wpO_s, wpO_n]
    refine wp_for (fun done rest f h' => done ++ rest = ls.map sg ∧ h' = h ∧ ∃ s7 s8 s10, f = [.sh (.fz (ns.map .int)), .sh (.box 0), .sh (.tup [.str ls, .lst (ps.map .str)]), .sh (.box k), .sh (.lst (hs.map .str)), .sh (tbl ls ps), .sh (.str (tblText ls ps)), s7, s8, .un, s10, .un, .sh (.str ls), .sh (.lst (ps.map .str)), .un]) [] _ _ _ ⟨rfl, rfl, _, _, _, rfl⟩ ?_ ?_
    · rintro done d rest f h1 ⟨hr, rfl, s7, s8, s10, rfl⟩
      obtain ⟨ha, rfl⟩ := map_at hr
      have ma : ls[done.length] ∈ ls := List.getElem_mem ha
      refine ⟨_, rfl, ?_⟩
      simp -implicitDefEqProofs only [wpF, wpS_seq, wpS_if, wpS_set, wpS_put, wpS_ret, wpS_nil, wpS_drop, wpS_own, wpS_fz, wpS_bx, wpS_asg, wpS_multi, wpM_nil, wpM_v, wpM_o, wpE_op2, wpE_v, wpE_c, wpE_eL, wpEs_cons, wpEs_nil, wpE_callN, wpE_callR, wpE_tup, wpE_lst, wpE_and, wpE_or, wpE_not, wpE_if, wpE_fz, wpE_bx, wpE_bind, wpE_isN, wpE_chain, wpE_cut, wpO_none, wpO_some, wpC_lst, wpC_call, wpC_lrg, wpI_val, wpI_rng1, wpI_rng2, wpI_enum, wpI_zip, wpC_lc, wpC_lc2, wpC_dc, wpS_for, wpA_args, wpC_make, wpS_bm, wpE_bm, wpE_meth, wpE_methR, wpC_meth, wpC_callC, wp_some, onOk, onL, List.getElem?_cons_succ, List.getElem?_cons_zero, List.set_cons_succ, List.set_cons_zero, allVal_cons, allVal_nil, isV_s, isV_i, isV_b, isV_n, isV_t, isV_l, isV_f, isV_d, isV_x, isV_c, isV_r, isV_y, List.length_cons, List.length_nil, Nat.zero_add, Nat.reduceAdd, beq_self_eq_true, Bool.and_true, Bool.true_and, Bool.and_self, decide_true, decide_false, if_true, Bool.not_true, Bool.not_false, dec0, dec1, dec2, dec3, dec4, rtD_s, rtD_i, rtD_b, rtD_n, rtD_t, rtD_l, rtD_x, isN_n, isN_t, isN_s, isN_i, O_dl, O_dd, O_di, v_addI, v_sub, v_intI, v_ordI, v_ordS, v_lenL, v_lenT, v_min2S, v_max2S, v_min2I, v_max2I, v_cutT, v_cutL, v_eqI, v_neI, v_eqS, v_neS, v_eqB, v_neB, v_cint, v_inCh, bne_self_eq_false, Bool.false_bne, Bool.true_bne, Bool.bne_false, Bool.bne_true, stT, stAll, stMI, wipeF, Option.map_some, Option.map_none, wpO_s, wpO_n]
      refine wp_for (fun done2 rest2 f h' => done2 ++ rest2 = ls.map sg ∧ h' = h1 ∧ ∃ s7 s10, f = [.sh (.fz (ns.map .int)), .sh (.box 0), .sh (.tup [.str ls, .lst (ps.map .str)]), .sh (.box k), .sh (.lst (hs.map .str)), .sh (tbl ls ps), .sh (.str (tblText ls ps)), s7, .sh (sg ls[done.length]), .un, s10, .un, .sh (.str ls), .sh (.lst (ps.map .str)), .un]) [] _ _ _ ⟨rfl, rfl, _, _, rfl⟩ ?_ ?_
      · rintro done2 d rest2 f h2 ⟨hr2, rfl, s7, s10, rfl⟩
        obtain ⟨hb, rfl⟩ := map_at hr2
        have mb : ls[done2.length] ∈ ls := List.getElem_mem hb
        refine ⟨_, rfl, ?_⟩
        refine wp_seq (fun f h' => f = [.sh (.fz (ns.map .int)), .sh (.box 0), .sh (.tup [.str ls, .lst (ps.map .str)]), .sh (.box k), .sh (.lst (hs.map .str)), .sh (tbl ls ps), .sh (.str (tblText ls ps)), .sh (.bl (J ps ls[done.length] ls[done2.length])), .sh (sg ls[done.length]), .un, .sh (sg ls[done2.length]), .un, .sh (.str ls), .sh (.lst (ps.map .str)), .un] ∧ h' = h2) ?_ ?_
        · simp -implicitDefEqProofs only [wpF, wpS_seq, wpS_if, wpS_set, wpS_put, wpS_ret, wpS_nil, wpS_drop, wpS_own, wpS_fz, wpS_bx, wpS_asg, wpS_multi, wpM_nil, wpM_v, wpM_o, wpE_op2, wpE_v, wpE_c, wpE_eL, wpEs_cons, wpEs_nil, wpE_callN, wpE_callR, wpE_tup, wpE_lst, wpE_and, wpE_or, wpE_not, wpE_if, wpE_fz, wpE_bx, wpE_bind, wpE_isN, wpE_chain, wpE_cut, wpO_none, wpO_some, wpC_lst, wpC_call, wpC_lrg, wpI_val, wpI_rng1, wpI_rng2, wpI_enum, wpI_zip, wpC_lc, wpC_lc2, wpC_dc, wpS_for, wpA_args, wpC_make, wpS_bm, wpE_bm, wpE_meth, wpE_methR, wpC_meth, wpC_callC, wp_some, onOk, onL, List.getElem?_cons_succ, List.getElem?_cons_zero, List.set_cons_succ, List.set_cons_zero, allVal_cons, allVal_nil, isV_s, isV_i, isV_b, isV_n, isV_t, isV_l, isV_f, isV_d, isV_x, isV_c, isV_r, isV_y, List.length_cons, List.length_nil, Nat.zero_add, Nat.reduceAdd, beq_self_eq_true, Bool.and_true, Bool.true_and, Bool.and_self, decide_true, decide_false, if_true, Bool.not_true, Bool.not_false, dec0, dec1, dec2, dec3, dec4, rtD_s, rtD_i, rtD_b, rtD_n, rtD_t, rtD_l, rtD_x, isN_n, isN_t, isN_s, isN_i, O_dl, O_dd, O_di, v_addI, v_sub, v_intI, v_ordI, v_ordS, v_lenL, v_lenT, v_min2S, v_max2S, v_min2I, v_max2I, v_cutT, v_cutL, v_eqI, v_neI, v_eqS, v_neS, v_eqB, v_neB, v_cint, v_inCh, bne_self_eq_false, Bool.false_bne, Bool.true_bne, Bool.bne_false, Bool.bne_true, stT, stAll, stMI, wipeF, Option.map_some, Option.map_none, wpO_s, wpO_n, joins_wp]
          by_cases e : ls[done.length] = ls[done2.length]
          · have e2 : ([ls[done.length]] = [ls[done2.length]]) := by rw [e]
            simp -implicitDefEqProofs only [wpF, wpS_seq, wpS_if, wpS_set, wpS_put, wpS_ret, wpS_nil, wpS_drop, wpS_own, wpS_fz, wpS_bx, wpS_asg, wpS_multi, wpM_nil, wpM_v, wpM_o, wpE_op2, wpE_v, wpE_c, wpE_eL, wpEs_cons, wpEs_nil, wpE_callN, wpE_callR, wpE_tup, wpE_lst, wpE_and, wpE_or, wpE_not, wpE_if, wpE_fz, wpE_bx, wpE_bind, wpE_isN, wpE_chain, wpE_cut, wpO_none, wpO_some, wpC_lst, wpC_call, wpC_lrg, wpI_val, wpI_rng1, wpI_rng2, wpI_enum, wpI_zip, wpC_lc, wpC_lc2, wpC_dc, wpS_for, wpA_args, wpC_make, wpS_bm, wpE_bm, wpE_meth, wpE_methR, wpC_meth, wpC_callC, wp_some, onOk, onL, List.getElem?_cons_succ, List.getElem?_cons_zero, List.set_cons_succ, List.set_cons_zero, allVal_cons, allVal_nil, isV_s, isV_i, isV_b, isV_n, isV_t, isV_l, isV_f, isV_d, isV_x, isV_c, isV_r, isV_y, List.length_cons, List.length_nil, Nat.zero_add, Nat.reduceAdd, beq_self_eq_true, Bool.and_true, Bool.true_and, Bool.and_self, decide_true, decide_false, if_true, Bool.not_true, Bool.not_false, dec0, dec1, dec2, dec3, dec4, rtD_s, rtD_i, rtD_b, rtD_n, rtD_t, rtD_l, rtD_x, isN_n, isN_t, isN_s, isN_i, O_dl, O_dd, O_di, v_addI, v_sub, v_intI, v_ordI, v_ordS, v_lenL, v_lenT, v_min2S, v_max2S, v_min2I, v_max2I, v_cutT, v_cutL, v_eqI, v_neI, v_eqS, v_neS, v_eqB, v_neB, v_cint, v_inCh, bne_self_eq_false, Bool.false_bne, Bool.true_bne, Bool.bne_false, Bool.bne_true, stT, stAll, stMI, wipeF, Option.map_some, Option.map_none, wpO_s, wpO_n, e2]
            rw [e, Jself]
            exact ⟨rfl, trivial⟩
          · have e2 : ¬ ([ls[done.length]] = [ls[done2.length]]) := fun q => by injection q with q _; exact e q
            simp -implicitDefEqProofs only [wpF, wpS_seq, wpS_if, wpS_set, wpS_put, wpS_ret, wpS_nil, wpS_drop, wpS_own, wpS_fz, wpS_bx, wpS_asg, wpS_multi, wpM_nil, wpM_v, wpM_o, wpE_op2, wpE_v, wpE_c, wpE_eL, wpEs_cons, wpEs_nil, wpE_callN, wpE_callR, wpE_tup, wpE_lst, wpE_and, wpE_or, wpE_not, wpE_if, wpE_fz, wpE_bx, wpE_bind, wpE_isN, wpE_chain, wpE_cut, wpO_none, wpO_some, wpC_lst, wpC_call, wpC_lrg, wpI_val, wpI_rng1, wpI_rng2, wpI_enum, wpI_zip, wpC_lc, wpC_lc2, wpC_dc, wpS_for, wpA_args, wpC_make, wpS_bm, wpE_bm, wpE_meth, wpE_methR, wpC_meth, wpC_callC, wp_some, onOk, onL, List.getElem?_cons_succ, List.getElem?_cons_zero, List.set_cons_succ, List.set_cons_zero, allVal_cons, allVal_nil, isV_s, isV_i, isV_b, isV_n, isV_t, isV_l, isV_f, isV_d, isV_x, isV_c, isV_r, isV_y, List.length_cons, List.length_nil, Nat.zero_add, Nat.reduceAdd, beq_self_eq_true, Bool.and_true, Bool.true_and, Bool.and_self, decide_true, decide_false, if_true, Bool.not_true, Bool.not_false, dec0, dec1, dec2, dec3, dec4, rtD_s, rtD_i, rtD_b, rtD_n, rtD_t, rtD_l, rtD_x, isN_n, isN_t, isN_s, isN_i, O_dl, O_dd, O_di, v_addI, v_sub, v_intI, v_ordI, v_ordS, v_lenL, v_lenT, v_min2S, v_max2S, v_min2I, v_max2I, v_cutT, v_cutL, v_eqI, v_neI, v_eqS, v_neS, v_eqB, v_neB, v_cint, v_inCh, bne_self_eq_false, Bool.false_bne, Bool.true_bne, Bool.bne_false, Bool.bne_true, stT, stAll, stMI, wipeF, Option.map_some, Option.map_none, wpO_s, wpO_n, e2]
            exact ⟨trivial, trivial⟩
        rintro f h3 ⟨rfl, rfl⟩
        simp -implicitDefEqProofs only [wpF, wpS_seq, wpS_if, wpS_set, wpS_put, wpS_ret, wpS_nil, wpS_drop, wpS_own, wpS_fz, wpS_bx, wpS_asg, wpS_multi, wpM_nil, wpM_v, wpM_o, wpE_op2, wpE_v, wpE_c, wpE_eL, wpEs_cons, wpEs_nil, wpE_callN, wpE_callR, wpE_tup, wpE_lst, wpE_and, wpE_or, wpE_not, wpE_if, wpE_fz, wpE_bx, wpE_bind, wpE_isN, wpE_chain, wpE_cut, wpO_none, wpO_some, wpC_lst, wpC_call, wpC_lrg, wpI_val, wpI_rng1, wpI_rng2, wpI_enum, wpI_zip, wpC_lc, wpC_lc2, wpC_dc, wpS_for, wpA_args, wpC_make, wpS_bm, wpE_bm, wpE_meth, wpE_methR, wpC_meth, wpC_callC, wp_some, onOk, onL, List.getElem?_cons_succ, List.getElem?_cons_zero, List.set_cons_succ, List.set_cons_zero, allVal_cons, allVal_nil, isV_s, isV_i, isV_b, isV_n, isV_t, isV_l, isV_f, isV_d, isV_x, isV_c, isV_r, isV_y, List.length_cons, List.length_nil, Nat.zero_add, Nat.reduceAdd, beq_self_eq_true, Bool.and_true, Bool.true_and, Bool.and_self, decide_true, decide_false, if_true, Bool.not_true, Bool.not_false, dec0, dec1, dec2, dec3, dec4, rtD_s, rtD_i, rtD_b, rtD_n, rtD_t, rtD_l, rtD_x, isN_n, isN_t, isN_s, isN_i, O_dl, O_dd, O_di, v_addI, v_sub, v_intI, v_ordI, v_ordS, v_lenL, v_lenT, v_min2S, v_max2S, v_min2I, v_max2I, v_cutT, v_cutL, v_eqI, v_neI, v_eqS, v_neS, v_eqB, v_neB, v_cint, v_inCh, bne_self_eq_false, Bool.false_bne, Bool.true_bne, Bool.bne_false, Bool.bne_true, stT, stAll, stMI, wipeF, Option.map_some, Option.map_none, wpO_s, wpO_n, mj, isV_tbl]
        refine joinsT_wp (by omega) ma mb ?_
        have ad : ∀ {x y : Char} {fr : Fr} {hb : HB} {Q : R → HB → Prop}, wp (gAdd (sg x) (sg y) fr hb) Q = Q (.ok (.str [x, y])) hb := fun {x y fr hb Q} => by rw [v_addS, if_pos (by simp only [List.length_cons, List.length_nil]; omega)]; rfl
        simp -implicitDefEqProofs only [onOk, ad]
        refine inI_wp (by simp) h7 ?_
        rw [inJ _ ma _ mb]
        simp -implicitDefEqProofs only [wpF, wpS_seq, wpS_if, wpS_set, wpS_put, wpS_ret, wpS_nil, wpS_drop, wpS_own, wpS_fz, wpS_bx, wpS_asg, wpS_multi, wpM_nil, wpM_v, wpM_o, wpE_op2, wpE_v, wpE_c, wpE_eL, wpEs_cons, wpEs_nil, wpE_callN, wpE_callR, wpE_tup, wpE_lst, wpE_and, wpE_or, wpE_not, wpE_if, wpE_fz, wpE_bx, wpE_bind, wpE_isN, wpE_chain, wpE_cut, wpO_none, wpO_some, wpC_lst, wpC_call, wpC_lrg, wpI_val, wpI_rng1, wpI_rng2, wpI_enum, wpI_zip, wpC_lc, wpC_lc2, wpC_dc, wpS_for, wpA_args, wpC_make, wpS_bm, wpE_bm, wpE_meth, wpE_methR, wpC_meth, wpC_callC, wp_some, onOk, onL, List.getElem?_cons_succ, List.getElem?_cons_zero, List.set_cons_succ, List.set_cons_zero, allVal_cons, allVal_nil, isV_s, isV_i, isV_b, isV_n, isV_t, isV_l, isV_f, isV_d, isV_x, isV_c, isV_r, isV_y, List.length_cons, List.length_nil, Nat.zero_add, Nat.reduceAdd, beq_self_eq_true, Bool.and_true, Bool.true_and, Bool.and_self, decide_true, decide_false, if_true, Bool.not_true, Bool.not_false, dec0, dec1, dec2, dec3, dec4, rtD_s, rtD_i, rtD_b, rtD_n, rtD_t, rtD_l, rtD_x, isN_n, isN_t, isN_s, isN_i, O_dl, O_dd, O_di, v_addI, v_sub, v_intI, v_ordI, v_ordS, v_lenL, v_lenT, v_min2S, v_max2S, v_min2I, v_max2I, v_cutT, v_cutL, v_eqI, v_neI, v_eqS, v_neS, v_eqB, v_neB, v_cint, v_inCh, bne_self_eq_false, Bool.false_bne, Bool.true_bne, Bool.bne_false, Bool.bne_true, stT, stAll, stMI, wipeF, Option.map_some, Option.map_none, wpO_s, wpO_n]
        refine like_wp (by simp [pl]) ?_
        simp -implicitDefEqProofs only [wpF, wpS_seq, wpS_if, wpS_set, wpS_put, wpS_ret, wpS_nil, wpS_drop, wpS_own, wpS_fz, wpS_bx, wpS_asg, wpS_multi, wpM_nil, wpM_v, wpM_o, wpE_op2, wpE_v, wpE_c, wpE_eL, wpEs_cons, wpEs_nil, wpE_callN, wpE_callR, wpE_tup, wpE_lst, wpE_and, wpE_or, wpE_not, wpE_if, wpE_fz, wpE_bx, wpE_bind, wpE_isN, wpE_chain, wpE_cut, wpO_none, wpO_some, wpC_lst, wpC_call, wpC_lrg, wpI_val, wpI_rng1, wpI_rng2, wpI_enum, wpI_zip, wpC_lc, wpC_lc2, wpC_dc, wpS_for, wpA_args, wpC_make, wpS_bm, wpE_bm, wpE_meth, wpE_methR, wpC_meth, wpC_callC, wp_some, onOk, onL, List.getElem?_cons_succ, List.getElem?_cons_zero, List.set_cons_succ, List.set_cons_zero, allVal_cons, allVal_nil, isV_s, isV_i, isV_b, isV_n, isV_t, isV_l, isV_f, isV_d, isV_x, isV_c, isV_r, isV_y, List.length_cons, List.length_nil, Nat.zero_add, Nat.reduceAdd, beq_self_eq_true, Bool.and_true, Bool.true_and, Bool.and_self, decide_true, decide_false, if_true, Bool.not_true, Bool.not_false, dec0, dec1, dec2, dec3, dec4, rtD_s, rtD_i, rtD_b, rtD_n, rtD_t, rtD_l, rtD_x, isN_n, isN_t, isN_s, isN_i, O_dl, O_dd, O_di, v_addI, v_sub, v_intI, v_ordI, v_ordS, v_lenL, v_lenT, v_min2S, v_max2S, v_min2I, v_max2I, v_cutT, v_cutL, v_eqI, v_neI, v_eqS, v_neS, v_eqB, v_neB, v_cint, v_inCh, bne_self_eq_false, Bool.false_bne, Bool.true_bne, Bool.bne_false, Bool.bne_true, stT, stAll, stMI, wipeF, Option.map_some, Option.map_none, wpO_s, wpO_n]
        exact ⟨by rw [List.append_assoc]; exact hr2, trivial, _, _, rfl⟩
      · rintro done2 f h2 ⟨hr2, rfl, s7, s10, rfl⟩
        exact ⟨by rw [List.append_assoc]; exact hr, rfl, _, _, _, rfl⟩
    · rintro done f h1 ⟨hr, rfl, hf⟩
      exact ⟨hf, hB⟩
  rintro f h ⟨⟨s7, s8, s10, rfl⟩, hB⟩

  -- odd
  refine wp_seq (fun f h => ∃ s : List Char, s.length ≤ 100 ∧ f = [.sh (.fz (ns.map .int)), .sh (.box 0), .sh (.tup [.str ls, .lst (ps.map .str)]), .sh (.box k), .sh (.lst (hs.map .str)), .sh (tbl ls ps), .sh (.str (tblText ls ps)), s7, s8, .sh (.str s), s10, .un, .sh (.str ls), .sh (.lst (ps.map .str)), .un] ∧ Box h 0) ?_ ?_
  · have i0 : ∀ {fr : Fr} {hb : HB} {Q : R → HB → Prop}, wp (gIxD (.str ls) (.int 0) fr hb) Q = Q (.ok (sg (ls[0]'(by omega)))) hb := fun {fr hb Q} => ix_sg (k := 0) (by omega) hls
    simp -implicitDefEqProofs only [wpS_set, wpE_callN, wpEs_cons, wpEs_nil, wpE_v, wpE_lst, wpE_c, wpE_op2, onOk, onL, List.getElem?_cons_succ, List.getElem?_cons_zero, i0, v_addS, v_mulS]
    rw [if_pos (by simp only [List.length_cons, List.length_nil]; omega), if_pos (by simp only [List.length_cons, List.length_nil]; omega), if_pos (by simp; decide)]
    have f2 : (List.replicate (2 : Int).toNat [ls[0]'(by omega)]).flatten = [ls[0]'(by omega), ls[0]'(by omega)] := rfl
    rw [f2]
    simp -implicitDefEqProofs only [allVal_cons, allVal_nil, isV_x, isV_l, Bool.and_true, List.length_cons, List.length_nil, Nat.zero_add, Nat.reduceAdd, beq_self_eq_true, if_true]
    refine pick_wp hB (by simp) (by simp) (fun x hx => ?_) fun d h2 hd hB2 hE => ?_
    · simp only [List.mem_cons, List.not_mem_nil, or_false] at hx
      rcases hx with rfl | rfl | rfl | rfl | rfl | rfl | rfl | rfl <;> rfl
    have : ∃ s : List Char, s.length ≤ 100 ∧ d = .str s := by
      simp only [List.mem_cons, List.not_mem_nil, or_false] at hd
      rcases hd with rfl | rfl | rfl | rfl | rfl | rfl | rfl | rfl
      · exact ⟨_, by simp, rfl⟩
      · exact ⟨_, by simp, rfl⟩
      · exact ⟨_, by simp, rfl⟩
      · exact ⟨_, by omega, rfl⟩
      · exact ⟨_, by simp, rfl⟩
      · exact ⟨_, by simp, rfl⟩
      · exact ⟨_, by simp, rfl⟩
      · exact ⟨_, by simp, rfl⟩
    obtain ⟨s, hsl, rfl⟩ := this
    simp -implicitDefEqProofs only [wpF, wpS_seq, wpS_if, wpS_set, wpS_put, wpS_ret, wpS_nil, wpS_drop, wpS_own, wpS_fz, wpS_bx, wpS_asg, wpS_multi, wpM_nil, wpM_v, wpM_o, wpE_op2, wpE_v, wpE_c, wpE_eL, wpEs_cons, wpEs_nil, wpE_callN, wpE_callR, wpE_tup, wpE_lst, wpE_and, wpE_or, wpE_not, wpE_if, wpE_fz, wpE_bx, wpE_bind, wpE_isN, wpE_chain, wpE_cut, wpO_none, wpO_some, wpC_lst, wpC_call, wpC_lrg, wpI_val, wpI_rng1, wpI_rng2, wpI_enum, wpI_zip, wpC_lc, wpC_lc2, wpC_dc, wpS_for, wpA_args, wpC_make, wpS_bm, wpE_bm, wpE_meth, wpE_methR, wpC_meth, wpC_callC, wp_some, onOk, onL, List.getElem?_cons_succ, List.getElem?_cons_zero, List.set_cons_succ, List.set_cons_zero, allVal_cons, allVal_nil, isV_s, isV_i, isV_b, isV_n, isV_t, isV_l, isV_f, isV_d, isV_x, isV_c, isV_r, isV_y, List.length_cons, List.length_nil, Nat.zero_add, Nat.reduceAdd, beq_self_eq_true, Bool.and_true, Bool.true_and, Bool.and_self, decide_true, decide_false, if_true, Bool.not_true, Bool.not_false, dec0, dec1, dec2, dec3, dec4, rtD_s, rtD_i, rtD_b, rtD_n, rtD_t, rtD_l, rtD_x, isN_n, isN_t, isN_s, isN_i, O_dl, O_dd, O_di, v_addI, v_sub, v_intI, v_ordI, v_ordS, v_lenL, v_lenT, v_min2S, v_max2S, v_min2I, v_max2I, v_cutT, v_cutL, v_eqI, v_neI, v_eqS, v_neS, v_eqB, v_neB, v_cint, v_inCh, bne_self_eq_false, Bool.false_bne, Bool.true_bne, Bool.bne_false, Bool.bne_true, stT, stAll, stMI, wipeF, Option.map_some, Option.map_none, wpO_s, wpO_n]
    exact ⟨s, hsl, rfl, hB2⟩
  rintro f h ⟨s, hsl, rfl, hB⟩

  -- odd in made
  refine wp_seq (fun f h => f = [.sh (.fz (ns.map .int)), .sh (.box 0), .sh (.tup [.str ls, .lst (ps.map .str)]), .sh (.box k), .sh (.lst (hs.map .str)), .sh (tbl ls ps), .sh (.str (tblText ls ps)), s7, s8, .sh (.str s), s10, .un, .sh (.str ls), .sh (.lst (ps.map .str)), .un] ∧ Box h 0) ?_ ?_
  · rw [wpS_if]
    simp -implicitDefEqProofs only [wpE_op2, wpE_v, onOk, List.getElem?_cons_succ, List.getElem?_cons_zero]
    refine inI_wp hsl h7 ?_
    simp -implicitDefEqProofs only [wpF, wpS_seq, wpS_if, wpS_set, wpS_put, wpS_ret, wpS_nil, wpS_drop, wpS_own, wpS_fz, wpS_bx, wpS_asg, wpS_multi, wpM_nil, wpM_v, wpM_o, wpE_op2, wpE_v, wpE_c, wpE_eL, wpEs_cons, wpEs_nil, wpE_callN, wpE_callR, wpE_tup, wpE_lst, wpE_and, wpE_or, wpE_not, wpE_if, wpE_fz, wpE_bx, wpE_bind, wpE_isN, wpE_chain, wpE_cut, wpO_none, wpO_some, wpC_lst, wpC_call, wpC_lrg, wpI_val, wpI_rng1, wpI_rng2, wpI_enum, wpI_zip, wpC_lc, wpC_lc2, wpC_dc, wpS_for, wpA_args, wpC_make, wpS_bm, wpE_bm, wpE_meth, wpE_methR, wpC_meth, wpC_callC, wp_some, onOk, onL, List.getElem?_cons_succ, List.getElem?_cons_zero, List.set_cons_succ, List.set_cons_zero, allVal_cons, allVal_nil, isV_s, isV_i, isV_b, isV_n, isV_t, isV_l, isV_f, isV_d, isV_x, isV_c, isV_r, isV_y, List.length_cons, List.length_nil, Nat.zero_add, Nat.reduceAdd, beq_self_eq_true, Bool.and_true, Bool.true_and, Bool.and_self, decide_true, decide_false, if_true, Bool.not_true, Bool.not_false, dec0, dec1, dec2, dec3, dec4, rtD_s, rtD_i, rtD_b, rtD_n, rtD_t, rtD_l, rtD_x, isN_n, isN_t, isN_s, isN_i, O_dl, O_dd, O_di, v_addI, v_sub, v_intI, v_ordI, v_ordS, v_lenL, v_lenT, v_min2S, v_max2S, v_min2I, v_max2I, v_cutT, v_cutL, v_eqI, v_neI, v_eqS, v_neS, v_eqB, v_neB, v_cint, v_inCh, bne_self_eq_false, Bool.false_bne, Bool.true_bne, Bool.bne_false, Bool.bne_true, stT, stAll, stMI, wipeF, Option.map_some, Option.map_none, wpO_s, wpO_n, v_lenS, show s.length ≤ szL from by omega]
    have inTs : inT ls ps s = (decide (((s.length : Nat) : Int) = 2) && decide (s ∈ ps ++ ps.map List.reverse)) := by
      rcases s with _ | ⟨a, _ | ⟨b, _ | ⟨c, s⟩⟩⟩
      · simp [inT]
      · simp [inT]
      · have hJ := hand_J hT hand_self a b
        have hm : [a, b] ∈ ps ++ ps.map List.reverse ↔ ([a, b] ∈ ps ∨ [b, a] ∈ ps) := by
          rw [List.mem_append, List.mem_map]
          constructor
          · rintro (q | ⟨p, hp, e⟩)
            · exact .inl q
            · have := congrArg List.reverse e
              rw [List.reverse_reverse] at this
              subst this
              exact .inr hp
          · rintro (q | q)
            · exact .inl q
            · exact .inr ⟨_, q, rfl⟩
        have e1 : decide ([a, b] ∈ ps ++ ps.map List.reverse) = J ps a b := by
          rw [Bool.eq_iff_iff, decide_eq_true_iff, hm, hJ]
        rw [e1]
        show (isPair [a, b] ls && J ps a b) = _
        cases q : J ps a b with
        | false => simp
        | true =>
          have : isPair [a, b] ls = true := by
            rcases hJ.mpr q with z | z
            · exact (hand_pair hT hand_self z).1
            · have := (hand_pair hT hand_self z).1
              unfold isPair at this ⊢
              simp only [Bool.and_eq_true, decide_eq_true_eq, Bool.not_eq_true', decide_eq_false_iff_not] at this ⊢
              exact ⟨this.2.1, this.1, fun e => this.2.2 e.symm⟩
          rw [this]; simp
      · have : ¬ (((a :: b :: c :: s).length : Nat) : Int) = 2 := by simp only [List.length_cons]; omega
        rw [decide_eq_false this]; rfl
    have fin : ∀ (fr : Fr) (b : Bool), inT ls ps s = b → wp (gNe (.bl (inT ls ps s)) (.bl b) fr h) (fun r h' => r = .ok (.bl false) ∧ h' = h) := fun fr b e => by
      rw [v_neB, e]
      simp
    by_cases e2 : ((s.length : Nat) : Int) = 2
    · simp -implicitDefEqProofs only [e2, decide_true]
      refine wp_lcM (g := D.str) (fun _ => true) (fun p => .str p.reverse) ps [] (fun p hp => ⟨_, rfl, by rw [wpE_c]; exact ⟨rfl, rfl⟩, fun _ => ⟨?_, rfl⟩⟩) (by simp only [List.length_nil]; omega) ?_
      · have : p.length ≤ szL := by have := (hand_pair hT hand_self hp).2; omega
        simp -implicitDefEqProofs only [wpF, wpS_seq, wpS_if, wpS_set, wpS_put, wpS_ret, wpS_nil, wpS_drop, wpS_own, wpS_fz, wpS_bx, wpS_asg, wpS_multi, wpM_nil, wpM_v, wpM_o, wpE_op2, wpE_v, wpE_c, wpE_eL, wpEs_cons, wpEs_nil, wpE_callN, wpE_callR, wpE_tup, wpE_lst, wpE_and, wpE_or, wpE_not, wpE_if, wpE_fz, wpE_bx, wpE_bind, wpE_isN, wpE_chain, wpE_cut, wpO_none, wpO_some, wpC_lst, wpC_call, wpC_lrg, wpI_val, wpI_rng1, wpI_rng2, wpI_enum, wpI_zip, wpC_lc, wpC_lc2, wpC_dc, wpS_for, wpA_args, wpC_make, wpS_bm, wpE_bm, wpE_meth, wpE_methR, wpC_meth, wpC_callC, wp_some, onOk, onL, List.getElem?_cons_succ, List.getElem?_cons_zero, List.set_cons_succ, List.set_cons_zero, allVal_cons, allVal_nil, isV_s, isV_i, isV_b, isV_n, isV_t, isV_l, isV_f, isV_d, isV_x, isV_c, isV_r, isV_y, List.length_cons, List.length_nil, Nat.zero_add, Nat.reduceAdd, beq_self_eq_true, Bool.and_true, Bool.true_and, Bool.and_self, decide_true, decide_false, if_true, Bool.not_true, Bool.not_false, dec0, dec1, dec2, dec3, dec4, rtD_s, rtD_i, rtD_b, rtD_n, rtD_t, rtD_l, rtD_x, isN_n, isN_t, isN_s, isN_i, O_dl, O_dd, O_di, v_addI, v_sub, v_intI, v_ordI, v_ordS, v_lenL, v_lenT, v_min2S, v_max2S, v_min2I, v_max2I, v_cutT, v_cutL, v_eqI, v_neI, v_eqS, v_neS, v_eqB, v_neB, v_cint, v_inCh, bne_self_eq_false, Bool.false_bne, Bool.true_bne, Bool.bne_false, Bool.bne_true, stT, stAll, stMI, wipeF, Option.map_some, Option.map_none, wpO_s, wpO_n, v_revS, this]
        exact ⟨trivial, trivial⟩
      rw [List.filter_eq_self.mpr (fun _ _ => rfl)]
      have em : ps.map D.str ++ ([] ++ ps.map fun p => D.str p.reverse) = (ps ++ ps.map List.reverse).map .str := by
        rw [List.nil_append, List.map_append, List.map_map]; rfl
      simp -implicitDefEqProofs only [onL, onOk, O_dl, v_addL]
      rw [if_pos (by simp only [List.length_map, List.nil_append]; omega), em, v_inL datS (datStrs _), anyEq_map (f := D.str) (fun _ _ => deqS), Bool.false_bne]
      have e3 : ∀ i : Decidable (s ∈ ps ++ ps.map List.reverse), inT ls ps s = @decide _ i := fun i => by
        rw [inTs, decide_eq_true e2, Bool.true_and]
        exact decide_eq_decide.mpr Iff.rfl
      refine wp_mono (fin _ _ (e3 _)) ?_
      rintro r h' ⟨rfl, rfl⟩
      simp -implicitDefEqProofs only [wpF, wpS_seq, wpS_if, wpS_set, wpS_put, wpS_ret, wpS_nil, wpS_drop, wpS_own, wpS_fz, wpS_bx, wpS_asg, wpS_multi, wpM_nil, wpM_v, wpM_o, wpE_op2, wpE_v, wpE_c, wpE_eL, wpEs_cons, wpEs_nil, wpE_callN, wpE_callR, wpE_tup, wpE_lst, wpE_and, wpE_or, wpE_not, wpE_if, wpE_fz, wpE_bx, wpE_bind, wpE_isN, wpE_chain, wpE_cut, wpO_none, wpO_some, wpC_lst, wpC_call, wpC_lrg, wpI_val, wpI_rng1, wpI_rng2, wpI_enum, wpI_zip, wpC_lc, wpC_lc2, wpC_dc, wpS_for, wpA_args, wpC_make, wpS_bm, wpE_bm, wpE_meth, wpE_methR, wpC_meth, wpC_callC, wp_some, onOk, onL, List.getElem?_cons_succ, List.getElem?_cons_zero, List.set_cons_succ, List.set_cons_zero, allVal_cons, allVal_nil, isV_s, isV_i, isV_b, isV_n, isV_t, isV_l, isV_f, isV_d, isV_x, isV_c, isV_r, isV_y, List.length_cons, List.length_nil, Nat.zero_add, Nat.reduceAdd, beq_self_eq_true, Bool.and_true, Bool.true_and, Bool.and_self, decide_true, decide_false, if_true, Bool.not_true, Bool.not_false, dec0, dec1, dec2, dec3, dec4, rtD_s, rtD_i, rtD_b, rtD_n, rtD_t, rtD_l, rtD_x, isN_n, isN_t, isN_s, isN_i, O_dl, O_dd, O_di, v_addI, v_sub, v_intI, v_ordI, v_ordS, v_lenL, v_lenT, v_min2S, v_max2S, v_min2I, v_max2I, v_cutT, v_cutL, v_eqI, v_neI, v_eqS, v_neS, v_eqB, v_neB, v_cint, v_inCh, bne_self_eq_false, Bool.false_bne, Bool.true_bne, Bool.bne_false, Bool.bne_true, stT, stAll, stMI, wipeF, Option.map_some, Option.map_none, wpO_s, wpO_n]
      exact ⟨trivial, hB⟩
    · have i0 : inT ls ps s = false := by rw [inTs, decide_eq_false e2]; rfl
      simp -implicitDefEqProofs only [wpF, wpS_seq, wpS_if, wpS_set, wpS_put, wpS_ret, wpS_nil, wpS_drop, wpS_own, wpS_fz, wpS_bx, wpS_asg, wpS_multi, wpM_nil, wpM_v, wpM_o, wpE_op2, wpE_v, wpE_c, wpE_eL, wpEs_cons, wpEs_nil, wpE_callN, wpE_callR, wpE_tup, wpE_lst, wpE_and, wpE_or, wpE_not, wpE_if, wpE_fz, wpE_bx, wpE_bind, wpE_isN, wpE_chain, wpE_cut, wpO_none, wpO_some, wpC_lst, wpC_call, wpC_lrg, wpI_val, wpI_rng1, wpI_rng2, wpI_enum, wpI_zip, wpC_lc, wpC_lc2, wpC_dc, wpS_for, wpA_args, wpC_make, wpS_bm, wpE_bm, wpE_meth, wpE_methR, wpC_meth, wpC_callC, wp_some, onOk, onL, List.getElem?_cons_succ, List.getElem?_cons_zero, List.set_cons_succ, List.set_cons_zero, allVal_cons, allVal_nil, isV_s, isV_i, isV_b, isV_n, isV_t, isV_l, isV_f, isV_d, isV_x, isV_c, isV_r, isV_y, List.length_cons, List.length_nil, Nat.zero_add, Nat.reduceAdd, beq_self_eq_true, Bool.and_true, Bool.true_and, Bool.and_self, decide_true, decide_false, if_true, Bool.not_true, Bool.not_false, dec0, dec1, dec2, dec3, dec4, rtD_s, rtD_i, rtD_b, rtD_n, rtD_t, rtD_l, rtD_x, isN_n, isN_t, isN_s, isN_i, O_dl, O_dd, O_di, v_addI, v_sub, v_intI, v_ordI, v_ordS, v_lenL, v_lenT, v_min2S, v_max2S, v_min2I, v_max2I, v_cutT, v_cutL, v_eqI, v_neI, v_eqS, v_neS, v_eqB, v_neB, v_cint, v_inCh, bne_self_eq_false, Bool.false_bne, Bool.true_bne, Bool.bne_false, Bool.bne_true, stT, stAll, stMI, wipeF, Option.map_some, Option.map_none, wpO_s, wpO_n, e2, i0]
      exact ⟨trivial, hB⟩
  rintro f h ⟨rfl, hB⟩

  -- the other table
  refine wp_seq (fun f h => ∃ ks qs, TabOk ks qs ∧ f = [.sh (.fz (ns.map .int)), .sh (.box 0), .sh (.tup [.str ls, .lst (ps.map .str)]), .sh (.box k), .sh (.lst (hs.map .str)), .sh (tbl ls ps), .sh (.str (tblText ls ps)), s7, s8, .sh (.str s), .sh (.tup [.str ks, .lst (qs.map .str)]), .un, .sh (.str ls), .sh (.lst (ps.map .str)), .un] ∧ Box h 0) ?_ ?_
  · simp -implicitDefEqProofs only [wpF, wpS_seq, wpS_if, wpS_set, wpS_put, wpS_ret, wpS_nil, wpS_drop, wpS_own, wpS_fz, wpS_bx, wpS_asg, wpS_multi, wpM_nil, wpM_v, wpM_o, wpE_op2, wpE_v, wpE_c, wpE_eL, wpEs_cons, wpEs_nil, wpE_callN, wpE_callR, wpE_tup, wpE_lst, wpE_and, wpE_or, wpE_not, wpE_if, wpE_fz, wpE_bx, wpE_bind, wpE_isN, wpE_chain, wpE_cut, wpO_none, wpO_some, wpC_lst, wpC_call, wpC_lrg, wpI_val, wpI_rng1, wpI_rng2, wpI_enum, wpI_zip, wpC_lc, wpC_lc2, wpC_dc, wpS_for, wpA_args, wpC_make, wpS_bm, wpE_bm, wpE_meth, wpE_methR, wpC_meth, wpC_callC, wp_some, onOk, onL, List.getElem?_cons_succ, List.getElem?_cons_zero, List.set_cons_succ, List.set_cons_zero, allVal_cons, allVal_nil, isV_s, isV_i, isV_b, isV_n, isV_t, isV_l, isV_f, isV_d, isV_x, isV_c, isV_r, isV_y, List.length_cons, List.length_nil, Nat.zero_add, Nat.reduceAdd, beq_self_eq_true, Bool.and_true, Bool.true_and, Bool.and_self, decide_true, decide_false, if_true, Bool.not_true, Bool.not_false, dec0, dec1, dec2, dec3, dec4, rtD_s, rtD_i, rtD_b, rtD_n, rtD_t, rtD_l, rtD_x, isN_n, isN_t, isN_s, isN_i, O_dl, O_dd, O_di, v_addI, v_sub, v_intI, v_ordI, v_ordS, v_lenL, v_lenT, v_min2S, v_max2S, v_min2I, v_max2I, v_cutT, v_cutL, v_eqI, v_neI, v_eqS, v_neS, v_eqB, v_neB, v_cint, v_inCh, bne_self_eq_false, Bool.false_bne, Bool.true_bne, Bool.bne_false, Bool.bne_true, stT, stAll, stMI, wipeF, Option.map_some, Option.map_none, wpO_s, wpO_n]
    refine table_wp hB fun ks qs hb' hT2 hB' hE => ?_
    simp -implicitDefEqProofs only [wpF, wpS_seq, wpS_if, wpS_set, wpS_put, wpS_ret, wpS_nil, wpS_drop, wpS_own, wpS_fz, wpS_bx, wpS_asg, wpS_multi, wpM_nil, wpM_v, wpM_o, wpE_op2, wpE_v, wpE_c, wpE_eL, wpEs_cons, wpEs_nil, wpE_callN, wpE_callR, wpE_tup, wpE_lst, wpE_and, wpE_or, wpE_not, wpE_if, wpE_fz, wpE_bx, wpE_bind, wpE_isN, wpE_chain, wpE_cut, wpO_none, wpO_some, wpC_lst, wpC_call, wpC_lrg, wpI_val, wpI_rng1, wpI_rng2, wpI_enum, wpI_zip, wpC_lc, wpC_lc2, wpC_dc, wpS_for, wpA_args, wpC_make, wpS_bm, wpE_bm, wpE_meth, wpE_methR, wpC_meth, wpC_callC, wp_some, onOk, onL, List.getElem?_cons_succ, List.getElem?_cons_zero, List.set_cons_succ, List.set_cons_zero, allVal_cons, allVal_nil, isV_s, isV_i, isV_b, isV_n, isV_t, isV_l, isV_f, isV_d, isV_x, isV_c, isV_r, isV_y, List.length_cons, List.length_nil, Nat.zero_add, Nat.reduceAdd, beq_self_eq_true, Bool.and_true, Bool.true_and, Bool.and_self, decide_true, decide_false, if_true, Bool.not_true, Bool.not_false, dec0, dec1, dec2, dec3, dec4, rtD_s, rtD_i, rtD_b, rtD_n, rtD_t, rtD_l, rtD_x, isN_n, isN_t, isN_s, isN_i, O_dl, O_dd, O_di, v_addI, v_sub, v_intI, v_ordI, v_ordS, v_lenL, v_lenT, v_min2S, v_max2S, v_min2I, v_max2I, v_cutT, v_cutL, v_eqI, v_neI, v_eqS, v_neS, v_eqB, v_neB, v_cint, v_inCh, bne_self_eq_false, Bool.false_bne, Bool.true_bne, Bool.bne_false, Bool.bne_true, stT, stAll, stMI, wipeF, Option.map_some, Option.map_none, wpO_s, wpO_n]
    exact ⟨ks, qs, hT2, rfl, hB'⟩
  rintro f h ⟨ks, qs, hT2, rfl, hB⟩

  refine wp_seq (fun f h' => f = [.sh (.fz (ns.map .int)), .sh (.box 0), .sh (.tup [.str ls, .lst (ps.map .str)]), .sh (.box k), .sh (.lst (hs.map .str)), .sh (tbl ls ps), .sh (.str (tblText ls ps)), s7, s8, .sh (.str s), .sh (.tup [.str ks, .lst (qs.map .str)]), .sh (tbl ks qs), .sh (.str ls), .sh (.lst (ps.map .str)), .un] ∧ h = h') ?_ ?_
  · have t0 : ∀ {fr : Fr} {hb : HB} {Q : R → HB → Prop}, wp (gIxD (.tup [.str ks, .lst (qs.map .str)]) (.int 0) fr hb) Q = Q (.ok (.str ks)) hb := fun {fr hb Q} => by rw [v_ixT]; rfl
    have t1 : ∀ {fr : Fr} {hb : HB} {Q : R → HB → Prop}, wp (gIxD (.tup [.str ks, .lst (qs.map .str)]) (.int 1) fr hb) Q = Q (.ok (.lst (qs.map .str))) hb := fun {fr hb Q} => by rw [v_ixT]; rfl
    simp -implicitDefEqProofs only [wpF, wpS_seq, wpS_if, wpS_set, wpS_put, wpS_ret, wpS_nil, wpS_drop, wpS_own, wpS_fz, wpS_bx, wpS_asg, wpS_multi, wpM_nil, wpM_v, wpM_o, wpE_op2, wpE_v, wpE_c, wpE_eL, wpEs_cons, wpEs_nil, wpE_callN, wpE_callR, wpE_tup, wpE_lst, wpE_and, wpE_or, wpE_not, wpE_if, wpE_fz, wpE_bx, wpE_bind, wpE_isN, wpE_chain, wpE_cut, wpO_none, wpO_some, wpC_lst, wpC_call, wpC_lrg, wpI_val, wpI_rng1, wpI_rng2, wpI_enum, wpI_zip, wpC_lc, wpC_lc2, wpC_dc, wpS_for, wpA_args, wpC_make, wpS_bm, wpE_bm, wpE_meth, wpE_methR, wpC_meth, wpC_callC, wp_some, onOk, onL, List.getElem?_cons_succ, List.getElem?_cons_zero, List.set_cons_succ, List.set_cons_zero, allVal_cons, allVal_nil, isV_s, isV_i, isV_b, isV_n, isV_t, isV_l, isV_f, isV_d, isV_x, isV_c, isV_r, isV_y, List.length_cons, List.length_nil, Nat.zero_add, Nat.reduceAdd, beq_self_eq_true, Bool.and_true, Bool.true_and, Bool.and_self, decide_true, decide_false, if_true, Bool.not_true, Bool.not_false, dec0, dec1, dec2, dec3, dec4, rtD_s, rtD_i, rtD_b, rtD_n, rtD_t, rtD_l, rtD_x, isN_n, isN_t, isN_s, isN_i, O_dl, O_dd, O_di, v_addI, v_sub, v_intI, v_ordI, v_ordS, v_lenL, v_lenT, v_min2S, v_max2S, v_min2I, v_max2I, v_cutT, v_cutL, v_eqI, v_neI, v_eqS, v_neS, v_eqB, v_neB, v_cint, v_inCh, bne_self_eq_false, Bool.false_bne, Bool.true_bne, Bool.bne_false, Bool.bne_true, stT, stAll, stMI, wipeF, Option.map_some, Option.map_none, wpO_s, wpO_n, t0, t1, v_tupL]
    refine handed_wp hT2 hand_self (.inr (.inl rfl)) ?_
    simp -implicitDefEqProofs only [wpF, wpS_seq, wpS_if, wpS_set, wpS_put, wpS_ret, wpS_nil, wpS_drop, wpS_own, wpS_fz, wpS_bx, wpS_asg, wpS_multi, wpM_nil, wpM_v, wpM_o, wpE_op2, wpE_v, wpE_c, wpE_eL, wpEs_cons, wpEs_nil, wpE_callN, wpE_callR, wpE_tup, wpE_lst, wpE_and, wpE_or, wpE_not, wpE_if, wpE_fz, wpE_bx, wpE_bind, wpE_isN, wpE_chain, wpE_cut, wpO_none, wpO_some, wpC_lst, wpC_call, wpC_lrg, wpI_val, wpI_rng1, wpI_rng2, wpI_enum, wpI_zip, wpC_lc, wpC_lc2, wpC_dc, wpS_for, wpA_args, wpC_make, wpS_bm, wpE_bm, wpE_meth, wpE_methR, wpC_meth, wpC_callC, wp_some, onOk, onL, List.getElem?_cons_succ, List.getElem?_cons_zero, List.set_cons_succ, List.set_cons_zero, allVal_cons, allVal_nil, isV_s, isV_i, isV_b, isV_n, isV_t, isV_l, isV_f, isV_d, isV_x, isV_c, isV_r, isV_y, List.length_cons, List.length_nil, Nat.zero_add, Nat.reduceAdd, beq_self_eq_true, Bool.and_true, Bool.true_and, Bool.and_self, decide_true, decide_false, if_true, Bool.not_true, Bool.not_false, dec0, dec1, dec2, dec3, dec4, rtD_s, rtD_i, rtD_b, rtD_n, rtD_t, rtD_l, rtD_x, isN_n, isN_t, isN_s, isN_i, O_dl, O_dd, O_di, v_addI, v_sub, v_intI, v_ordI, v_ordS, v_lenL, v_lenT, v_min2S, v_max2S, v_min2I, v_max2I, v_cutT, v_cutL, v_eqI, v_neI, v_eqS, v_neS, v_eqB, v_neB, v_cint, v_inCh, bne_self_eq_false, Bool.false_bne, Bool.true_bne, Bool.bne_false, Bool.bne_true, stT, stAll, stMI, wipeF, Option.map_some, Option.map_none, wpO_s, wpO_n, tblO_d, isV_tbl]
    exact ⟨trivial, trivial⟩
  rintro f _ ⟨rfl, rfl⟩

  -- equality
  refine wp_seq (fun f h' => f = [.sh (.fz (ns.map .int)), .sh (.box 0), .sh (.tup [.str ls, .lst (ps.map .str)]), .sh (.box k), .sh (.lst (hs.map .str)), .sh (tbl ls ps), .sh (.str (tblText ls ps)), s7, s8, .sh (.str s), .sh (.tup [.str ks, .lst (qs.map .str)]), .sh (tbl ks qs), .sh (.str ls), .sh (.lst (ps.map .str)), .un] ∧ h = h') ?_ ?_
  · rw [wpS_if]
    simp -implicitDefEqProofs only [wpE_not, wpE_callN, wpEs_cons, wpEs_nil, wpE_lst, wpE_op2, wpE_v, wpE_c, onOk, onL, List.getElem?_cons_succ, List.getElem?_cons_zero]
    refine eqI_wp hT hT2 ?_
    dsimp only
    refine eqI_wp hT2 hT ?_
    dsimp only
    refine eqIS_wp ?_
    have de : ∀ xs : List (List Char), dat 64 (D.tup [.str ls, .lst (xs.map .str)]) = true := fun xs => by
      show ([D.str ls, .lst (xs.map .str)]).all (dat 63) = true
      simp only [List.all_cons, List.all_nil, datS, Bool.true_and, Bool.and_true]
      exact dat_map (fun _ => datS) xs
    have de2 : dat 64 (D.tup [.str ks, .lst (qs.map .str)]) = true := by
      show ([D.str ks, .lst (qs.map .str)]).all (dat 63) = true
      simp only [List.all_cons, List.all_nil, datS, Bool.true_and, Bool.and_true]
      exact dat_map (fun _ => datS) qs
    have ee : ∀ {fr : Fr} {Q : R → HB → Prop}, wp (gEq (.tup [.str ls, .lst (ps.map .str)]) (.tup [.str ks, .lst (qs.map .str)]) fr h) Q = Q (.ok (.bl (decide (ls = ks) && decide (ps = qs)))) h := fun {fr Q} => by
      rw [v_eq (by rw [rzT]; exact de ps) (by rw [rzT]; exact de2)]
      simp only [rzT, deqT, deqs_cons, deqs_nil, deqS, deqL, deqs_map (f := D.str) (fun _ _ => deqS), Bool.and_true]
    have sw : (decide (ks = ls) && decide (qs = ps)) = (decide (ls = ks) && decide (ps = qs)) := by
      rw [Bool.eq_iff_iff]; simp only [Bool.and_eq_true, decide_eq_true_eq]
      exact ⟨fun ⟨a, b⟩ => ⟨a.symm, b.symm⟩, fun ⟨a, b⟩ => ⟨a.symm, b.symm⟩⟩
    rw [sw]
    simp -implicitDefEqProofs only [wpF, wpS_seq, wpS_if, wpS_set, wpS_put, wpS_ret, wpS_nil, wpS_drop, wpS_own, wpS_fz, wpS_bx, wpS_asg, wpS_multi, wpM_nil, wpM_v, wpM_o, wpE_op2, wpE_v, wpE_c, wpE_eL, wpEs_cons, wpEs_nil, wpE_callN, wpE_callR, wpE_tup, wpE_lst, wpE_and, wpE_or, wpE_not, wpE_if, wpE_fz, wpE_bx, wpE_bind, wpE_isN, wpE_chain, wpE_cut, wpO_none, wpO_some, wpC_lst, wpC_call, wpC_lrg, wpI_val, wpI_rng1, wpI_rng2, wpI_enum, wpI_zip, wpC_lc, wpC_lc2, wpC_dc, wpS_for, wpA_args, wpC_make, wpS_bm, wpE_bm, wpE_meth, wpE_methR, wpC_meth, wpC_callC, wp_some, onOk, onL, List.getElem?_cons_succ, List.getElem?_cons_zero, List.set_cons_succ, List.set_cons_zero, allVal_cons, allVal_nil, isV_s, isV_i, isV_b, isV_n, isV_t, isV_l, isV_f, isV_d, isV_x, isV_c, isV_r, isV_y, List.length_cons, List.length_nil, Nat.zero_add, Nat.reduceAdd, beq_self_eq_true, Bool.and_true, Bool.true_and, Bool.and_self, decide_true, decide_false, if_true, Bool.not_true, Bool.not_false, dec0, dec1, dec2, dec3, dec4, rtD_s, rtD_i, rtD_b, rtD_n, rtD_t, rtD_l, rtD_x, isN_n, isN_t, isN_s, isN_i, O_dl, O_dd, O_di, v_addI, v_sub, v_intI, v_ordI, v_ordS, v_lenL, v_lenT, v_min2S, v_max2S, v_min2I, v_max2I, v_cutT, v_cutL, v_eqI, v_neI, v_eqS, v_neS, v_eqB, v_neB, v_cint, v_inCh, bne_self_eq_false, Bool.false_bne, Bool.true_bne, Bool.bne_false, Bool.bne_true, stT, stAll, stMI, wipeF, Option.map_some, Option.map_none, wpO_s, wpO_n, ee]
    refine like_wp ?_ ?_
    · simp [pl]
    simp -implicitDefEqProofs only [wpF, wpS_seq, wpS_if, wpS_set, wpS_put, wpS_ret, wpS_nil, wpS_drop, wpS_own, wpS_fz, wpS_bx, wpS_asg, wpS_multi, wpM_nil, wpM_v, wpM_o, wpE_op2, wpE_v, wpE_c, wpE_eL, wpEs_cons, wpEs_nil, wpE_callN, wpE_callR, wpE_tup, wpE_lst, wpE_and, wpE_or, wpE_not, wpE_if, wpE_fz, wpE_bx, wpE_bind, wpE_isN, wpE_chain, wpE_cut, wpO_none, wpO_some, wpC_lst, wpC_call, wpC_lrg, wpI_val, wpI_rng1, wpI_rng2, wpI_enum, wpI_zip, wpC_lc, wpC_lc2, wpC_dc, wpS_for, wpA_args, wpC_make, wpS_bm, wpE_bm, wpE_meth, wpE_methR, wpC_meth, wpC_callC, wp_some, onOk, onL, List.getElem?_cons_succ, List.getElem?_cons_zero, List.set_cons_succ, List.set_cons_zero, allVal_cons, allVal_nil, isV_s, isV_i, isV_b, isV_n, isV_t, isV_l, isV_f, isV_d, isV_x, isV_c, isV_r, isV_y, List.length_cons, List.length_nil, Nat.zero_add, Nat.reduceAdd, beq_self_eq_true, Bool.and_true, Bool.true_and, Bool.and_self, decide_true, decide_false, if_true, Bool.not_true, Bool.not_false, dec0, dec1, dec2, dec3, dec4, rtD_s, rtD_i, rtD_b, rtD_n, rtD_t, rtD_l, rtD_x, isN_n, isN_t, isN_s, isN_i, O_dl, O_dd, O_di, v_addI, v_sub, v_intI, v_ordI, v_ordS, v_lenL, v_lenT, v_min2S, v_max2S, v_min2I, v_max2I, v_cutT, v_cutL, v_eqI, v_neI, v_eqS, v_neS, v_eqB, v_neB, v_cint, v_inCh, bne_self_eq_false, Bool.false_bne, Bool.true_bne, Bool.bne_false, Bool.bne_true, stT, stAll, stMI, wipeF, Option.map_some, Option.map_none, wpO_s, wpO_n]
    exact ⟨trivial, trivial⟩
  rintro f _ ⟨rfl, rfl⟩

  -- one pair less
  refine wp_seq (fun f h' => f = [.sh (.fz (ns.map .int)), .sh (.box 0), .sh (.tup [.str ls, .lst (ps.map .str)]), .sh (.box k), .sh (.lst (hs.map .str)), .sh (tbl ls ps), .sh (.str (tblText ls ps)), s7, s8, .sh (.str s), .sh (.tup [.str ks, .lst (qs.map .str)]), .sh (tbl ks qs), .sh (.str ls), .sh (.lst (ps.map .str)), .un] ∧ h = h') ?_ ?_
  · rw [wpS_if]
    simp -implicitDefEqProofs only [wpE_and, wpE_op2, wpE_v, wpE_lst, wpEs_nil, onOk, onL, List.getElem?_cons_succ, List.getElem?_cons_zero, allVal_nil, List.length_nil, dec0, Bool.and_self, if_true]
    rw [v_ne (by rw [rzL]; exact dat_map (fun _ => datS) ps) (by rfl), rzL, rzL, deqL, deqs_nil_r]
    cases hps : ps with
    | nil =>
      simp -implicitDefEqProofs only [wpF, wpS_seq, wpS_if, wpS_set, wpS_put, wpS_ret, wpS_nil, wpS_drop, wpS_own, wpS_fz, wpS_bx, wpS_asg, wpS_multi, wpM_nil, wpM_v, wpM_o, wpE_op2, wpE_v, wpE_c, wpE_eL, wpEs_cons, wpEs_nil, wpE_callN, wpE_callR, wpE_tup, wpE_lst, wpE_and, wpE_or, wpE_not, wpE_if, wpE_fz, wpE_bx, wpE_bind, wpE_isN, wpE_chain, wpE_cut, wpO_none, wpO_some, wpC_lst, wpC_call, wpC_lrg, wpI_val, wpI_rng1, wpI_rng2, wpI_enum, wpI_zip, wpC_lc, wpC_lc2, wpC_dc, wpS_for, wpA_args, wpC_make, wpS_bm, wpE_bm, wpE_meth, wpE_methR, wpC_meth, wpC_callC, wp_some, onOk, onL, List.getElem?_cons_succ, List.getElem?_cons_zero, List.set_cons_succ, List.set_cons_zero, allVal_cons, allVal_nil, isV_s, isV_i, isV_b, isV_n, isV_t, isV_l, isV_f, isV_d, isV_x, isV_c, isV_r, isV_y, List.length_cons, List.length_nil, Nat.zero_add, Nat.reduceAdd, beq_self_eq_true, Bool.and_true, Bool.true_and, Bool.and_self, decide_true, decide_false, if_true, Bool.not_true, Bool.not_false, dec0, dec1, dec2, dec3, dec4, rtD_s, rtD_i, rtD_b, rtD_n, rtD_t, rtD_l, rtD_x, isN_n, isN_t, isN_s, isN_i, O_dl, O_dd, O_di, v_addI, v_sub, v_intI, v_ordI, v_ordS, v_lenL, v_lenT, v_min2S, v_max2S, v_min2I, v_max2I, v_cutT, v_cutL, v_eqI, v_neI, v_eqS, v_neS, v_eqB, v_neB, v_cint, v_inCh, bne_self_eq_false, Bool.false_bne, Bool.true_bne, Bool.bne_false, Bool.bne_true, stT, stAll, stMI, wipeF, Option.map_some, Option.map_none, wpO_s, wpO_n, List.map_nil, List.isEmpty_nil]
      exact ⟨by simp only [hps, List.map_nil], trivial⟩
    | cons p0 pr0 =>
      rw [← hps]
      have ne : (ps.map D.str).isEmpty = false := by rw [hps]; rfl
      have dl : (ps.map D.str).dropLast = ps.dropLast.map .str := by rw [List.map_dropLast]
      have hT3 := tab_sub hT (List.dropLast_sublist ps)
      simp -implicitDefEqProofs only [wpF, wpS_seq, wpS_if, wpS_set, wpS_put, wpS_ret, wpS_nil, wpS_drop, wpS_own, wpS_fz, wpS_bx, wpS_asg, wpS_multi, wpM_nil, wpM_v, wpM_o, wpE_op2, wpE_v, wpE_c, wpE_eL, wpEs_cons, wpEs_nil, wpE_callN, wpE_callR, wpE_tup, wpE_lst, wpE_and, wpE_or, wpE_not, wpE_if, wpE_fz, wpE_bx, wpE_bind, wpE_isN, wpE_chain, wpE_cut, wpO_none, wpO_some, wpC_lst, wpC_call, wpC_lrg, wpI_val, wpI_rng1, wpI_rng2, wpI_enum, wpI_zip, wpC_lc, wpC_lc2, wpC_dc, wpS_for, wpA_args, wpC_make, wpS_bm, wpE_bm, wpE_meth, wpE_methR, wpC_meth, wpC_callC, wp_some, onOk, onL, List.getElem?_cons_succ, List.getElem?_cons_zero, List.set_cons_succ, List.set_cons_zero, allVal_cons, allVal_nil, isV_s, isV_i, isV_b, isV_n, isV_t, isV_l, isV_f, isV_d, isV_x, isV_c, isV_r, isV_y, List.length_cons, List.length_nil, Nat.zero_add, Nat.reduceAdd, beq_self_eq_true, Bool.and_true, Bool.true_and, Bool.and_self, decide_true, decide_false, if_true, Bool.not_true, Bool.not_false, dec0, dec1, dec2, dec3, dec4, rtD_s, rtD_i, rtD_b, rtD_n, rtD_t, rtD_l, rtD_x, isN_n, isN_t, isN_s, isN_i, O_dl, O_dd, O_di, v_addI, v_sub, v_intI, v_ordI, v_ordS, v_lenL, v_lenT, v_min2S, v_max2S, v_min2I, v_max2I, v_cutT, v_cutL, v_eqI, v_neI, v_eqS, v_neS, v_eqB, v_neB, v_cint, v_inCh, bne_self_eq_false, Bool.false_bne, Bool.true_bne, Bool.bne_false, Bool.bne_true, stT, stAll, stMI, wipeF, Option.map_some, Option.map_none, wpO_s, wpO_n, ne, v_neg, cut_last, dl]
      refine handed_wp hT3 hand_self (.inl rfl) ?_
      simp -implicitDefEqProofs only [onL, onOk, tblO_d]
      refine eqI_wp hT hT3 ?_
      have nq : ¬ ps = ps.dropLast := fun e => by
        have := congrArg List.length e
        rw [List.length_dropLast, hps] at this
        simp at this
      simp -implicitDefEqProofs only [wpF, wpS_seq, wpS_if, wpS_set, wpS_put, wpS_ret, wpS_nil, wpS_drop, wpS_own, wpS_fz, wpS_bx, wpS_asg, wpS_multi, wpM_nil, wpM_v, wpM_o, wpE_op2, wpE_v, wpE_c, wpE_eL, wpEs_cons, wpEs_nil, wpE_callN, wpE_callR, wpE_tup, wpE_lst, wpE_and, wpE_or, wpE_not, wpE_if, wpE_fz, wpE_bx, wpE_bind, wpE_isN, wpE_chain, wpE_cut, wpO_none, wpO_some, wpC_lst, wpC_call, wpC_lrg, wpI_val, wpI_rng1, wpI_rng2, wpI_enum, wpI_zip, wpC_lc, wpC_lc2, wpC_dc, wpS_for, wpA_args, wpC_make, wpS_bm, wpE_bm, wpE_meth, wpE_methR, wpC_meth, wpC_callC, wp_some, onOk, onL, List.getElem?_cons_succ, List.getElem?_cons_zero, List.set_cons_succ, List.set_cons_zero, allVal_cons, allVal_nil, isV_s, isV_i, isV_b, isV_n, isV_t, isV_l, isV_f, isV_d, isV_x, isV_c, isV_r, isV_y, List.length_cons, List.length_nil, Nat.zero_add, Nat.reduceAdd, beq_self_eq_true, Bool.and_true, Bool.true_and, Bool.and_self, decide_true, decide_false, if_true, Bool.not_true, Bool.not_false, dec0, dec1, dec2, dec3, dec4, rtD_s, rtD_i, rtD_b, rtD_n, rtD_t, rtD_l, rtD_x, isN_n, isN_t, isN_s, isN_i, O_dl, O_dd, O_di, v_addI, v_sub, v_intI, v_ordI, v_ordS, v_lenL, v_lenT, v_min2S, v_max2S, v_min2I, v_max2I, v_cutT, v_cutL, v_eqI, v_neI, v_eqS, v_neS, v_eqB, v_neB, v_cint, v_inCh, bne_self_eq_false, Bool.false_bne, Bool.true_bne, Bool.bne_false, Bool.bne_true, stT, stAll, stMI, wipeF, Option.map_some, Option.map_none, wpO_s, wpO_n, nq]
      exact ⟨trivial, trivial⟩
  rintro f _ ⟨rfl, rfl⟩

  -- the end
  rw [wpS_ret]
  have pm : perm [1, 0] ([] : List D) [.lst (ps.map .str), .str ls] = [.str ls, .lst (ps.map .str)] := rfl
  simp -implicitDefEqProofs only [wpF, wpS_seq, wpS_if, wpS_set, wpS_put, wpS_ret, wpS_nil, wpS_drop, wpS_own, wpS_fz, wpS_bx, wpS_asg, wpS_multi, wpM_nil, wpM_v, wpM_o, wpE_op2, wpE_v, wpE_c, wpE_eL, wpEs_cons, wpEs_nil, wpE_callN, wpE_callR, wpE_tup, wpE_lst, wpE_and, wpE_or, wpE_not, wpE_if, wpE_fz, wpE_bx, wpE_bind, wpE_isN, wpE_chain, wpE_cut, wpO_none, wpO_some, wpC_lst, wpC_call, wpC_lrg, wpI_val, wpI_rng1, wpI_rng2, wpI_enum, wpI_zip, wpC_lc, wpC_lc2, wpC_dc, wpS_for, wpA_args, wpC_make, wpS_bm, wpE_bm, wpE_meth, wpE_methR, wpC_meth, wpC_callC, wp_some, onOk, onL, List.getElem?_cons_succ, List.getElem?_cons_zero, List.set_cons_succ, List.set_cons_zero, allVal_cons, allVal_nil, isV_s, isV_i, isV_b, isV_n, isV_t, isV_l, isV_f, isV_d, isV_x, isV_c, isV_r, isV_y, List.length_cons, List.length_nil, Nat.zero_add, Nat.reduceAdd, beq_self_eq_true, Bool.and_true, Bool.true_and, Bool.and_self, decide_true, decide_false, if_true, Bool.not_true, Bool.not_false, dec0, dec1, dec2, dec3, dec4, rtD_s, rtD_i, rtD_b, rtD_n, rtD_t, rtD_l, rtD_x, isN_n, isN_t, isN_s, isN_i, O_dl, O_dd, O_di, v_addI, v_sub, v_intI, v_ordI, v_ordS, v_lenL, v_lenT, v_min2S, v_max2S, v_min2I, v_max2I, v_cutT, v_cutL, v_eqI, v_neI, v_eqS, v_neS, v_eqB, v_neB, v_cint, v_inCh, bne_self_eq_false, Bool.false_bne, Bool.true_bne, Bool.bne_false, Bool.bne_true, stT, stAll, stMI, wipeF, Option.map_some, Option.map_none, wpO_s, wpO_n, pm]
  refine handed_wp hT hand_self (.inl rfl) ?_
  simp -implicitDefEqProofs only [onL, onOk, tblO_d]
  refine eqI_wp hT hT ?_
  simp -implicitDefEqProofs only [wpF, wpS_seq, wpS_if, wpS_set, wpS_put, wpS_ret, wpS_nil, wpS_drop, wpS_own, wpS_fz, wpS_bx, wpS_asg, wpS_multi, wpM_nil, wpM_v, wpM_o, wpE_op2, wpE_v, wpE_c, wpE_eL, wpEs_cons, wpEs_nil, wpE_callN, wpE_callR, wpE_tup, wpE_lst, wpE_and, wpE_or, wpE_not, wpE_if, wpE_fz, wpE_bx, wpE_bind, wpE_isN, wpE_chain, wpE_cut, wpO_none, wpO_some, wpC_lst, wpC_call, wpC_lrg, wpI_val, wpI_rng1, wpI_rng2, wpI_enum, wpI_zip, wpC_lc, wpC_lc2, wpC_dc, wpS_for, wpA_args, wpC_make, wpS_bm, wpE_bm, wpE_meth, wpE_methR, wpC_meth, wpC_callC, wp_some, onOk, onL, List.getElem?_cons_succ, List.getElem?_cons_zero, List.set_cons_succ, List.set_cons_zero, allVal_cons, allVal_nil, isV_s, isV_i, isV_b, isV_n, isV_t, isV_l, isV_f, isV_d, isV_x, isV_c, isV_r, isV_y, List.length_cons, List.length_nil, Nat.zero_add, Nat.reduceAdd, beq_self_eq_true, Bool.and_true, Bool.true_and, Bool.and_self, decide_true, decide_false, if_true, Bool.not_true, Bool.not_false, dec0, dec1, dec2, dec3, dec4, rtD_s, rtD_i, rtD_b, rtD_n, rtD_t, rtD_l, rtD_x, isN_n, isN_t, isN_s, isN_i, O_dl, O_dd, O_di, v_addI, v_sub, v_intI, v_ordI, v_ordS, v_lenL, v_lenT, v_min2S, v_max2S, v_min2I, v_max2I, v_cutT, v_cutL, v_eqI, v_neI, v_eqS, v_neS, v_eqB, v_neB, v_cint, v_inCh, bne_self_eq_false, Bool.false_bne, Bool.true_bne, Bool.bne_false, Bool.bne_true, stT, stAll, stMI, wipeF, Option.map_some, Option.map_none, wpO_s, wpO_n, mo]
  refine pairs_wp h7 ?_
  rw [prs_eq hT]
  simp -implicitDefEqProofs only [onL, onOk, O_dl]
  rw [v_eq (by rw [rzL]; exact dat_map (fun _ => datS) ps) (by rw [rzL]; exact dat_map (fun _ => datS) ps), rzL, deqL, deqs_map (f := D.str) (fun _ _ => deqS)]
  simp -implicitDefEqProofs only [wpF, wpS_seq, wpS_if, wpS_set, wpS_put, wpS_ret, wpS_nil, wpS_drop, wpS_own, wpS_fz, wpS_bx, wpS_asg, wpS_multi, wpM_nil, wpM_v, wpM_o, wpE_op2, wpE_v, wpE_c, wpE_eL, wpEs_cons, wpEs_nil, wpE_callN, wpE_callR, wpE_tup, wpE_lst, wpE_and, wpE_or, wpE_not, wpE_if, wpE_fz, wpE_bx, wpE_bind, wpE_isN, wpE_chain, wpE_cut, wpO_none, wpO_some, wpC_lst, wpC_call, wpC_lrg, wpI_val, wpI_rng1, wpI_rng2, wpI_enum, wpI_zip, wpC_lc, wpC_lc2, wpC_dc, wpS_for, wpA_args, wpC_make, wpS_bm, wpE_bm, wpE_meth, wpE_methR, wpC_meth, wpC_callC, wp_some, onOk, onL, List.getElem?_cons_succ, List.getElem?_cons_zero, List.set_cons_succ, List.set_cons_zero, allVal_cons, allVal_nil, isV_s, isV_i, isV_b, isV_n, isV_t, isV_l, isV_f, isV_d, isV_x, isV_c, isV_r, isV_y, List.length_cons, List.length_nil, Nat.zero_add, Nat.reduceAdd, beq_self_eq_true, Bool.and_true, Bool.true_and, Bool.and_self, decide_true, decide_false, if_true, Bool.not_true, Bool.not_false, dec0, dec1, dec2, dec3, dec4, rtD_s, rtD_i, rtD_b, rtD_n, rtD_t, rtD_l, rtD_x, isN_n, isN_t, isN_s, isN_i, O_dl, O_dd, O_di, v_addI, v_sub, v_intI, v_ordI, v_ordS, v_lenL, v_lenT, v_min2S, v_max2S, v_min2I, v_max2I, v_cutT, v_cutL, v_eqI, v_neI, v_eqS, v_neS, v_eqB, v_neB, v_cint, v_inCh, bne_self_eq_false, Bool.false_bne, Bool.true_bne, Bool.bne_false, Bool.bne_true, stT, stAll, stMI, wipeF, Option.map_some, Option.map_none, wpO_s, wpO_n]
end Lw
set_option Elab.async false
set_option linter.all false
set_option maxRecDepth 100000
set_option maxHeartbeats 1000000
namespace DI
open PySem PySem.Spec PyProof.Rows L2

/-! ### a law's end -/
theorem FnOk.noX {P : Program} {w : World} {K : PySem.W.Frag} {mg : Str → Option Value} {base : Heap} {k : Nat} {f : Addr} {fd : FuncData} {ps : List Str} {sp : Sp} (F : FnOk P w K mg base (L2.CX P w) k f fd ps sp) :
    FnOk P w K mg base L2.CX0 k f fd ps (fun vs H Q _ => sp vs H Q (fun _ _ _ => False)) :=
  ⟨fun vs H Q E h => F.len _ _ _ _ h, fun A outer s H args us vs Q E hr he hb hv hs => codeAny_mono (F.run A outer s H args us vs Q _ hr he hb hv hs) fun r s' h => by
    unfold CR at h ⊢
    split at h
    · exact h
    · exact h
    · obtain ⟨_, _, _, _, _, _, _, _, _, _, _, _, hE⟩ := h
      exact hE.elim⟩
theorem relInts {K : PySem.W.Frag} {B : Addr → Prop} {m : List Addr} {H : Hp} : ∀ ns : List Int, RelDs K B m H (ns.map .int) (ns.map V.int)
  | [] => RelDs.nil'
  | n :: ns => RelDs.cons (by unfold RelD; rfl) (relInts ns)
theorem law_sp {K : PySem.W.Frag} {ev : FSem} {ns : List Int} {a : Addr} {H : Hp} (hS : SqL K H a (ns.map V.int)) (ho : ∃ hb, ev [.fz (ns.map .int)] [] = some (.ok (.bl true), hb)) :
    spF K 1 ev [.ref a] H (fun v _ => v = .bl true) (fun _ _ _ => False) := by
  obtain ⟨hb, e⟩ := ho
  refine ⟨fun _ => False, [], [], [.fz (ns.map .int)], .ok (.bl true), hb, rfl, ⟨List.nodup_nil, fun _ h => by simp at h, fun _ h => h.elim, rfl, fun n a o h => by simp at h⟩, RelDs.cons ?_ RelDs.nil', e, fun m' H' _ v rv => ?_⟩
  · unfold RelD
    refine ⟨a, ns.map V.int, rfl, ?_, relInts ns⟩
    rcases hS with h | h
    · exact .inl ⟨h, fun z => by rcases z with z | z; exact z; simp at z⟩
    · exact .inr h
  · unfold RelD at rv
    exact rv
end DI
set_option Elab.async false
set_option linter.all false
set_option maxRecDepth 100000
set_option maxHeartbeats 0
/-! derivations of k01; printed by gen2.py -/
namespace Lw
open PySem PySem.Spec PyProof.Rows L2 DI
def top (i : Nat) : Stmt := PySem.Challenge.pw_sameways_k01_tables_and_their_parts.main.body.getD i (.Pass ⟨0, 0, 0, 0⟩)
def mtop (i j : Nat) : Stmt := match top i with
  | .ClassDef _ _ _ body _ _ _ _ _ _ _ => body.getD j (.Pass ⟨0, 0, 0, 0⟩)
  | s => s
def fa : List He.Fa := [.free "int", .free "len", .glo "_law_open", .glo "_law_pull", .glo "_law_pick", .glo "_law_letters", .free "list", .free "range", .glo "_law_mixed", .free "min", .free "max", .glo "_law_joins", .glo "_law_square", .free "sorted", .glo "_law_table", .int "LEAST_LABELS" 2, .glo "Table", .str "SMALL" "abcdefghijklmnopqrstuvwxyz", .free "all", .free "zip", .glo "is_ascending", .free "enumerate", .glo "is_pair", .cls "Table", .noat "Table" "signs", .noat "Table" "joined", .glo "first_square", .mkr "Table", .free "str", .free "tuple", .free "isinstance", .glo "_law_like", .free "bool", .meth "Table" "pairs", .free "repr", .meth "Table" "check_label", .meth "Table" "joins", .glo "law"]
def xf : List Xf := [.cint "Table" "MOST" 7, .isi [], .prop "Table" "labels", .dun "Table" "__len__", .dun "Table" "__repr__", .dun "Table" "__contains__", .isi ["Table"], .dun "Table" "__eq__", .nf "Table" ["Table"]]
def fn : List He5.DefA := [
  ⟨(fun K => (He.ga K "_law_open")), "_law_open", "_law_open", defArgs (top 15), defBody (top 15), defScope (top 15), [], []⟩,
  ⟨(fun K => (He.ga K "_law_pull")), "_law_pull", "_law_pull", defArgs (top 16), defBody (top 16), defScope (top 16), [], []⟩,
  ⟨(fun K => (He.ga K "_law_pick")), "_law_pick", "_law_pick", defArgs (top 17), defBody (top 17), defScope (top 17), [], []⟩,
  ⟨(fun K => (He.ga K "_law_letters")), "_law_letters", "_law_letters", defArgs (top 22), defBody (top 22), defScope (top 22), [], []⟩,
  ⟨(fun K => (He.ga K "_law_mixed")), "_law_mixed", "_law_mixed", defArgs (top 18), defBody (top 18), defScope (top 18), [], []⟩,
  ⟨(fun K => (He.ga K "_law_joins")), "_law_joins", "_law_joins", defArgs (top 21), defBody (top 21), defScope (top 21), [], []⟩,
  ⟨(fun K => (He.ga K "_law_square")), "_law_square", "_law_square", defArgs (top 20), defBody (top 20), defScope (top 20), [], []⟩,
  ⟨(fun K => (He.ga K "_law_table")), "_law_table", "_law_table", defArgs (top 23), defBody (top 23), defScope (top 23), [], []⟩,
  ⟨(fun K => (He.ga K "is_ascending")), "is_ascending", "is_ascending", defArgs (top 10), defBody (top 10), defScope (top 10), [], []⟩,
  ⟨(fun K => (He.ga K "is_pair")), "is_pair", "is_pair", defArgs (top 11), defBody (top 11), defScope (top 11), [], []⟩,
  ⟨(fun K => (He.ga K "first_square")), "first_square", "first_square", defArgs (top 12), defBody (top 12), defScope (top 12), [], []⟩,
  ⟨(fun K => (He.ma K (He.ga K "Table") "__init__")), "__init__", "Table.__init__", defArgs (mtop 13 1), defBody (mtop 13 1), defScope (mtop 13 1), [], []⟩,
  ⟨(fun K => (He.ga K "_law_like")), "_law_like", "_law_like", defArgs (top 19), defBody (top 19), defScope (top 19), [], []⟩,
  ⟨(fun K => (pg K (He.ga K "Table") "labels")), "labels", "Table.labels", defArgs (mtop 13 5), defBody (mtop 13 5), defScope (mtop 13 5), [], []⟩,
  ⟨(fun K => (He.ma K (He.ga K "Table") "pairs")), "pairs", "Table.pairs", defArgs (mtop 13 6), defBody (mtop 13 6), defScope (mtop 13 6), [], []⟩,
  ⟨(fun K => (He.ma K (He.ga K "Table") "__len__")), "__len__", "Table.__len__", defArgs (mtop 13 16), defBody (mtop 13 16), defScope (mtop 13 16), [], []⟩,
  ⟨(fun K => (He.ma K (He.ga K "Table") "__repr__")), "__repr__", "Table.__repr__", defArgs (mtop 13 17), defBody (mtop 13 17), defScope (mtop 13 17), [], []⟩,
  ⟨(fun K => (He.ma K (He.ga K "Table") "check_label")), "check_label", "Table.check_label", defArgs (mtop 13 7), defBody (mtop 13 7), defScope (mtop 13 7), [], []⟩,
  ⟨(fun K => (He.ma K (He.ga K "Table") "joins")), "joins", "Table.joins", defArgs (mtop 13 8), defBody (mtop 13 8), defScope (mtop 13 8), [], []⟩,
  ⟨(fun K => (He.ma K (He.ga K "Table") "__contains__")), "__contains__", "Table.__contains__", defArgs (mtop 13 14), defBody (mtop 13 14), defScope (mtop 13 14), [], []⟩,
  ⟨(fun K => (He.ma K (He.ga K "Table") "__eq__")), "__eq__", "Table.__eq__", defArgs (mtop 13 15), defBody (mtop 13 15), defScope (mtop 13 15), [], []⟩,
  ⟨(fun K => (He.ga K "law")), "law", "law", defArgs (top 24), defBody (top 24), defScope (top 24), [], []⟩]
section
variable {P : Program} {w : World} {K : PySem.W.Frag} {mg : Str → Option Value} {base : Heap}
abbrev N__law_open : List Str := ["_law_script", "_law_cells", "_law_salt", "_law_cell"]
abbrev P__law_open : List Str := ["_law_script"]
theorem sc__law_open : FnScope N__law_open P__law_open (defScope (top 15)) := ⟨rfl, rfl, rfl, by decide +kernel, rfl, by decide +kernel, by decide +kernel⟩
theorem ok__law_open (fc : Fc fa xf fn K mg) : ∃ fd, FOk P w K mg base 1 (He.ga K "_law_open") fd P__law_open ev__law_open ∧ Binds K fd P__law_open [] ∧ FunD K "_law_open" "_law_open" (defArgs (top 15)) (defBody (top 15)) (defScope (top 15)) [] [] (He.ga K "_law_open") fd := by
  obtain ⟨fd, F⟩ := (fc.def_ 0 _ rfl : ∃ fd, FunD K "_law_open" "_law_open" (defArgs (top 15)) (defBody (top 15)) (defScope (top 15)) [] [] (He.ga K "_law_open") fd)
  skip
  refine ⟨fd, fok F sc__law_open (fun X W G hP hw hK hmg hb hN hc hfn hsc hr hpo tk hst hfr hpin => ?_), F.bindsN fun _ _ _ _ _ _ us hl => match us, hl with | [_], _ => rfl, F⟩
  · skip
    subst hP hw hK hmg hb
    have hNd : X.N.Nodup := by rw [hN]; decide +kernel
    exact (ss_cons (ss_fzAfter 1 (ss_ownLc (own := [("_law_cell", 3)]) (t := (.nm 3)) (i := 1) (.inl hpin) hc hNd (nmAt (X := X) hN rfl) (lc_sc hsc rfl) (swl hsc rfl rfl rfl rfl) (si_val (se_slice (se_var (i := 0) (nmAt (X := X) hN rfl) (vis_sc hsc rfl)) so_none (so_some se_int))) (blkAt hN hsc rfl) (by decide) (fun s0 H0 C0 cl0 fp0 => (sg_name hNd (nmAt (X := X) hN rfl) (loc_blk rfl) (fnl_blk rfl))) (fun s0 H0 C0 cl0 fp0 => sts_nil) (fun s0 H0 C0 cl0 fp0 => (se_callTy L2.call_int1 snd_int (gl_blk rfl) (fc.fx.free 0) rfl (ses_cons (se_var (i := 3) (nmAt (X := X) hN rfl) (vis_blk rfl)) ses_nil))))) (ss_cons (ss_set (i := 2) (hf := .inl (congrFun hfn _)) hNd (nmAt (X := X) hN rfl) (loc_sc hsc rfl) (se_add se_int (se_mul se_int (se_callB L2.call_len snd_len (gl_sc hsc rfl) (fc.fx.free 1) rfl (ses_cons (se_var (i := 1) (nmAt (X := X) hN rfl) (vis_sc hsc rfl)) ses_nil))))) (ss_cons (ss_for (t := (.nm 3)) hpo hc (si_val (se_var (i := 1) (nmAt (X := X) hN rfl) (vis_sc hsc rfl))) (sg_name hNd (nmAt (X := X) hN rfl) (loc_sc hsc rfl) (.inl (congrFun hfn _))) (ss_one (ss_set (i := 2) (hf := .inl (congrFun hfn _)) hNd (nmAt (X := X) hN rfl) (loc_sc hsc rfl) (se_mod (se_callTy L2.call_int1 snd_int (gl_sc hsc rfl) (fc.fx.free 0) rfl (ses_cons (se_add (se_mul (se_var (i := 2) (nmAt (X := X) hN rfl) (vis_sc hsc rfl)) se_int) (se_var (i := 3) (nmAt (X := X) hN rfl) (vis_sc hsc rfl))) ses_nil)) se_int)))) (ss_one (ss_ret (se_bx (sc_lst (ses_cons (se_var (i := 1) (nmAt (X := X) hN rfl) (vis_sc hsc rfl)) (ses_cons se_int (ses_cons se_int (ses_cons (se_var (i := 2) (nmAt (X := X) hN rfl) (vis_sc hsc rfl)) ses_nil)))))))))))
abbrev N__law_pull : List Str := ["_law_box", "_law_many", "_law_drawn", "_law_cell", "_law_one", "_law_two"]
abbrev P__law_pull : List Str := ["_law_box", "_law_many"]
theorem sc__law_pull : FnScope N__law_pull P__law_pull (defScope (top 16)) := ⟨rfl, rfl, rfl, by decide +kernel, rfl, by decide +kernel, by decide +kernel⟩
theorem ok__law_pull (fc : Fc fa xf fn K mg) : ∃ fd, FOk P w K mg base 1 (He.ga K "_law_pull") fd P__law_pull ev__law_pull ∧ Binds K fd P__law_pull [] ∧ FunD K "_law_pull" "_law_pull" (defArgs (top 16)) (defBody (top 16)) (defScope (top 16)) [] [] (He.ga K "_law_pull") fd := by
  obtain ⟨fd, F⟩ := (fc.def_ 1 _ rfl : ∃ fd, FunD K "_law_pull" "_law_pull" (defArgs (top 16)) (defBody (top 16)) (defScope (top 16)) [] [] (He.ga K "_law_pull") fd)
  skip
  refine ⟨fd, fok F sc__law_pull (fun X W G hP hw hK hmg hb hN hc hfn hsc hr hpo tk hst hfr hpin => ?_), F.bindsN fun _ _ _ _ _ _ us hl => match us, hl with | [_, _], _ => rfl, F⟩
  · skip
    subst hP hw hK hmg hb
    have hNd : X.N.Nodup := by rw [hN]; decide +kernel
    exact (ss_cons (ss_if (st_lt (se_ixx hr (se_var (i := 0) (nmAt (X := X) hN rfl) (vis_sc hsc rfl)) se_int) se_int) (ss_cons (ss_put hr (se_add (se_ixx hr (se_var (i := 0) (nmAt (X := X) hN rfl) (vis_sc hsc rfl)) se_int) se_int) (se_var (i := 0) (nmAt (X := X) hN rfl) (vis_sc hsc rfl)) se_int) (ss_cons (ss_set (i := 3) (hf := .inl (congrFun hfn _)) hNd (nmAt (X := X) hN rfl) (loc_sc hsc rfl) (se_add (se_ixx hr (se_var (i := 0) (nmAt (X := X) hN rfl) (vis_sc hsc rfl)) se_int) (se_mul (se_ixx hr (se_var (i := 0) (nmAt (X := X) hN rfl) (vis_sc hsc rfl)) se_int) se_int))) (ss_cons (ss_if (st_le (se_ixx hr (se_var (i := 0) (nmAt (X := X) hN rfl) (vis_sc hsc rfl)) se_int) (se_callB L2.call_len snd_len (gl_sc hsc rfl) (fc.fx.free 1) rfl (ses_cons (se_ixx hr (se_var (i := 0) (nmAt (X := X) hN rfl) (vis_sc hsc rfl)) se_int) ses_nil))) (ss_one (ss_set (i := 3) (hf := .inl (congrFun hfn _)) hNd (nmAt (X := X) hN rfl) (loc_sc hsc rfl) (se_ixx hr (se_ixx hr (se_var (i := 0) (nmAt (X := X) hN rfl) (vis_sc hsc rfl)) se_int) (se_sub (se_ixx hr (se_var (i := 0) (nmAt (X := X) hN rfl) (vis_sc hsc rfl)) se_int) se_int)))) ss_nil) (ss_cons (ss_if (st_w (sw_or (st_gt (se_ixx hr (se_var (i := 0) (nmAt (X := X) hN rfl) (vis_sc hsc rfl)) se_int) (se_callB L2.call_len snd_len (gl_sc hsc rfl) (fc.fx.free 1) rfl (ses_cons (se_ixx hr (se_var (i := 0) (nmAt (X := X) hN rfl) (vis_sc hsc rfl)) se_int) ses_nil))) (sw_or1 (st_lt (se_var (i := 3) (nmAt (X := X) hN rfl) (vis_sc hsc rfl)) (se_pow se_int se_int))))) (ss_cons (ss_set (i := 4) (hf := .inl (congrFun hfn _)) hNd (nmAt (X := X) hN rfl) (loc_sc hsc rfl) (se_mod (se_callTy L2.call_int1 snd_int (gl_sc hsc rfl) (fc.fx.free 0) rfl (ses_cons (se_add (se_add (se_mul (se_var (i := 3) (nmAt (X := X) hN rfl) (vis_sc hsc rfl)) se_int) (se_mul (se_ixx hr (se_var (i := 0) (nmAt (X := X) hN rfl) (vis_sc hsc rfl)) se_int) se_int)) (se_ixx hr (se_var (i := 0) (nmAt (X := X) hN rfl) (vis_sc hsc rfl)) se_int)) ses_nil)) se_int)) (ss_cons (ss_set (i := 5) (hf := .inl (congrFun hfn _)) hNd (nmAt (X := X) hN rfl) (loc_sc hsc rfl) (se_mod (se_callTy L2.call_int1 snd_int (gl_sc hsc rfl) (fc.fx.free 0) rfl (ses_cons (se_add (se_mul (se_var (i := 4) (nmAt (X := X) hN rfl) (vis_sc hsc rfl)) (se_var (i := 4) (nmAt (X := X) hN rfl) (vis_sc hsc rfl))) (se_mul (se_ixx hr (se_var (i := 0) (nmAt (X := X) hN rfl) (vis_sc hsc rfl)) se_int) se_int)) ses_nil)) se_int)) (ss_one (ss_ret (se_mod (se_fdiv (se_mod (se_callTy L2.call_int1 snd_int (gl_sc hsc rfl) (fc.fx.free 0) rfl (ses_cons (se_add (se_mul (se_var (i := 5) (nmAt (X := X) hN rfl) (vis_sc hsc rfl)) se_int) (se_var (i := 4) (nmAt (X := X) hN rfl) (vis_sc hsc rfl))) ses_nil)) se_int) se_int) (se_var (i := 1) (nmAt (X := X) hN rfl) (vis_sc hsc rfl))))))) ss_nil) (ss_one (ss_put hr (se_var (i := 3) (nmAt (X := X) hN rfl) (vis_sc hsc rfl)) (se_var (i := 0) (nmAt (X := X) hN rfl) (vis_sc hsc rfl)) se_int)))))) ss_nil) (ss_cons (ss_set (i := 2) (hf := .inl (congrFun hfn _)) hNd (nmAt (X := X) hN rfl) (loc_sc hsc rfl) (se_mod (se_callTy L2.call_int1 snd_int (gl_sc hsc rfl) (fc.fx.free 0) rfl (ses_cons (se_ixx hr (se_var (i := 0) (nmAt (X := X) hN rfl) (vis_sc hsc rfl)) se_int) ses_nil)) (se_var (i := 1) (nmAt (X := X) hN rfl) (vis_sc hsc rfl)))) (ss_cons (ss_put hr (se_fdiv (se_callTy L2.call_int1 snd_int (gl_sc hsc rfl) (fc.fx.free 0) rfl (ses_cons (se_ixx hr (se_var (i := 0) (nmAt (X := X) hN rfl) (vis_sc hsc rfl)) se_int) ses_nil)) (se_var (i := 1) (nmAt (X := X) hN rfl) (vis_sc hsc rfl))) (se_var (i := 0) (nmAt (X := X) hN rfl) (vis_sc hsc rfl)) se_int) (ss_one (ss_ret (se_var (i := 2) (nmAt (X := X) hN rfl) (vis_sc hsc rfl)))))))
abbrev N__law_pick : List Str := ["_law_box", "_law_row"]
abbrev P__law_pick : List Str := ["_law_box", "_law_row"]
theorem sc__law_pick : FnScope N__law_pick P__law_pick (defScope (top 17)) := ⟨rfl, rfl, rfl, by decide +kernel, rfl, by decide +kernel, by decide +kernel⟩
theorem ok__law_pick (fc : Fc fa xf fn K mg) : ∃ fd, FOk P w K mg base 2 (He.ga K "_law_pick") fd P__law_pick ev__law_pick ∧ Binds K fd P__law_pick [] ∧ FunD K "_law_pick" "_law_pick" (defArgs (top 17)) (defBody (top 17)) (defScope (top 17)) [] [] (He.ga K "_law_pick") fd := by
  obtain ⟨fd, F⟩ := (fc.def_ 2 _ rfl : ∃ fd, FunD K "_law_pick" "_law_pick" (defArgs (top 17)) (defBody (top 17)) (defScope (top 17)) [] [] (He.ga K "_law_pick") fd)
  obtain ⟨fd__law_pull, F__law_pull, b__law_pull, D__law_pull⟩ := ok__law_pull (P := P) (w := w) (base := base) fc
  have k__law_pull := D__law_pull.kp
  refine ⟨fd, fok F sc__law_pick (fun X W G hP hw hK hmg hb hN hc hfn hsc hr hpo tk hst hfr hpin => ?_), F.bindsN fun _ _ _ _ _ _ us hl => match us, hl with | [_, _], _ => rfl, F⟩
  · skip
    subst hP hw hK hmg hb
    have hNd : X.N.Nodup := by rw [hN]; decide +kernel
    exact (ss_one (ss_ret (se_ixx hr (se_var (i := 1) (nmAt (X := X) hN rfl) (vis_sc hsc rfl)) (se_call (ps := P__law_pull) F__law_pull tk hr (gl_sc hsc rfl) (fc.fx.glo 3) k__law_pull b__law_pull (ses_cons (se_var (i := 0) (nmAt (X := X) hN rfl) (vis_sc hsc rfl)) (ses_cons (se_callB L2.call_len snd_len (gl_sc hsc rfl) (fc.fx.free 1) rfl (ses_cons (se_var (i := 1) (nmAt (X := X) hN rfl) (vis_sc hsc rfl)) ses_nil)) ses_nil))))))
abbrev N__law_letters : List Str := ["_law_box", "_law_many"]
abbrev P__law_letters : List Str := ["_law_box", "_law_many"]
theorem sc__law_letters : FnScope N__law_letters P__law_letters (defScope (top 22)) := ⟨rfl, rfl, rfl, by decide +kernel, rfl, by decide +kernel, by decide +kernel⟩
theorem ok__law_letters (fc : Fc fa xf fn K mg) : ∃ fd, FOk P w K mg base 3 (He.ga K "_law_letters") fd P__law_letters ev__law_letters ∧ Binds K fd P__law_letters [] ∧ FunD K "_law_letters" "_law_letters" (defArgs (top 22)) (defBody (top 22)) (defScope (top 22)) [] [] (He.ga K "_law_letters") fd := by
  obtain ⟨fd, F⟩ := (fc.def_ 3 _ rfl : ∃ fd, FunD K "_law_letters" "_law_letters" (defArgs (top 22)) (defBody (top 22)) (defScope (top 22)) [] [] (He.ga K "_law_letters") fd)
  obtain ⟨fd__law_pick, F__law_pick, b__law_pick, D__law_pick⟩ := ok__law_pick (P := P) (w := w) (base := base) fc
  have k__law_pick := D__law_pick.kp
  refine ⟨fd, fok F sc__law_letters (fun X W G hP hw hK hmg hb hN hc hfn hsc hr hpo tk hst hfr hpin => ?_), F.bindsN fun _ _ _ _ _ _ us hl => match us, hl with | [_, _], _ => rfl, F⟩
  · skip
    subst hP hw hK hmg hb
    have hNd : X.N.Nodup := by rw [hN]; decide +kernel
    exact (ss_one (ss_ret (se_slice (se_call (ps := P__law_pick) F__law_pick tk hr (gl_sc hsc rfl) (fc.fx.glo 4) k__law_pick b__law_pick (ses_cons (se_var (i := 0) (nmAt (X := X) hN rfl) (vis_sc hsc rfl)) (ses_cons (se_lst (ses_cons (se_str (l := [Char.ofNat 97, Char.ofNat 98, Char.ofNat 99, Char.ofNat 100, Char.ofNat 101, Char.ofNat 102, Char.ofNat 103])) (ses_cons (se_str (l := [Char.ofNat 97, Char.ofNat 100, Char.ofNat 103, Char.ofNat 107, Char.ofNat 110, Char.ofNat 113, Char.ofNat 122])) (ses_cons (se_str (l := [Char.ofNat 99, Char.ofNat 100, Char.ofNat 101, Char.ofNat 118, Char.ofNat 119, Char.ofNat 120, Char.ofNat 121])) ses_nil)))) ses_nil))) so_none (so_some (se_var (i := 1) (nmAt (X := X) hN rfl) (vis_sc hsc rfl))))))
abbrev N__law_mixed : List Str := ["_law_box", "_law_row", "_law_left", "_law_found"]
abbrev P__law_mixed : List Str := ["_law_box", "_law_row"]
theorem sc__law_mixed : FnScope N__law_mixed P__law_mixed (defScope (top 18)) := ⟨rfl, rfl, rfl, by decide +kernel, rfl, by decide +kernel, by decide +kernel⟩
theorem ok__law_mixed (fc : Fc fa xf fn K mg) : ∃ fd, FOk P w K mg base 2 (He.ga K "_law_mixed") fd P__law_mixed ev__law_mixed ∧ Binds K fd P__law_mixed [] ∧ FunD K "_law_mixed" "_law_mixed" (defArgs (top 18)) (defBody (top 18)) (defScope (top 18)) [] [] (He.ga K "_law_mixed") fd := by
  obtain ⟨fd, F⟩ := (fc.def_ 4 _ rfl : ∃ fd, FunD K "_law_mixed" "_law_mixed" (defArgs (top 18)) (defBody (top 18)) (defScope (top 18)) [] [] (He.ga K "_law_mixed") fd)
  obtain ⟨fd__law_pull, F__law_pull, b__law_pull, D__law_pull⟩ := ok__law_pull (P := P) (w := w) (base := base) fc
  have k__law_pull := D__law_pull.kp
  refine ⟨fd, fok F sc__law_mixed (fun X W G hP hw hK hmg hb hN hc hfn hsc hr hpo tk hst hfr hpin => ?_), F.bindsN fun _ _ _ _ _ _ us hl => match us, hl with | [_, _], _ => rfl, F⟩
  · skip
    subst hP hw hK hmg hb
    have hNd : X.N.Nodup := by rw [hN]; decide +kernel
    exact (ss_cons (ss_par2 (i := 2) (j := 3) (.inl hpin) hc hNd (nmAt (X := X) hN rfl) (nmAt (X := X) hN rfl) (by decide) (lc_sc hsc rfl) (lc_sc hsc rfl) (sm_cons (mx := .v (eBx (cCall glList (eCons (eV 1) eNil)))) (se_bx (sc_list hc (gl_sc hsc rfl) (fc.fx.free 6) (ses_cons (se_var (i := 1) (nmAt (X := X) hN rfl) (vis_sc hsc rfl)) ses_nil))) (sm_cons (mx := .o (cLst eNil)) (sc_lst ses_nil) sm_nil)) (swE (f := fun env => swappedStores _ _ env) hsc rfl)) (ss_cons (ss_while hpo (st_ne hr (se_var (i := 2) (nmAt (X := X) hN rfl) (vis_sc hsc rfl)) (se_lst ses_nil)) (ss_one (ss_bm so_append PySem.F.plainAttrs_list PySem.F.slot_list_append PySem.F.type_list_append L2.mt_append (se_var (i := 3) (nmAt (X := X) hN rfl) (vis_sc hsc rfl)) (ses_cons (se_bm so_popAt PySem.F.plainAttrs_list PySem.F.slot_list_pop PySem.F.type_list_pop L2.mt_popAt (se_var (i := 2) (nmAt (X := X) hN rfl) (vis_sc hsc rfl)) (ses_cons (se_call (ps := P__law_pull) F__law_pull tk hr (gl_sc hsc rfl) (fc.fx.glo 3) k__law_pull b__law_pull (ses_cons (se_var (i := 0) (nmAt (X := X) hN rfl) (vis_sc hsc rfl)) (ses_cons (se_callB L2.call_len snd_len (gl_sc hsc rfl) (fc.fx.free 1) rfl (ses_cons (se_var (i := 2) (nmAt (X := X) hN rfl) (vis_sc hsc rfl)) ses_nil)) ses_nil))) ses_nil)) ses_nil)))) (ss_one (ss_ret (se_var (i := 3) (nmAt (X := X) hN rfl) (vis_sc hsc rfl))))))
abbrev N__law_joins : List Str := ["_law_pairs_z", "_law_one", "_law_other"]
abbrev P__law_joins : List Str := ["_law_pairs_z", "_law_one", "_law_other"]
theorem sc__law_joins : FnScope N__law_joins P__law_joins (defScope (top 21)) := ⟨rfl, rfl, rfl, by decide +kernel, rfl, by decide +kernel, by decide +kernel⟩
theorem ok__law_joins (fc : Fc fa xf fn K mg) : ∃ fd, FOk P w K mg base 1 (He.ga K "_law_joins") fd P__law_joins ev__law_joins ∧ Binds K fd P__law_joins [] ∧ FunD K "_law_joins" "_law_joins" (defArgs (top 21)) (defBody (top 21)) (defScope (top 21)) [] [] (He.ga K "_law_joins") fd := by
  obtain ⟨fd, F⟩ := (fc.def_ 5 _ rfl : ∃ fd, FunD K "_law_joins" "_law_joins" (defArgs (top 21)) (defBody (top 21)) (defScope (top 21)) [] [] (He.ga K "_law_joins") fd)
  skip
  refine ⟨fd, fok F sc__law_joins (fun X W G hP hw hK hmg hb hN hc hfn hsc hr hpo tk hst hfr hpin => ?_), F.bindsN fun _ _ _ _ _ _ us hl => match us, hl with | [_, _, _], _ => rfl, F⟩
  · skip
    subst hP hw hK hmg hb
    have hNd : X.N.Nodup := by rw [hN]; decide +kernel
    exact (ss_one (ss_ret (se_inx hr (se_add (se_callB (CallR.or (L2.call_min2 hc) (call_min2S hc)) snd_min2 (gl_sc hsc rfl) (fc.fx.free 9) rfl (ses_cons (se_var (i := 1) (nmAt (X := X) hN rfl) (vis_sc hsc rfl)) (ses_cons (se_var (i := 2) (nmAt (X := X) hN rfl) (vis_sc hsc rfl)) ses_nil))) (se_callB (CallR.or (L2.call_max2 hc) (call_max2S hc)) snd_max2 (gl_sc hsc rfl) (fc.fx.free 10) rfl (ses_cons (se_var (i := 1) (nmAt (X := X) hN rfl) (vis_sc hsc rfl)) (ses_cons (se_var (i := 2) (nmAt (X := X) hN rfl) (vis_sc hsc rfl)) ses_nil)))) (se_var (i := 0) (nmAt (X := X) hN rfl) (vis_sc hsc rfl)))))
abbrev N__law_square : List Str := ["_law_labels_z", "_law_pairs_z", "_law_at", "_law_spot", "_law_near", "_law_one", "_law_other", "_law_sign"]
abbrev P__law_square : List Str := ["_law_labels_z", "_law_pairs_z"]
theorem sc__law_square : FnScope N__law_square P__law_square (defScope (top 20)) := ⟨rfl, rfl, rfl, by decide +kernel, rfl, by decide +kernel, by decide +kernel⟩
theorem ok__law_square (fc : Fc fa xf fn K mg) : ∃ fd, FOk P w K mg base 2 (He.ga K "_law_square") fd P__law_square ev__law_square ∧ Binds K fd P__law_square [] ∧ FunD K "_law_square" "_law_square" (defArgs (top 20)) (defBody (top 20)) (defScope (top 20)) [] [] (He.ga K "_law_square") fd := by
  obtain ⟨fd, F⟩ := (fc.def_ 6 _ rfl : ∃ fd, FunD K "_law_square" "_law_square" (defArgs (top 20)) (defBody (top 20)) (defScope (top 20)) [] [] (He.ga K "_law_square") fd)
  obtain ⟨fd__law_joins, F__law_joins, b__law_joins, D__law_joins⟩ := ok__law_joins (P := P) (w := w) (base := base) fc
  have k__law_joins := D__law_joins.kp
  refine ⟨fd, fok F sc__law_square (fun X W G hP hw hK hmg hb hN hc hfn hsc hr hpo tk hst hfr hpin => ?_), F.bindsN fun _ _ _ _ _ _ us hl => match us, hl with | [_, _], _ => rfl, F⟩
  · skip
    subst hP hw hK hmg hb
    have hNd : X.N.Nodup := by rw [hN]; decide +kernel
    exact (ss_cons (ss_for (t := (.nm 2)) hpo hc (si_range1 (gl_sc hsc rfl) (fc.fx.free 7) (ses_cons (se_callB L2.call_len snd_len (gl_sc hsc rfl) (fc.fx.free 1) rfl (ses_cons (se_var (i := 0) (nmAt (X := X) hN rfl) (vis_sc hsc rfl)) ses_nil)) ses_nil)) (sg_name hNd (nmAt (X := X) hN rfl) (loc_sc hsc rfl) (.inl (congrFun hfn _))) (ss_one (ss_for (t := (.nm 3)) hpo hc (si_range2 (gl_sc hsc rfl) (fc.fx.free 7) (ses_cons (se_add (se_var (i := 2) (nmAt (X := X) hN rfl) (vis_sc hsc rfl)) se_int) (ses_cons (se_callB L2.call_len snd_len (gl_sc hsc rfl) (fc.fx.free 1) rfl (ses_cons (se_var (i := 0) (nmAt (X := X) hN rfl) (vis_sc hsc rfl)) ses_nil)) ses_nil))) (sg_name hNd (nmAt (X := X) hN rfl) (loc_sc hsc rfl) (.inl (congrFun hfn _))) (ss_cons (ss_tupAsg (is := [5, 6]) (.inl hpin) hc (by decide) (sgs_cons (sg_name hNd (nmAt (X := X) hN rfl) (loc_sc hsc rfl) (.inl (congrFun hfn _))) (sgs_cons (sg_name hNd (nmAt (X := X) hN rfl) (loc_sc hsc rfl) (.inl (congrFun hfn _))) sgs_nil)) (sm_cons (mx := .v (eOp2 gIxD (eV 0) (eV 2))) (se_ixx hr (se_var (i := 0) (nmAt (X := X) hN rfl) (vis_sc hsc rfl)) (se_var (i := 2) (nmAt (X := X) hN rfl) (vis_sc hsc rfl))) (sm_cons (mx := .v (eOp2 gIxD (eV 0) (eV 3))) (se_ixx hr (se_var (i := 0) (nmAt (X := X) hN rfl) (vis_sc hsc rfl)) (se_var (i := 3) (nmAt (X := X) hN rfl) (vis_sc hsc rfl))) sm_nil)) (hw := swE (f := fun env => swappedStores _ _ env) hsc rfl)) (ss_cons (ss_fzAfter 4 (ss_ownLc (own := [("_law_sign", 7)]) (t := (.nm 7)) (i := 4) (.inl hpin) hc hNd (nmAt (X := X) hN rfl) (lc_sc hsc rfl) (swl hsc rfl rfl rfl rfl) (si_val (se_var (i := 0) (nmAt (X := X) hN rfl) (vis_sc hsc rfl))) (blkAt hN hsc rfl) (by decide) (fun s0 H0 C0 cl0 fp0 => (sg_name hNd (nmAt (X := X) hN rfl) (loc_blk rfl) (fnl_blk rfl))) (fun s0 H0 C0 cl0 fp0 => (sts_one (st_v (se_call (ps := P__law_joins) F__law_joins takes0 hr (gl_blk rfl) (fc.fx.glo 11) k__law_joins b__law_joins (ses_cons (se_var (i := 1) (nmAt (X := X) hN rfl) (vis_blk rfl)) (ses_cons (se_var (i := 5) (nmAt (X := X) hN rfl) (vis_blk rfl)) (ses_cons (se_var (i := 7) (nmAt (X := X) hN rfl) (vis_blk rfl)) ses_nil))))))) (fun s0 H0 C0 cl0 fp0 => (se_var (i := 7) (nmAt (X := X) hN rfl) (vis_blk rfl))))) (ss_one (ss_if (st_gt (se_callB L2.call_len snd_len (gl_sc hsc rfl) (fc.fx.free 1) rfl (ses_cons (se_fz (sc_lc (own := [("_law_sign", 7)]) (t := (.nm 7)) hc hNd (si_val (se_var (i := 4) (nmAt (X := X) hN rfl) (vis_sc hsc rfl))) (blkAt hN hsc rfl) (by decide) (fun s0 H0 C0 cl0 fp0 => (sg_name hNd (nmAt (X := X) hN rfl) (loc_blk rfl) (fnl_blk rfl))) (fun s0 H0 C0 cl0 fp0 => (sts_one (st_v (se_call (ps := P__law_joins) F__law_joins takes0 hr (gl_blk rfl) (fc.fx.glo 11) k__law_joins b__law_joins (ses_cons (se_var (i := 1) (nmAt (X := X) hN rfl) (vis_blk rfl)) (ses_cons (se_var (i := 6) (nmAt (X := X) hN rfl) (vis_blk rfl)) (ses_cons (se_var (i := 7) (nmAt (X := X) hN rfl) (vis_blk rfl)) ses_nil))))))) (fun s0 H0 C0 cl0 fp0 => (se_var (i := 7) (nmAt (X := X) hN rfl) (vis_blk rfl))))) ses_nil)) se_int) (ss_one (ss_ret (se_tup (ses_cons (se_var (i := 5) (nmAt (X := X) hN rfl) (vis_sc hsc rfl)) (ses_cons (se_var (i := 6) (nmAt (X := X) hN rfl) (vis_sc hsc rfl)) ses_nil))))) ss_nil))))))) (ss_one (ss_ret se_non)))
abbrev N__law_table : List Str := ["_law_box", "_law_top", "_law_many", "_law_at", "_law_labels_z", "_law_pairs_z", "_law_one", "_law_other"]
abbrev P__law_table : List Str := ["_law_box", "_law_top"]
theorem sc__law_table : FnScope N__law_table P__law_table (defScope (top 23)) := ⟨rfl, rfl, rfl, by decide +kernel, rfl, by decide +kernel, by decide +kernel⟩
theorem ok__law_table (fc : Fc fa xf fn K mg) : ∃ fd, FOk P w K mg base 4 (He.ga K "_law_table") fd P__law_table ev__law_table ∧ Binds K fd P__law_table [] ∧ FunD K "_law_table" "_law_table" (defArgs (top 23)) (defBody (top 23)) (defScope (top 23)) [] [] (He.ga K "_law_table") fd := by
  obtain ⟨fd, F⟩ := (fc.def_ 7 _ rfl : ∃ fd, FunD K "_law_table" "_law_table" (defArgs (top 23)) (defBody (top 23)) (defScope (top 23)) [] [] (He.ga K "_law_table") fd)
  obtain ⟨fd__law_pull, F__law_pull, b__law_pull, D__law_pull⟩ := ok__law_pull (P := P) (w := w) (base := base) fc
  have k__law_pull := D__law_pull.kp
  obtain ⟨fd__law_letters, F__law_letters, b__law_letters, D__law_letters⟩ := ok__law_letters (P := P) (w := w) (base := base) fc
  have k__law_letters := D__law_letters.kp
  obtain ⟨fd__law_mixed, F__law_mixed, b__law_mixed, D__law_mixed⟩ := ok__law_mixed (P := P) (w := w) (base := base) fc
  have k__law_mixed := D__law_mixed.kp
  obtain ⟨fd__law_square, F__law_square, b__law_square, D__law_square⟩ := ok__law_square (P := P) (w := w) (base := base) fc
  have k__law_square := D__law_square.kp
  refine ⟨fd, fok F sc__law_table (fun X W G hP hw hK hmg hb hN hc hfn hsc hr hpo tk hst hfr hpin => ?_), F.bindsN fun _ _ _ _ _ _ us hl => match us, hl with | [_, _], _ => rfl, F⟩
  · skip
    subst hP hw hK hmg hb
    have hNd : X.N.Nodup := by rw [hN]; decide +kernel
    exact (ss_cons (ss_set (i := 2) (hf := .inl (congrFun hfn _)) hNd (nmAt (X := X) hN rfl) (loc_sc hsc rfl) (se_add se_int (se_call (ps := P__law_pull) F__law_pull tk (hr.mono (by decide)) (gl_sc hsc rfl) (fc.fx.glo 3) k__law_pull b__law_pull (ses_cons (se_var (i := 0) (nmAt (X := X) hN rfl) (vis_sc hsc rfl)) (ses_cons (se_sub (se_var (i := 1) (nmAt (X := X) hN rfl) (vis_sc hsc rfl)) se_int) ses_nil))))) (ss_cons (ss_par2 (i := 4) (j := 5) (.inl hpin) hc hNd (nmAt (X := X) hN rfl) (nmAt (X := X) hN rfl) (by decide) (lc_sc hsc rfl) (lc_sc hsc rfl) (sm_cons (mx := .v (eCallN 2 ev__law_letters (eCons (eV 0) (eCons (eV 2) eNil)))) (se_call (ps := P__law_letters) F__law_letters tk hr (gl_sc hsc rfl) (fc.fx.glo 5) k__law_letters b__law_letters (ses_cons (se_var (i := 0) (nmAt (X := X) hN rfl) (vis_sc hsc rfl)) (ses_cons (se_var (i := 2) (nmAt (X := X) hN rfl) (vis_sc hsc rfl)) ses_nil))) (sm_cons (mx := .o (cLst eNil)) (sc_lst ses_nil) sm_nil)) (swE (f := fun env => swappedStores _ _ env) hsc rfl)) (ss_cons (ss_for (t := (.nm 3)) hpo hc (si_val (se_call (ps := P__law_mixed) F__law_mixed tk (hr.mono (by decide)) (gl_sc hsc rfl) (fc.fx.glo 8) k__law_mixed b__law_mixed (ses_cons (se_var (i := 0) (nmAt (X := X) hN rfl) (vis_sc hsc rfl)) (ses_cons (se_fz (sc_listRg hc (gl_sc hsc rfl) (fc.fx.free 6) (gl_sc hsc rfl) (fc.fx.free 7) (se_mul (se_var (i := 2) (nmAt (X := X) hN rfl) (vis_sc hsc rfl)) (se_var (i := 2) (nmAt (X := X) hN rfl) (vis_sc hsc rfl))))) ses_nil)))) (sg_name hNd (nmAt (X := X) hN rfl) (loc_sc hsc rfl) (.inl (congrFun hfn _))) (ss_cons (ss_par2 (i := 6) (j := 7) (.inl hpin) hc hNd (nmAt (X := X) hN rfl) (nmAt (X := X) hN rfl) (by decide) (lc_sc hsc rfl) (lc_sc hsc rfl) (sm_cons (mx := .v (eOp2 gIxD (eV 4) (eOp2 gFdiv (eV 3) (eV 2)))) (se_ixx hr (se_var (i := 4) (nmAt (X := X) hN rfl) (vis_sc hsc rfl)) (se_fdiv (se_var (i := 3) (nmAt (X := X) hN rfl) (vis_sc hsc rfl)) (se_var (i := 2) (nmAt (X := X) hN rfl) (vis_sc hsc rfl)))) (sm_cons (mx := .v (eOp2 gIxD (eV 4) (eOp2 gMod (eL gInt (eCons (eV 3) eNil)) (eV 2)))) (se_ixx hr (se_var (i := 4) (nmAt (X := X) hN rfl) (vis_sc hsc rfl)) (se_mod (se_callTy L2.call_int1 snd_int (gl_sc hsc rfl) (fc.fx.free 0) rfl (ses_cons (se_var (i := 3) (nmAt (X := X) hN rfl) (vis_sc hsc rfl)) ses_nil)) (se_var (i := 2) (nmAt (X := X) hN rfl) (vis_sc hsc rfl)))) sm_nil)) (swE (f := fun env => swappedStores _ _ env) hsc rfl)) (ss_one (ss_if (st_w (sw_and (st_lt (se_var (i := 6) (nmAt (X := X) hN rfl) (vis_sc hsc rfl)) (se_var (i := 7) (nmAt (X := X) hN rfl) (vis_sc hsc rfl))) (sw_and1 (st_gt (se_call (ps := P__law_pull) F__law_pull tk (hr.mono (by decide)) (gl_sc hsc rfl) (fc.fx.glo 3) k__law_pull b__law_pull (ses_cons (se_var (i := 0) (nmAt (X := X) hN rfl) (vis_sc hsc rfl)) (ses_cons se_int ses_nil))) se_int)))) (ss_one (ss_if (st_isN (se_call (ps := P__law_square) F__law_square tk (hr.mono (by decide)) (gl_sc hsc rfl) (fc.fx.glo 12) k__law_square b__law_square (ses_cons (se_var (i := 4) (nmAt (X := X) hN rfl) (vis_sc hsc rfl)) (ses_cons (se_add (se_var (i := 5) (nmAt (X := X) hN rfl) (vis_sc hsc rfl)) (se_lst (ses_cons (se_add (se_var (i := 6) (nmAt (X := X) hN rfl) (vis_sc hsc rfl)) (se_var (i := 7) (nmAt (X := X) hN rfl) (vis_sc hsc rfl))) ses_nil))) ses_nil)))) (ss_one (ss_bm so_append PySem.F.plainAttrs_list PySem.F.slot_list_append PySem.F.type_list_append L2.mt_append (se_var (i := 5) (nmAt (X := X) hN rfl) (vis_sc hsc rfl)) (ses_cons (se_add (se_var (i := 6) (nmAt (X := X) hN rfl) (vis_sc hsc rfl)) (se_var (i := 7) (nmAt (X := X) hN rfl) (vis_sc hsc rfl))) ses_nil))) ss_nil)) ss_nil)))) (ss_one (ss_ret (se_tup (ses_cons (se_var (i := 4) (nmAt (X := X) hN rfl) (vis_sc hsc rfl)) (ses_cons (se_fz (sc_sorted (gl_sc hsc rfl) (fc.fx.free 13) (ses_cons (se_var (i := 5) (nmAt (X := X) hN rfl) (vis_sc hsc rfl)) ses_nil))) ses_nil))))))))
abbrev N_is_ascending : List Str := ["text", "sign", "one", "other"]
abbrev P_is_ascending : List Str := ["text"]
theorem sc_is_ascending : FnScope N_is_ascending P_is_ascending (defScope (top 10)) := ⟨rfl, rfl, rfl, by decide +kernel, rfl, by decide +kernel, by decide +kernel⟩
theorem ok_is_ascending (fc : Fc fa xf fn K mg) : ∃ fd, FOk P w K mg base 1 (He.ga K "is_ascending") fd P_is_ascending ev_is_ascending ∧ Binds K fd P_is_ascending [] ∧ FunD K "is_ascending" "is_ascending" (defArgs (top 10)) (defBody (top 10)) (defScope (top 10)) [] [] (He.ga K "is_ascending") fd := by
  obtain ⟨fd, F⟩ := (fc.def_ 8 _ rfl : ∃ fd, FunD K "is_ascending" "is_ascending" (defArgs (top 10)) (defBody (top 10)) (defScope (top 10)) [] [] (He.ga K "is_ascending") fd)
  skip
  refine ⟨fd, fok F sc_is_ascending (fun X W G hP hw hK hmg hb hN hc hfn hsc hr hpo tk hst hfr hpin => ?_), F.bindsN fun _ _ _ _ _ _ us hl => match us, hl with | [_], _ => rfl, F⟩
  · skip
    subst hP hw hK hmg hb
    have hNd : X.N.Nodup := by rw [hN]; decide +kernel
    exact (ss_one (ss_ret (se_and (se_callB (L2.cr_all hc) (snd_all false) (gl_sc hsc rfl) (fc.fx.free 18) rfl (ses_cons (se_fz (sc_lc (own := [("sign", 1)]) (t := (.nm 1)) hc hNd (si_val (se_var (i := 0) (nmAt (X := X) hN rfl) (vis_sc hsc rfl))) (blkAt hN hsc rfl) (by decide) (fun s0 H0 C0 cl0 fp0 => (sg_name hNd (nmAt (X := X) hN rfl) (loc_blk rfl) (fnl_blk rfl))) (fun s0 H0 C0 cl0 fp0 => sts_nil) (fun s0 H0 C0 cl0 fp0 => (se_inx hr (se_var (i := 1) (nmAt (X := X) hN rfl) (vis_blk rfl)) (se_gstr (l := [Char.ofNat 97, Char.ofNat 98, Char.ofNat 99, Char.ofNat 100, Char.ofNat 101, Char.ofNat 102, Char.ofNat 103, Char.ofNat 104, Char.ofNat 105, Char.ofNat 106, Char.ofNat 107, Char.ofNat 108, Char.ofNat 109, Char.ofNat 110, Char.ofNat 111, Char.ofNat 112, Char.ofNat 113, Char.ofNat 114, Char.ofNat 115, Char.ofNat 116, Char.ofNat 117, Char.ofNat 118, Char.ofNat 119, Char.ofNat 120, Char.ofNat 121, Char.ofNat 122]) (gl_blk rfl) (fc.fx.str 17)))))) ses_nil)) (se_one (se_callB (L2.cr_all hc) (snd_all false) (gl_sc hsc rfl) (fc.fx.free 18) rfl (ses_cons (se_fz (sc_lc (own := [("one", 2), ("other", 3)]) (t := (.tp [2, 3])) hc hNd (si_zip (gl_sc hsc rfl) (fc.fx.free 19) (ses_cons (se_var (i := 0) (nmAt (X := X) hN rfl) (vis_sc hsc rfl)) (ses_cons (se_slice (se_var (i := 0) (nmAt (X := X) hN rfl) (vis_sc hsc rfl)) (so_some se_int) so_none) ses_nil))) (blkAt hN hsc rfl) (by decide) (fun s0 H0 C0 cl0 fp0 => (sg_tup hc (sgs_cons (sg_name hNd (nmAt (X := X) hN rfl) (loc_blk rfl) (fnl_blk rfl)) (sgs_cons (sg_name hNd (nmAt (X := X) hN rfl) (loc_blk rfl) (fnl_blk rfl)) sgs_nil)))) (fun s0 H0 C0 cl0 fp0 => sts_nil) (fun s0 H0 C0 cl0 fp0 => (se_lt (se_var (i := 2) (nmAt (X := X) hN rfl) (vis_blk rfl)) (se_var (i := 3) (nmAt (X := X) hN rfl) (vis_blk rfl)))))) ses_nil))))))
abbrev N_is_pair : List Str := ["pair", "labels"]
abbrev P_is_pair : List Str := ["pair", "labels"]
theorem sc_is_pair : FnScope N_is_pair P_is_pair (defScope (top 11)) := ⟨rfl, rfl, rfl, by decide +kernel, rfl, by decide +kernel, by decide +kernel⟩
theorem ok_is_pair (fc : Fc fa xf fn K mg) : ∃ fd, FOk P w K mg base 1 (He.ga K "is_pair") fd P_is_pair ev_is_pair ∧ Binds K fd P_is_pair [] ∧ FunD K "is_pair" "is_pair" (defArgs (top 11)) (defBody (top 11)) (defScope (top 11)) [] [] (He.ga K "is_pair") fd := by
  obtain ⟨fd, F⟩ := (fc.def_ 9 _ rfl : ∃ fd, FunD K "is_pair" "is_pair" (defArgs (top 11)) (defBody (top 11)) (defScope (top 11)) [] [] (He.ga K "is_pair") fd)
  skip
  refine ⟨fd, fok F sc_is_pair (fun X W G hP hw hK hmg hb hN hc hfn hsc hr hpo tk hst hfr hpin => ?_), F.bindsN fun _ _ _ _ _ _ us hl => match us, hl with | [_, _], _ => rfl, F⟩
  · skip
    subst hP hw hK hmg hb
    have hNd : X.N.Nodup := by rw [hN]; decide +kernel
    exact (ss_one (ss_ret (se_and (se_eq hr (se_callB L2.call_len snd_len (gl_sc hsc rfl) (fc.fx.free 1) rfl (ses_cons (se_var (i := 0) (nmAt (X := X) hN rfl) (vis_sc hsc rfl)) ses_nil)) se_int) (se_and (se_inx hr (se_ixx hr (se_var (i := 0) (nmAt (X := X) hN rfl) (vis_sc hsc rfl)) se_int) (se_var (i := 1) (nmAt (X := X) hN rfl) (vis_sc hsc rfl))) (se_and (se_inx hr (se_ixx hr (se_var (i := 0) (nmAt (X := X) hN rfl) (vis_sc hsc rfl)) se_int) (se_var (i := 1) (nmAt (X := X) hN rfl) (vis_sc hsc rfl))) (se_one (se_ne hr (se_ixx hr (se_var (i := 0) (nmAt (X := X) hN rfl) (vis_sc hsc rfl)) se_int) (se_ixx hr (se_var (i := 0) (nmAt (X := X) hN rfl) (vis_sc hsc rfl)) se_int))))))))
abbrev N_first_square : List Str := ["labels", "joined", "at", "one", "other", "label"]
abbrev P_first_square : List Str := ["labels", "joined"]
theorem sc_first_square : FnScope N_first_square P_first_square (defScope (top 12)) := ⟨rfl, rfl, rfl, by decide +kernel, rfl, by decide +kernel, by decide +kernel⟩
theorem ok_first_square (fc : Fc fa xf fn K mg) : ∃ fd, FOk P w K mg base 1 (He.ga K "first_square") fd P_first_square ev_first_square ∧ Binds K fd P_first_square [] ∧ FunD K "first_square" "first_square" (defArgs (top 12)) (defBody (top 12)) (defScope (top 12)) [] [] (He.ga K "first_square") fd := by
  obtain ⟨fd, F⟩ := (fc.def_ 10 _ rfl : ∃ fd, FunD K "first_square" "first_square" (defArgs (top 12)) (defBody (top 12)) (defScope (top 12)) [] [] (He.ga K "first_square") fd)
  skip
  refine ⟨fd, fok F sc_first_square (fun X W G hP hw hK hmg hb hN hc hfn hsc hr hpo tk hst hfr hpin => ?_), F.bindsN fun _ _ _ _ _ _ us hl => match us, hl with | [_, _], _ => rfl, F⟩
  · skip
    subst hP hw hK hmg hb
    have hNd : X.N.Nodup := by rw [hN]; decide +kernel
    exact (ss_cons (ss_for (t := (.tp [2, 3])) hpo hc (si_enum (gl_sc hsc rfl) (fc.fx.free 21) (ses_cons (se_var (i := 0) (nmAt (X := X) hN rfl) (vis_sc hsc rfl)) ses_nil)) (sg_tup hc (sgs_cons (sg_name hNd (nmAt (X := X) hN rfl) (loc_sc hsc rfl) (.inl (congrFun hfn _))) (sgs_cons (sg_name hNd (nmAt (X := X) hN rfl) (loc_sc hsc rfl) (.inl (congrFun hfn _))) sgs_nil))) (ss_one (ss_for (t := (.nm 4)) hpo hc (si_val (se_slice (se_var (i := 0) (nmAt (X := X) hN rfl) (vis_sc hsc rfl)) (so_some (se_add (se_var (i := 2) (nmAt (X := X) hN rfl) (vis_sc hsc rfl)) se_int)) so_none)) (sg_name hNd (nmAt (X := X) hN rfl) (loc_sc hsc rfl) (.inl (congrFun hfn _))) (ss_one (ss_if (st_gt (se_callB L2.call_len snd_len (gl_sc hsc rfl) (fc.fx.free 1) rfl (ses_cons (se_fz (sc_lc (own := [("label", 5)]) (t := (.nm 5)) hc hNd (si_val (se_ixx hr (se_var (i := 1) (nmAt (X := X) hN rfl) (vis_sc hsc rfl)) (se_var (i := 3) (nmAt (X := X) hN rfl) (vis_sc hsc rfl)))) (blkAt hN hsc rfl) (by decide) (fun s0 H0 C0 cl0 fp0 => (sg_name hNd (nmAt (X := X) hN rfl) (loc_blk rfl) (fnl_blk rfl))) (fun s0 H0 C0 cl0 fp0 => (sts_one (st_inx hr (se_var (i := 5) (nmAt (X := X) hN rfl) (vis_blk rfl)) (se_ixx hr (se_var (i := 1) (nmAt (X := X) hN rfl) (vis_blk rfl)) (se_var (i := 4) (nmAt (X := X) hN rfl) (vis_blk rfl)))))) (fun s0 H0 C0 cl0 fp0 => (se_var (i := 5) (nmAt (X := X) hN rfl) (vis_blk rfl))))) ses_nil)) se_int) (ss_one (ss_ret (se_tup (ses_cons (se_var (i := 3) (nmAt (X := X) hN rfl) (vis_sc hsc rfl)) (ses_cons (se_var (i := 4) (nmAt (X := X) hN rfl) (vis_sc hsc rfl)) ses_nil))))) ss_nil))))) (ss_one (ss_ret se_non)))
abbrev N_Table___init__ : List Str := ["self", "labels", "pairs", "square", "at", "pair", "label", "other"]
abbrev P_Table___init__ : List Str := ["self", "labels", "pairs"]
theorem sc_Table___init__ : FnScope N_Table___init__ P_Table___init__ (defScope (mtop 13 1)) := ⟨rfl, rfl, rfl, by decide +kernel, rfl, by decide +kernel, by decide +kernel⟩
theorem ok_Table___init__ (fc : Fc fa xf fn K mg) : ∃ fd, FOkI P w K mg base 2 (He.ma K (He.ga K "Table") "__init__") fd P_Table___init__ "Table" ev_Table___init__ ∧ Binds K fd P_Table___init__ [] ∧ FunD K "__init__" "Table.__init__" (defArgs (mtop 13 1)) (defBody (mtop 13 1)) (defScope (mtop 13 1)) [] [] (He.ma K (He.ga K "Table") "__init__") fd := by
  obtain ⟨fd, F⟩ := (fc.def_ 11 _ rfl : ∃ fd, FunD K "__init__" "Table.__init__" (defArgs (mtop 13 1)) (defBody (mtop 13 1)) (defScope (mtop 13 1)) [] [] (He.ma K (He.ga K "Table") "__init__") fd)
  obtain ⟨fd_is_ascending, F_is_ascending, b_is_ascending, D_is_ascending⟩ := ok_is_ascending (P := P) (w := w) (base := base) fc
  have k_is_ascending := D_is_ascending.kp
  obtain ⟨fd_is_pair, F_is_pair, b_is_pair, D_is_pair⟩ := ok_is_pair (P := P) (w := w) (base := base) fc
  have k_is_pair := D_is_pair.kp
  obtain ⟨fd_first_square, F_first_square, b_first_square, D_first_square⟩ := ok_first_square (P := P) (w := w) (base := base) fc
  have k_first_square := D_first_square.kp
  refine ⟨fd, fokI F sc_Table___init__ (fun X W G hP hw hK hmg hb hN hc hfn hsc hr hpo tk hst hfr => ?_), F.bindsN fun _ _ _ _ _ _ us hl => match us, hl with | [_, _, _], _ => rfl, F⟩
  · skip
    subst hP hw hK hmg hb
    have hNd : X.N.Nodup := by rw [hN]; decide +kernel
    exact (ss_cons (ss_if (st_w (sw_or (st_not (st_chain2 .le .le (se_gint (gl_sc hsc rfl) (fc.fx.int 15)) (se_callB L2.call_len snd_len (gl_sc hsc rfl) (fc.fx.free 1) rfl (ses_cons (se_var (i := 1) (nmAt (X := X) hN rfl) (vis_sc hsc rfl)) ses_nil)) (se_cint (se_gcl (c := "Table") (gl_sc hsc rfl) (fc.fx.glo 16)) (fc.cint 0)))) (sw_or1 (st_not (st_v (se_call (ps := P_is_ascending) F_is_ascending tk hr (gl_sc hsc rfl) (fc.fx.glo 20) k_is_ascending b_is_ascending (ses_cons (se_var (i := 1) (nmAt (X := X) hN rfl) (vis_sc hsc rfl)) ses_nil))))))) (ss_one ss_no) ss_nil) (ss_cons (ss_for (t := (.tp [4, 5])) hpo hc (si_enum (gl_sc hsc rfl) (fc.fx.free 21) (ses_cons (se_var (i := 2) (nmAt (X := X) hN rfl) (vis_sc hsc rfl)) ses_nil)) (sg_tup hc (sgs_cons (sg_name hNd (nmAt (X := X) hN rfl) (loc_sc hsc rfl) (.inl (congrFun hfn _))) (sgs_cons (sg_name hNd (nmAt (X := X) hN rfl) (loc_sc hsc rfl) (.inl (congrFun hfn _))) sgs_nil))) (ss_one (ss_if (st_not (st_v (se_call (ps := P_is_pair) F_is_pair tk hr (gl_sc hsc rfl) (fc.fx.glo 22) k_is_pair b_is_pair (ses_cons (se_var (i := 5) (nmAt (X := X) hN rfl) (vis_sc hsc rfl)) (ses_cons (se_var (i := 1) (nmAt (X := X) hN rfl) (vis_sc hsc rfl)) ses_nil))))) (ss_one ss_no) ss_nil))) (ss_cons (ss_store (se_var (i := 1) (nmAt (X := X) hN rfl) (vis_sc hsc rfl)) (se_var (i := 0) (nmAt (X := X) hN rfl) (vis_sc hsc rfl)) (fldF1 (fc.fx.cls 23) (fc.fx.noat 24))) (ss_cons (ss_store (se_fz (sc_dc (own := [("label", 6)]) (t := (.nm 6)) hc hNd (si_val (se_var (i := 1) (nmAt (X := X) hN rfl) (vis_sc hsc rfl))) (blkAt hN hsc rfl) (by decide) (fun s0 H0 C0 cl0 fp0 => (sg_name hNd (nmAt (X := X) hN rfl) (loc_blk rfl) (fnl_blk rfl))) (fun s0 H0 C0 cl0 fp0 => sts_nil) (fun s0 H0 C0 cl0 fp0 => (se_var (i := 6) (nmAt (X := X) hN rfl) (vis_blk rfl))) (fun s0 H0 C0 cl0 fp0 => (se_join (se_str (l := [])) (ses_cons (se_fz (sc_lc (own := [("other", 7)]) (t := (.nm 7)) hc hNd (si_val (se_var (i := 1) (nmAt (X := X) hN rfl) (vis_blk rfl))) (blkAt2 hN rfl) (by decide) (fun s1 H1 C1 cl1 fp1 => (sg_name hNd (nmAt (X := X) hN rfl) (loc_blk rfl) (fnl_blk rfl))) (fun s1 H1 C1 cl1 fp1 => (sts_one (st_w (sw_or (st_inx hr (se_add (se_var (i := 6) (nmAt (X := X) hN rfl) (vis_blk rfl)) (se_var (i := 7) (nmAt (X := X) hN rfl) (vis_blk rfl))) (se_var (i := 2) (nmAt (X := X) hN rfl) (vis_blk rfl))) (sw_or1 (st_inx hr (se_add (se_var (i := 7) (nmAt (X := X) hN rfl) (vis_blk rfl)) (se_var (i := 6) (nmAt (X := X) hN rfl) (vis_blk rfl))) (se_var (i := 2) (nmAt (X := X) hN rfl) (vis_blk rfl)))))))) (fun s1 H1 C1 cl1 fp1 => (se_var (i := 7) (nmAt (X := X) hN rfl) (vis_blk rfl))))) ses_nil))))) (se_var (i := 0) (nmAt (X := X) hN rfl) (vis_sc hsc rfl)) (fldF1 (fc.fx.cls 23) (fc.fx.noat 25))) (ss_cons (ss_set (i := 3) (hf := .inl (congrFun hfn _)) hNd (nmAt (X := X) hN rfl) (loc_sc hsc rfl) (se_call (ps := P_first_square) F_first_square tk hr (gl_sc hsc rfl) (fc.fx.glo 26) k_first_square b_first_square (ses_cons (se_var (i := 1) (nmAt (X := X) hN rfl) (vis_sc hsc rfl)) (ses_cons (se_fld (se_var (i := 0) (nmAt (X := X) hN rfl) (vis_sc hsc rfl)) (fldF1 (fc.fx.cls 23) (fc.fx.noat 25))) ses_nil)))) (ss_one (ss_if (st_notN (se_var (i := 3) (nmAt (X := X) hN rfl) (vis_sc hsc rfl))) (ss_one ss_no) ss_nil)))))))
abbrev N__law_like : List Str := ["_law_found", "_law_due", "_law_at"]
abbrev P__law_like : List Str := ["_law_found", "_law_due"]
theorem sc__law_like : FnScope N__law_like P__law_like (defScope (top 19)) := ⟨rfl, rfl, rfl, by decide +kernel, rfl, by decide +kernel, by decide +kernel⟩
theorem step__law_like (fc : Fc fa xf fn K mg) {fd : FuncData} (F : FunD K "_law_like" "_law_like" (defArgs (top 19)) (defBody (top 19)) (defScope (top 19)) [] [] (He.ga K "_law_like") fd) (b__law_like : Binds K fd P__law_like []) (j : Nat) (ev__law_like : FSem) (hj : 0 ≤ j) (F__law_like : FOk P w K mg base j (He.ga K "_law_like") fd P__law_like ev__law_like) : FOk P w K mg base (j + 1) (He.ga K "_law_like") fd P__law_like (fnE 3 (sv__law_like ev__law_like)) := by
  skip
  have k__law_like := F.kp
  refine fok F sc__law_like (fun X W G hP hw hK hmg hb hN hc hfn hsc hr hpo tk hst hfr hpin => ?_)
  · skip
    subst hP hw hK hmg hb
    have hNd : X.N.Nodup := by rw [hN]; decide +kernel
    exact (ss_cons (ss_if (st_v (se_callB cr_isi (snd_isi (fc.isi 1)) (gl_sc hsc rfl) (fc.fx.free 30) rfl (ses_cons (se_var (i := 1) (nmAt (X := X) hN rfl) (vis_sc hsc rfl)) (ses_cons (se_tup (ses_cons (se_bty (n := "list") (gl_sc hsc rfl) (fc.fx.free 6) rfl) (ses_cons (se_bty (n := "tuple") (gl_sc hsc rfl) (fc.fx.free 29) rfl) ses_nil))) ses_nil)))) (ss_cons (ss_if (st_w (sw_or (st_ne hr (se_callB cr_isi (snd_isi (fc.isi 1)) (gl_sc hsc rfl) (fc.fx.free 30) rfl (ses_cons (se_var (i := 0) (nmAt (X := X) hN rfl) (vis_sc hsc rfl)) (ses_cons (se_bty (n := "list") (gl_sc hsc rfl) (fc.fx.free 6) rfl) ses_nil))) (se_callB cr_isi (snd_isi (fc.isi 1)) (gl_sc hsc rfl) (fc.fx.free 30) rfl (ses_cons (se_var (i := 1) (nmAt (X := X) hN rfl) (vis_sc hsc rfl)) (ses_cons (se_bty (n := "list") (gl_sc hsc rfl) (fc.fx.free 6) rfl) ses_nil)))) (sw_or1 (st_ne hr (se_callB cr_isi (snd_isi (fc.isi 1)) (gl_sc hsc rfl) (fc.fx.free 30) rfl (ses_cons (se_var (i := 0) (nmAt (X := X) hN rfl) (vis_sc hsc rfl)) (ses_cons (se_bty (n := "tuple") (gl_sc hsc rfl) (fc.fx.free 29) rfl) ses_nil))) (se_callB cr_isi (snd_isi (fc.isi 1)) (gl_sc hsc rfl) (fc.fx.free 30) rfl (ses_cons (se_var (i := 1) (nmAt (X := X) hN rfl) (vis_sc hsc rfl)) (ses_cons (se_bty (n := "tuple") (gl_sc hsc rfl) (fc.fx.free 29) rfl) ses_nil))))))) (ss_one (ss_ret se_bl)) ss_nil) (ss_one (ss_ret (se_and (se_eq hr (se_callB L2.call_len snd_len (gl_sc hsc rfl) (fc.fx.free 1) rfl (ses_cons (se_var (i := 0) (nmAt (X := X) hN rfl) (vis_sc hsc rfl)) ses_nil)) (se_callB L2.call_len snd_len (gl_sc hsc rfl) (fc.fx.free 1) rfl (ses_cons (se_var (i := 1) (nmAt (X := X) hN rfl) (vis_sc hsc rfl)) ses_nil))) (se_one (se_callB (L2.cr_all hc) (snd_all false) (gl_sc hsc rfl) (fc.fx.free 18) rfl (ses_cons (se_fz (sc_lc (own := [("_law_at", 2)]) (t := (.nm 2)) hc hNd (si_range1 (gl_sc hsc rfl) (fc.fx.free 7) (ses_cons (se_callB L2.call_len snd_len (gl_sc hsc rfl) (fc.fx.free 1) rfl (ses_cons (se_var (i := 1) (nmAt (X := X) hN rfl) (vis_sc hsc rfl)) ses_nil)) ses_nil)) (blkAt hN hsc rfl) (by decide) (fun s0 H0 C0 cl0 fp0 => (sg_name hNd (nmAt (X := X) hN rfl) (loc_blk rfl) (fnl_blk rfl))) (fun s0 H0 C0 cl0 fp0 => sts_nil) (fun s0 H0 C0 cl0 fp0 => (se_call (ps := P__law_like) F__law_like takes0 hr (gl_blk rfl) (fc.fx.glo 31) k__law_like b__law_like (ses_cons (se_ixx hr (se_var (i := 0) (nmAt (X := X) hN rfl) (vis_blk rfl)) (se_var (i := 2) (nmAt (X := X) hN rfl) (vis_blk rfl))) (ses_cons (se_ixx hr (se_var (i := 1) (nmAt (X := X) hN rfl) (vis_blk rfl)) (se_var (i := 2) (nmAt (X := X) hN rfl) (vis_blk rfl))) ses_nil)))))) ses_nil))))))) ss_nil) (ss_cons (ss_if (st_w (sw_or (st_v (se_callB cr_isi (snd_isi (fc.isi 1)) (gl_sc hsc rfl) (fc.fx.free 30) rfl (ses_cons (se_var (i := 0) (nmAt (X := X) hN rfl) (vis_sc hsc rfl)) (ses_cons (se_tup (ses_cons (se_bty (n := "list") (gl_sc hsc rfl) (fc.fx.free 6) rfl) (ses_cons (se_bty (n := "tuple") (gl_sc hsc rfl) (fc.fx.free 29) rfl) ses_nil))) ses_nil)))) (sw_or1 (st_ne hr (se_callB cr_isi (snd_isi (fc.isi 1)) (gl_sc hsc rfl) (fc.fx.free 30) rfl (ses_cons (se_var (i := 0) (nmAt (X := X) hN rfl) (vis_sc hsc rfl)) (ses_cons (se_bty (n := "bool") (gl_sc hsc rfl) (fc.fx.free 32) rfl) ses_nil))) (se_callB cr_isi (snd_isi (fc.isi 1)) (gl_sc hsc rfl) (fc.fx.free 30) rfl (ses_cons (se_var (i := 1) (nmAt (X := X) hN rfl) (vis_sc hsc rfl)) (ses_cons (se_bty (n := "bool") (gl_sc hsc rfl) (fc.fx.free 32) rfl) ses_nil))))))) (ss_one (ss_ret se_bl)) ss_nil) (ss_one (ss_ret (se_eq hr (se_var (i := 0) (nmAt (X := X) hN rfl) (vis_sc hsc rfl)) (se_var (i := 1) (nmAt (X := X) hN rfl) (vis_sc hsc rfl)))))))
theorem ok__law_like (fc : Fc fa xf fn K mg) : ∃ fd, FOk P w K mg base 8 (He.ga K "_law_like") fd P__law_like ev__law_like ∧ Binds K fd P__law_like [] ∧ FunD K "_law_like" "_law_like" (defArgs (top 19)) (defBody (top 19)) (defScope (top 19)) [] [] (He.ga K "_law_like") fd := by
  obtain ⟨fd, F⟩ := (fc.def_ 12 _ rfl : ∃ fd, FunD K "_law_like" "_law_like" (defArgs (top 19)) (defBody (top 19)) (defScope (top 19)) [] [] (He.ga K "_law_like") fd)
  have b : Binds K fd P__law_like [] := F.bindsN fun _ _ _ _ _ _ us hl => match us, hl with | [_, _], _ => rfl
  exact ⟨fd, fok_rec (k := 0) (st := fun ev => fnE 3 (sv__law_like ev)) (fun j ev hj h => step__law_like fc F b j ev hj h) 8, b, F⟩
abbrev N_Table_labels : List Str := ["self"]
abbrev P_Table_labels : List Str := ["self"]
theorem sc_Table_labels : FnScope N_Table_labels P_Table_labels (defScope (mtop 13 5)) := ⟨rfl, rfl, rfl, by decide +kernel, rfl, by decide +kernel, by decide +kernel⟩
theorem ok_Table_labels (fc : Fc fa xf fn K mg) : ∃ fd, FOk P w K mg base 1 (pg K (He.ga K "Table") "labels") fd P_Table_labels ev_Table_labels ∧ Binds K fd P_Table_labels [] ∧ FunD K "labels" "Table.labels" (defArgs (mtop 13 5)) (defBody (mtop 13 5)) (defScope (mtop 13 5)) [] [] (pg K (He.ga K "Table") "labels") fd := by
  obtain ⟨fd, F⟩ := (fc.def_ 13 _ rfl : ∃ fd, FunD K "labels" "Table.labels" (defArgs (mtop 13 5)) (defBody (mtop 13 5)) (defScope (mtop 13 5)) [] [] (pg K (He.ga K "Table") "labels") fd)
  skip
  refine ⟨fd, fok F sc_Table_labels (fun X W G hP hw hK hmg hb hN hc hfn hsc hr hpo tk hst hfr hpin => ?_), F.bindsN fun _ _ _ _ _ _ us hl => match us, hl with | [_], _ => rfl, F⟩
  · skip
    subst hP hw hK hmg hb
    have hNd : X.N.Nodup := by rw [hN]; decide +kernel
    exact (ss_one (ss_ret (se_fld (se_var (i := 0) (nmAt (X := X) hN rfl) (vis_sc hsc rfl)) (fldF1 (fc.fx.cls 23) (fc.fx.noat 24)))))
abbrev N_Table_pairs : List Str := ["self", "one", "other"]
abbrev P_Table_pairs : List Str := ["self"]
theorem sc_Table_pairs : FnScope N_Table_pairs P_Table_pairs (defScope (mtop 13 6)) := ⟨rfl, rfl, rfl, by decide +kernel, rfl, by decide +kernel, by decide +kernel⟩
theorem ok_Table_pairs (fc : Fc fa xf fn K mg) : ∃ fd, FOkC P w K mg base 1 (He.ma K (He.ga K "Table") "pairs") fd P_Table_pairs ev_Table_pairs ∧ Binds K fd P_Table_pairs [] ∧ FunD K "pairs" "Table.pairs" (defArgs (mtop 13 6)) (defBody (mtop 13 6)) (defScope (mtop 13 6)) [] [] (He.ma K (He.ga K "Table") "pairs") fd := by
  obtain ⟨fd, F⟩ := (fc.def_ 14 _ rfl : ∃ fd, FunD K "pairs" "Table.pairs" (defArgs (mtop 13 6)) (defBody (mtop 13 6)) (defScope (mtop 13 6)) [] [] (He.ma K (He.ga K "Table") "pairs") fd)
  skip
  refine ⟨fd, fokC F sc_Table_pairs (fun X W G hP hw hK hmg hb hN hc hfn hsc hr hpo tk hst hfr hpin => ?_), F.bindsN fun _ _ _ _ _ _ us hl => match us, hl with | [_], _ => rfl, F⟩
  · skip
    subst hP hw hK hmg hb
    have hNd : X.N.Nodup := by rw [hN]; decide +kernel
    exact (ssc_ret (sc_lc2 (own := [("one", 1), ("other", 2)]) (t := (.nm 1)) (t1 := (.nm 2)) (vs1 := [2]) hc hNd (si_val (se_fld (se_var (i := 0) (nmAt (X := X) hN rfl) (vis_sc hsc rfl)) (fldF1 (fc.fx.cls 23) (fc.fx.noat 24)))) (blkAt hN hsc rfl) (by decide) (by decide) (by decide) (fun s0 H0 C0 cl0 fp0 => (sg_name hNd (nmAt (X := X) hN rfl) (loc_blk rfl) (fnl_blk rfl))) (fun s0 H0 C0 cl0 fp0 => sts_nil) (fun s0 H0 C0 cl0 fp0 => (si_val (se_ixx hr (se_fld (se_var (i := 0) (nmAt (X := X) hN rfl) (vis_blk rfl)) (fldF1 (fc.fx.cls 23) (fc.fx.noat 25))) (se_var (i := 1) (nmAt (X := X) hN rfl) (vis_blk rfl))))) (fun s0 H0 C0 cl0 fp0 => (sg_name hNd (nmAt (X := X) hN rfl) (loc_blk rfl) (fnl_blk rfl))) (fun s0 H0 C0 cl0 fp0 => (sts_one (st_lt (se_var (i := 1) (nmAt (X := X) hN rfl) (vis_blk rfl)) (se_var (i := 2) (nmAt (X := X) hN rfl) (vis_blk rfl))))) (fun s0 H0 C0 cl0 fp0 => (se_add (se_var (i := 1) (nmAt (X := X) hN rfl) (vis_blk rfl)) (se_var (i := 2) (nmAt (X := X) hN rfl) (vis_blk rfl))))))
abbrev N_Table___len__ : List Str := ["self"]
abbrev P_Table___len__ : List Str := ["self"]
theorem sc_Table___len__ : FnScope N_Table___len__ P_Table___len__ (defScope (mtop 13 16)) := ⟨rfl, rfl, rfl, by decide +kernel, rfl, by decide +kernel, by decide +kernel⟩
theorem ok_Table___len__ (fc : Fc fa xf fn K mg) : ∃ fd, FOk P w K mg base 1 (He.ma K (He.ga K "Table") "__len__") fd P_Table___len__ ev_Table___len__ ∧ Binds K fd P_Table___len__ [] ∧ FunD K "__len__" "Table.__len__" (defArgs (mtop 13 16)) (defBody (mtop 13 16)) (defScope (mtop 13 16)) [] [] (He.ma K (He.ga K "Table") "__len__") fd := by
  obtain ⟨fd, F⟩ := (fc.def_ 15 _ rfl : ∃ fd, FunD K "__len__" "Table.__len__" (defArgs (mtop 13 16)) (defBody (mtop 13 16)) (defScope (mtop 13 16)) [] [] (He.ma K (He.ga K "Table") "__len__") fd)
  skip
  refine ⟨fd, fok F sc_Table___len__ (fun X W G hP hw hK hmg hb hN hc hfn hsc hr hpo tk hst hfr hpin => ?_), F.bindsN fun _ _ _ _ _ _ us hl => match us, hl with | [_], _ => rfl, F⟩
  · skip
    subst hP hw hK hmg hb
    have hNd : X.N.Nodup := by rw [hN]; decide +kernel
    exact (ss_one (ss_ret (se_callB L2.call_len snd_len (gl_sc hsc rfl) (fc.fx.free 1) rfl (ses_cons (se_fld (se_var (i := 0) (nmAt (X := X) hN rfl) (vis_sc hsc rfl)) (fldF1 (fc.fx.cls 23) (fc.fx.noat 24))) ses_nil))))
abbrev N_Table___repr__ : List Str := ["self"]
abbrev P_Table___repr__ : List Str := ["self"]
theorem sc_Table___repr__ : FnScope N_Table___repr__ P_Table___repr__ (defScope (mtop 13 17)) := ⟨rfl, rfl, rfl, by decide +kernel, rfl, by decide +kernel, by decide +kernel⟩
theorem ok_Table___repr__ (fc : Fc fa xf fn K mg) : ∃ fd, FOk P w K mg base 2 (He.ma K (He.ga K "Table") "__repr__") fd P_Table___repr__ ev_Table___repr__ ∧ Binds K fd P_Table___repr__ [] ∧ FunD K "__repr__" "Table.__repr__" (defArgs (mtop 13 17)) (defBody (mtop 13 17)) (defScope (mtop 13 17)) [] [] (He.ma K (He.ga K "Table") "__repr__") fd := by
  obtain ⟨fd, F⟩ := (fc.def_ 16 _ rfl : ∃ fd, FunD K "__repr__" "Table.__repr__" (defArgs (mtop 13 17)) (defBody (mtop 13 17)) (defScope (mtop 13 17)) [] [] (He.ma K (He.ga K "Table") "__repr__") fd)
  obtain ⟨fd_Table_pairs, F_Table_pairs, b_Table_pairs, D_Table_pairs⟩ := ok_Table_pairs (P := P) (w := w) (base := base) fc
  have k_Table_pairs := D_Table_pairs.kp
  refine ⟨fd, fok F sc_Table___repr__ (fun X W G hP hw hK hmg hb hN hc hfn hsc hr hpo tk hst hfr hpin => ?_), F.bindsN fun _ _ _ _ _ _ us hl => match us, hl with | [_], _ => rfl, F⟩
  · skip
    subst hP hw hK hmg hb
    have hNd : X.N.Nodup := by rw [hN]; decide +kernel
    exact (ss_one (ss_ret (se_fstr (SJ.cons (se_str (l := [Char.ofNat 84, Char.ofNat 97, Char.ofNat 98, Char.ofNat 108, Char.ofNat 101, Char.ofNat 40])) (SJ.cons (se_fmt (se_fld (se_var (i := 0) (nmAt (X := X) hN rfl) (vis_sc hsc rfl)) (fldF1 (fc.fx.cls 23) (fc.fx.noat 24)))) (SJ.cons (se_str (l := [Char.ofNat 44, Char.ofNat 32])) (SJ.cons (se_fmt (se_callB L2.call_len snd_len (gl_sc hsc rfl) (fc.fx.free 1) rfl (ses_cons (se_fz (sc_meth0 (ps := P_Table_pairs) (se_var (i := 0) (nmAt (X := X) hN rfl) (vis_sc hsc rfl)) (fc.fx.cls 23) (fc.fx.meth 33) F_Table_pairs tk hr b_Table_pairs)) ses_nil))) (SJ.cons (se_str (l := [Char.ofNat 32, Char.ofNat 112, Char.ofNat 97, Char.ofNat 105, Char.ofNat 114, Char.ofNat 115, Char.ofNat 41])) SJ.nil))))))))
abbrev N_Table_check_label : List Str := ["self", "labels", "label"]
abbrev P_Table_check_label : List Str := ["self", "labels"]
theorem sc_Table_check_label : FnScope N_Table_check_label P_Table_check_label (defScope (mtop 13 7)) := ⟨rfl, rfl, rfl, by decide +kernel, rfl, by decide +kernel, by decide +kernel⟩
theorem ok_Table_check_label (fc : Fc fa xf fn K mg) : ∃ fd, FOkR P w K mg base 1 (He.ma K (He.ga K "Table") "check_label") ev_Table_check_label ∧ True ∧ FunD K "check_label" "Table.check_label" (defArgs (mtop 13 7)) (defBody (mtop 13 7)) (defScope (mtop 13 7)) [] [] (He.ma K (He.ga K "Table") "check_label") fd := by
  obtain ⟨fd, F⟩ := (fc.def_ 17 _ rfl : ∃ fd, FunD K "check_label" "Table.check_label" (defArgs (mtop 13 7)) (defBody (mtop 13 7)) (defScope (mtop 13 7)) [] [] (He.ma K (He.ga K "Table") "check_label") fd)

  refine ⟨fd, fok_star (ps := ["self"]) (pv := "labels") F sc_Table_check_label (fun _ _ _ _ _ _ => StX.bind_star1 (B := fun l => bindArgs _ ⟨l, []⟩) (fun _ => rfl) (fun _ _ _ => rfl)) (fun X W G hP hw hK hmg hb hN hc hfn hsc hr hpo tk hst hfr hpin => ?_), trivial, F⟩
  · skip
    subst hP hw hK hmg hb
    have hNd : X.N.Nodup := by rw [hN]; decide +kernel
    exact (ss_one (ss_for (t := (.nm 2)) hpo hc (si_val (se_var (i := 1) (nmAt (X := X) hN rfl) (vis_sc hsc rfl))) (sg_name hNd (nmAt (X := X) hN rfl) (loc_sc hsc rfl) (.inl (congrFun hfn _))) (ss_one (ss_if (st_notinx hr (se_var (i := 2) (nmAt (X := X) hN rfl) (vis_sc hsc rfl)) (se_fz (sc_list hc (gl_sc hsc rfl) (fc.fx.free 6) (ses_cons (se_fld (se_var (i := 0) (nmAt (X := X) hN rfl) (vis_sc hsc rfl)) (fldF1 (fc.fx.cls 23) (fc.fx.noat 24))) ses_nil)))) (ss_one ss_no) ss_nil))))
abbrev N_Table_joins : List Str := ["self", "one", "other"]
abbrev P_Table_joins : List Str := ["self", "one", "other"]
theorem sc_Table_joins : FnScope N_Table_joins P_Table_joins (defScope (mtop 13 8)) := ⟨rfl, rfl, rfl, by decide +kernel, rfl, by decide +kernel, by decide +kernel⟩
theorem ok_Table_joins (fc : Fc fa xf fn K mg) : ∃ fd, FOk P w K mg base 2 (He.ma K (He.ga K "Table") "joins") fd P_Table_joins ev_Table_joins ∧ Binds K fd P_Table_joins [] ∧ FunD K "joins" "Table.joins" (defArgs (mtop 13 8)) (defBody (mtop 13 8)) (defScope (mtop 13 8)) [] [] (He.ma K (He.ga K "Table") "joins") fd := by
  obtain ⟨fd, F⟩ := (fc.def_ 18 _ rfl : ∃ fd, FunD K "joins" "Table.joins" (defArgs (mtop 13 8)) (defBody (mtop 13 8)) (defScope (mtop 13 8)) [] [] (He.ma K (He.ga K "Table") "joins") fd)
  obtain ⟨fd_Table_check_label, F_Table_check_label, b_Table_check_label, D_Table_check_label⟩ := ok_Table_check_label (P := P) (w := w) (base := base) fc
  have k_Table_check_label := D_Table_check_label.kp
  refine ⟨fd, fok F sc_Table_joins (fun X W G hP hw hK hmg hb hN hc hfn hsc hr hpo tk hst hfr hpin => ?_), F.bindsN fun _ _ _ _ _ _ us hl => match us, hl with | [_, _, _], _ => rfl, F⟩
  · skip
    subst hP hw hK hmg hb
    have hNd : X.N.Nodup := by rw [hN]; decide +kernel
    exact (ss_cons (ss_expr (se_methR (se_var (i := 0) (nmAt (X := X) hN rfl) (vis_sc hsc rfl)) (fc.fx.cls 23) (fc.fx.meth 35) F_Table_check_label tk hr (ses_cons (se_var (i := 1) (nmAt (X := X) hN rfl) (vis_sc hsc rfl)) (ses_cons (se_var (i := 2) (nmAt (X := X) hN rfl) (vis_sc hsc rfl)) ses_nil)))) (ss_one (ss_ret (se_inx hr (se_var (i := 2) (nmAt (X := X) hN rfl) (vis_sc hsc rfl)) (se_ixx hr (se_fld (se_var (i := 0) (nmAt (X := X) hN rfl) (vis_sc hsc rfl)) (fldF1 (fc.fx.cls 23) (fc.fx.noat 25))) (se_var (i := 1) (nmAt (X := X) hN rfl) (vis_sc hsc rfl)))))))
abbrev N_Table___contains__ : List Str := ["self", "pair"]
abbrev P_Table___contains__ : List Str := ["self", "pair"]
theorem sc_Table___contains__ : FnScope N_Table___contains__ P_Table___contains__ (defScope (mtop 13 14)) := ⟨rfl, rfl, rfl, by decide +kernel, rfl, by decide +kernel, by decide +kernel⟩
theorem ok_Table___contains__ (fc : Fc fa xf fn K mg) : ∃ fd, FOk P w K mg base 2 (He.ma K (He.ga K "Table") "__contains__") fd P_Table___contains__ ev_Table___contains__ ∧ Binds K fd P_Table___contains__ [] ∧ FunD K "__contains__" "Table.__contains__" (defArgs (mtop 13 14)) (defBody (mtop 13 14)) (defScope (mtop 13 14)) [] [] (He.ma K (He.ga K "Table") "__contains__") fd := by
  obtain ⟨fd, F⟩ := (fc.def_ 19 _ rfl : ∃ fd, FunD K "__contains__" "Table.__contains__" (defArgs (mtop 13 14)) (defBody (mtop 13 14)) (defScope (mtop 13 14)) [] [] (He.ma K (He.ga K "Table") "__contains__") fd)
  obtain ⟨fd_is_pair, F_is_pair, b_is_pair, D_is_pair⟩ := ok_is_pair (P := P) (w := w) (base := base) fc
  have k_is_pair := D_is_pair.kp
  refine ⟨fd, fok F sc_Table___contains__ (fun X W G hP hw hK hmg hb hN hc hfn hsc hr hpo tk hst hfr hpin => ?_), F.bindsN fun _ _ _ _ _ _ us hl => match us, hl with | [_, _], _ => rfl, F⟩
  · skip
    subst hP hw hK hmg hb
    have hNd : X.N.Nodup := by rw [hN]; decide +kernel
    exact (ss_one (ss_ret (se_and (se_call (ps := P_is_pair) F_is_pair tk hr (gl_sc hsc rfl) (fc.fx.glo 22) k_is_pair b_is_pair (ses_cons (se_var (i := 1) (nmAt (X := X) hN rfl) (vis_sc hsc rfl)) (ses_cons (se_fld (se_var (i := 0) (nmAt (X := X) hN rfl) (vis_sc hsc rfl)) (fldF1 (fc.fx.cls 23) (fc.fx.noat 24))) ses_nil))) (se_one (se_inx hr (se_ixx hr (se_var (i := 1) (nmAt (X := X) hN rfl) (vis_sc hsc rfl)) se_int) (se_ixx hr (se_fld (se_var (i := 0) (nmAt (X := X) hN rfl) (vis_sc hsc rfl)) (fldF1 (fc.fx.cls 23) (fc.fx.noat 25))) (se_ixx hr (se_var (i := 1) (nmAt (X := X) hN rfl) (vis_sc hsc rfl)) se_int)))))))
abbrev N_Table___eq__ : List Str := ["self", "other"]
abbrev P_Table___eq__ : List Str := ["self", "other"]
theorem sc_Table___eq__ : FnScope N_Table___eq__ P_Table___eq__ (defScope (mtop 13 15)) := ⟨rfl, rfl, rfl, by decide +kernel, rfl, by decide +kernel, by decide +kernel⟩
theorem ok_Table___eq__ (fc : Fc fa xf fn K mg) : ∃ fd, FOk P w K mg base 1 (He.ma K (He.ga K "Table") "__eq__") fd P_Table___eq__ ev_Table___eq__ ∧ Binds K fd P_Table___eq__ [] ∧ FunD K "__eq__" "Table.__eq__" (defArgs (mtop 13 15)) (defBody (mtop 13 15)) (defScope (mtop 13 15)) [] [] (He.ma K (He.ga K "Table") "__eq__") fd := by
  obtain ⟨fd, F⟩ := (fc.def_ 20 _ rfl : ∃ fd, FunD K "__eq__" "Table.__eq__" (defArgs (mtop 13 15)) (defBody (mtop 13 15)) (defScope (mtop 13 15)) [] [] (He.ma K (He.ga K "Table") "__eq__") fd)
  skip
  refine ⟨fd, fok F sc_Table___eq__ (fun X W G hP hw hK hmg hb hN hc hfn hsc hr hpo tk hst hfr hpin => ?_), F.bindsN fun _ _ _ _ _ _ us hl => match us, hl with | [_, _], _ => rfl, F⟩
  · skip
    subst hP hw hK hmg hb
    have hNd : X.N.Nodup := by rw [hN]; decide +kernel
    exact (ss_one (ss_ret (se_and (se_callB cr_isi (snd_isi (fc.isi 6)) (gl_sc hsc rfl) (fc.fx.free 30) rfl (ses_cons (se_var (i := 1) (nmAt (X := X) hN rfl) (vis_sc hsc rfl)) (ses_cons (se_gcl (c := "Table") (gl_sc hsc rfl) (fc.fx.glo 16)) ses_nil))) (se_and (se_eq hr (se_fld (se_var (i := 0) (nmAt (X := X) hN rfl) (vis_sc hsc rfl)) (fldF1 (fc.fx.cls 23) (fc.fx.noat 24))) (se_fld (se_var (i := 1) (nmAt (X := X) hN rfl) (vis_sc hsc rfl)) (fldF1 (fc.fx.cls 23) (fc.fx.noat 24)))) (se_one (se_eqx hr (se_fld (se_var (i := 0) (nmAt (X := X) hN rfl) (vis_sc hsc rfl)) (fldF1 (fc.fx.cls 23) (fc.fx.noat 25))) (se_fld (se_var (i := 1) (nmAt (X := X) hN rfl) (vis_sc hsc rfl)) (fldF1 (fc.fx.cls 23) (fc.fx.noat 25)))))))))
abbrev N_law : List Str := ["_law_script", "_law_box", "_law_tab", "_law_handed", "_law_kept", "_law_made", "_law_text", "_law_due", "_law_one", "_law_odd", "_law_other", "_law_second", "_law_labels_z", "_law_pairs_z", "_law_pair"]
abbrev P_law : List Str := ["_law_script"]
theorem sc_law : FnScope N_law P_law (defScope (top 24)) := ⟨rfl, rfl, rfl, by decide +kernel, rfl, by decide +kernel, by decide +kernel⟩
theorem ok_law (fc : Fc fa xf fn K mg) : ∃ fd, FOk P w K mg base 9 (He.ga K "law") fd P_law ev_law ∧ Binds K fd P_law [] ∧ FunD K "law" "law" (defArgs (top 24)) (defBody (top 24)) (defScope (top 24)) [] [] (He.ga K "law") fd := by
  obtain ⟨fd, F⟩ := (fc.def_ 21 _ rfl : ∃ fd, FunD K "law" "law" (defArgs (top 24)) (defBody (top 24)) (defScope (top 24)) [] [] (He.ga K "law") fd)
  obtain ⟨fd__law_open, F__law_open, b__law_open, D__law_open⟩ := ok__law_open (P := P) (w := w) (base := base) fc
  have k__law_open := D__law_open.kp
  obtain ⟨fd__law_table, F__law_table, b__law_table, D__law_table⟩ := ok__law_table (P := P) (w := w) (base := base) fc
  have k__law_table := D__law_table.kp
  obtain ⟨fd__law_mixed, F__law_mixed, b__law_mixed, D__law_mixed⟩ := ok__law_mixed (P := P) (w := w) (base := base) fc
  have k__law_mixed := D__law_mixed.kp
  obtain ⟨fd__law_pick, F__law_pick, b__law_pick, D__law_pick⟩ := ok__law_pick (P := P) (w := w) (base := base) fc
  have k__law_pick := D__law_pick.kp
  obtain ⟨fd_Table___init__, F_Table___init__, b_Table___init__, D_Table___init__⟩ := ok_Table___init__ (P := P) (w := w) (base := base) fc
  have k_Table___init__ := D_Table___init__.kp
  obtain ⟨fd__law_like, F__law_like, b__law_like, D__law_like⟩ := ok__law_like (P := P) (w := w) (base := base) fc
  have k__law_like := D__law_like.kp
  obtain ⟨fd_Table_labels, F_Table_labels, b_Table_labels, D_Table_labels⟩ := ok_Table_labels (P := P) (w := w) (base := base) fc
  have k_Table_labels := D_Table_labels.kp
  obtain ⟨fd_Table_pairs, F_Table_pairs, b_Table_pairs, D_Table_pairs⟩ := ok_Table_pairs (P := P) (w := w) (base := base) fc
  have k_Table_pairs := D_Table_pairs.kp
  obtain ⟨fd_Table___len__, F_Table___len__, b_Table___len__, D_Table___len__⟩ := ok_Table___len__ (P := P) (w := w) (base := base) fc
  have k_Table___len__ := D_Table___len__.kp
  obtain ⟨fd_Table___repr__, F_Table___repr__, b_Table___repr__, D_Table___repr__⟩ := ok_Table___repr__ (P := P) (w := w) (base := base) fc
  have k_Table___repr__ := D_Table___repr__.kp
  obtain ⟨fd__law_joins, F__law_joins, b__law_joins, D__law_joins⟩ := ok__law_joins (P := P) (w := w) (base := base) fc
  have k__law_joins := D__law_joins.kp
  obtain ⟨fd_Table_joins, F_Table_joins, b_Table_joins, D_Table_joins⟩ := ok_Table_joins (P := P) (w := w) (base := base) fc
  have k_Table_joins := D_Table_joins.kp
  obtain ⟨fd_Table___contains__, F_Table___contains__, b_Table___contains__, D_Table___contains__⟩ := ok_Table___contains__ (P := P) (w := w) (base := base) fc
  have k_Table___contains__ := D_Table___contains__.kp
  obtain ⟨fd_Table___eq__, F_Table___eq__, b_Table___eq__, D_Table___eq__⟩ := ok_Table___eq__ (P := P) (w := w) (base := base) fc
  have k_Table___eq__ := D_Table___eq__.kp
  refine ⟨fd, fok F sc_law (fun X W G hP hw hK hmg hb hN hc hfn hsc hr hpo tk hst hfr hpin => ?_), F.bindsN fun _ _ _ _ _ _ us hl => match us, hl with | [_], _ => rfl, F⟩
  · skip
    subst hP hw hK hmg hb
    have hNd : X.N.Nodup := by rw [hN]; decide +kernel
    exact (ss_cons (ss_set (i := 1) (hf := .inl (congrFun hfn _)) hNd (nmAt (X := X) hN rfl) (loc_sc hsc rfl) (se_call (ps := P__law_open) F__law_open tk (hr.mono (by decide)) (gl_sc hsc rfl) (fc.fx.glo 2) k__law_open b__law_open (ses_cons (se_var (i := 0) (nmAt (X := X) hN rfl) (vis_sc hsc rfl)) ses_nil))) (ss_cons (ss_set (i := 2) (hf := .inl (congrFun hfn _)) hNd (nmAt (X := X) hN rfl) (loc_sc hsc rfl) (se_call (ps := P__law_table) F__law_table tk (hr.mono (by decide)) (gl_sc hsc rfl) (fc.fx.glo 14) k__law_table b__law_table (ses_cons (se_var (i := 1) (nmAt (X := X) hN rfl) (vis_sc hsc rfl)) (ses_cons se_int ses_nil)))) (ss_cons (ss_asg (t := (.tp [12, 13])) (se_var (i := 2) (nmAt (X := X) hN rfl) (vis_sc hsc rfl)) (sg_tup hc (sgs_cons (sg_name hNd (nmAt (X := X) hN rfl) (loc_sc hsc rfl) (.inl (congrFun hfn _))) (sgs_cons (sg_name hNd (nmAt (X := X) hN rfl) (loc_sc hsc rfl) (.inl (congrFun hfn _))) sgs_nil)))) (ss_cons (ss_bxAfter 3 (ss_ownLc (own := [("_law_pair", 14)]) (t := (.nm 14)) (i := 3) (.inl hpin) hc hNd (nmAt (X := X) hN rfl) (lc_sc hsc rfl) (swl hsc rfl rfl rfl rfl) (si_val (se_call (ps := P__law_mixed) F__law_mixed tk (hr.mono (by decide)) (gl_sc hsc rfl) (fc.fx.glo 8) k__law_mixed b__law_mixed (ses_cons (se_var (i := 1) (nmAt (X := X) hN rfl) (vis_sc hsc rfl)) (ses_cons (se_add (se_var (i := 13) (nmAt (X := X) hN rfl) (vis_sc hsc rfl)) (se_slice (se_var (i := 13) (nmAt (X := X) hN rfl) (vis_sc hsc rfl)) so_none (so_some se_int))) ses_nil)))) (blkAt hN hsc rfl) (by decide) (fun s0 H0 C0 cl0 fp0 => (sg_name hNd (nmAt (X := X) hN rfl) (loc_blk rfl) (fnl_blk rfl))) (fun s0 H0 C0 cl0 fp0 => sts_nil) (fun s0 H0 C0 cl0 fp0 => (se_call (ps := P__law_pick) F__law_pick takes0 (hr.mono (by decide)) (gl_blk rfl) (fc.fx.glo 4) k__law_pick b__law_pick (ses_cons (se_var (i := 1) (nmAt (X := X) hN rfl) (vis_blk rfl)) (ses_cons (se_lst (ses_cons (se_var (i := 14) (nmAt (X := X) hN rfl) (vis_blk rfl)) (ses_cons (se_rev (k := 0) (se_var (i := 14) (nmAt (X := X) hN rfl) (vis_blk rfl))) ses_nil))) ses_nil)))))) (ss_cons (ss_set (i := 4) (hf := .inl (congrFun hfn _)) hNd (nmAt (X := X) hN rfl) (loc_sc hsc rfl) (se_fz (sc_list hc (gl_sc hsc rfl) (fc.fx.free 6) (ses_cons (se_var (i := 3) (nmAt (X := X) hN rfl) (vis_sc hsc rfl)) ses_nil)))) (ss_cons (ss_set (i := 5) (hf := .inl (congrFun hfn _)) hNd (nmAt (X := X) hN rfl) (loc_sc hsc rfl) (se_fz (sc_make (fc.fx.mkr 27) F_Table___init__ tk (hr.mono (by decide)) (gl_sc hsc rfl) (fc.fx.glo 16) (kbi_pos (n := 2) b_Table___init__ rfl) (ses_cons (se_var (i := 12) (nmAt (X := X) hN rfl) (vis_sc hsc rfl)) (ses_cons (se_var (i := 3) (nmAt (X := X) hN rfl) (vis_sc hsc rfl)) ses_nil)) sks_nil))) (ss_cons (ss_if (st_ne hr (se_var (i := 3) (nmAt (X := X) hN rfl) (vis_sc hsc rfl)) (se_var (i := 4) (nmAt (X := X) hN rfl) (vis_sc hsc rfl))) (ss_one (ss_ret se_bl)) ss_nil) (ss_cons (ss_bm0 so_clear PySem.F.plainAttrs_list PySem.F.slot_list_clear PySem.F.type_list_clear L2.mt_clear (se_var (i := 3) (nmAt (X := X) hN rfl) (vis_sc hsc rfl))) (ss_cons (ss_set (i := 6) (hf := .inl (congrFun hfn _)) hNd (nmAt (X := X) hN rfl) (loc_sc hsc rfl) (se_add (se_add (se_add (se_add (se_str (l := [Char.ofNat 84, Char.ofNat 97, Char.ofNat 98, Char.ofNat 108, Char.ofNat 101, Char.ofNat 40])) (se_var (i := 12) (nmAt (X := X) hN rfl) (vis_sc hsc rfl))) (se_str (l := [Char.ofNat 44, Char.ofNat 32]))) (se_callTy cr_str snd_str (gl_sc hsc rfl) (fc.fx.free 28) rfl (ses_cons (se_callB L2.call_len snd_len (gl_sc hsc rfl) (fc.fx.free 1) rfl (ses_cons (se_var (i := 13) (nmAt (X := X) hN rfl) (vis_sc hsc rfl)) ses_nil)) ses_nil))) (se_str (l := [Char.ofNat 32, Char.ofNat 112, Char.ofNat 97, Char.ofNat 105, Char.ofNat 114, Char.ofNat 115, Char.ofNat 41])))) (ss_cons (ss_set (i := 7) (hf := .inl (congrFun hfn _)) hNd (nmAt (X := X) hN rfl) (loc_sc hsc rfl) (se_lst (ses_cons (se_var (i := 12) (nmAt (X := X) hN rfl) (vis_sc hsc rfl)) (ses_cons (se_var (i := 13) (nmAt (X := X) hN rfl) (vis_sc hsc rfl)) (ses_cons (se_callB L2.call_len snd_len (gl_sc hsc rfl) (fc.fx.free 1) rfl (ses_cons (se_var (i := 12) (nmAt (X := X) hN rfl) (vis_sc hsc rfl)) ses_nil)) (ses_cons (se_var (i := 6) (nmAt (X := X) hN rfl) (vis_sc hsc rfl)) ses_nil)))))) (ss_cons (ss_if (st_not (st_v (se_call (ps := P__law_like) F__law_like tk hr (gl_sc hsc rfl) (fc.fx.glo 31) k__law_like b__law_like (ses_cons (se_lst (ses_cons (se_prop (se_var (i := 5) (nmAt (X := X) hN rfl) (vis_sc hsc rfl)) (fc.fx.cls 23) (fc.prop 2) F_Table_labels (hr.mono (by decide)) b_Table_labels rfl) (ses_cons (se_fz (sc_meth0 (ps := P_Table_pairs) (se_var (i := 5) (nmAt (X := X) hN rfl) (vis_sc hsc rfl)) (fc.fx.cls 23) (fc.fx.meth 33) F_Table_pairs tk (hr.mono (by decide)) b_Table_pairs)) (ses_cons (se_lenI (fc.dun 3) F_Table___len__ (hr.mono (by decide)) b_Table___len__ rfl (gl_sc hsc rfl) (fc.fx.free 1) rfl (ses_cons (se_var (i := 5) (nmAt (X := X) hN rfl) (vis_sc hsc rfl)) ses_nil)) (ses_cons (se_reprI (fc.dun 4) F_Table___repr__ (hr.mono (by decide)) b_Table___repr__ rfl (gl_sc hsc rfl) (fc.fx.free 34) rfl (ses_cons (se_var (i := 5) (nmAt (X := X) hN rfl) (vis_sc hsc rfl)) ses_nil)) ses_nil))))) (ses_cons (se_var (i := 7) (nmAt (X := X) hN rfl) (vis_sc hsc rfl)) ses_nil))))) (ss_one (ss_ret se_bl)) ss_nil) (ss_cons (ss_expr (se_bm so_append PySem.F.plainAttrs_list PySem.F.slot_list_append PySem.F.type_list_append L2.mt_append (se_bx (sc_meth0 (ps := P_Table_pairs) (se_var (i := 5) (nmAt (X := X) hN rfl) (vis_sc hsc rfl)) (fc.fx.cls 23) (fc.fx.meth 33) F_Table_pairs tk (hr.mono (by decide)) b_Table_pairs)) (ses_cons (se_str (l := [Char.ofNat 122, Char.ofNat 122])) ses_nil))) (ss_cons (ss_for (t := (.nm 8)) hpo hc (si_val (se_var (i := 12) (nmAt (X := X) hN rfl) (vis_sc hsc rfl))) (sg_name hNd (nmAt (X := X) hN rfl) (loc_sc hsc rfl) (.inl (congrFun hfn _))) (ss_one (ss_for (t := (.nm 10)) hpo hc (si_val (se_var (i := 12) (nmAt (X := X) hN rfl) (vis_sc hsc rfl))) (sg_name hNd (nmAt (X := X) hN rfl) (loc_sc hsc rfl) (.inl (congrFun hfn _))) (ss_cons (ss_set (i := 7) (hf := .inl (congrFun hfn _)) hNd (nmAt (X := X) hN rfl) (loc_sc hsc rfl) (se_and (se_ne hr (se_var (i := 8) (nmAt (X := X) hN rfl) (vis_sc hsc rfl)) (se_var (i := 10) (nmAt (X := X) hN rfl) (vis_sc hsc rfl))) (se_one (se_call (ps := P__law_joins) F__law_joins tk (hr.mono (by decide)) (gl_sc hsc rfl) (fc.fx.glo 11) k__law_joins b__law_joins (ses_cons (se_var (i := 13) (nmAt (X := X) hN rfl) (vis_sc hsc rfl)) (ses_cons (se_var (i := 8) (nmAt (X := X) hN rfl) (vis_sc hsc rfl)) (ses_cons (se_var (i := 10) (nmAt (X := X) hN rfl) (vis_sc hsc rfl)) ses_nil))))))) (ss_one (ss_if (st_not (st_v (se_call (ps := P__law_like) F__law_like tk hr (gl_sc hsc rfl) (fc.fx.glo 31) k__law_like b__law_like (ses_cons (se_lst (ses_cons (se_meth (ps := P_Table_joins) (se_var (i := 5) (nmAt (X := X) hN rfl) (vis_sc hsc rfl)) (fc.fx.cls 23) (fc.fx.meth 36) F_Table_joins tk (hr.mono (by decide)) b_Table_joins (ses_cons (se_var (i := 8) (nmAt (X := X) hN rfl) (vis_sc hsc rfl)) (ses_cons (se_var (i := 10) (nmAt (X := X) hN rfl) (vis_sc hsc rfl)) ses_nil))) (ses_cons (se_inI (fc.dun 5) F_Table___contains__ (hr.mono (by decide)) b_Table___contains__ rfl (se_add (se_var (i := 8) (nmAt (X := X) hN rfl) (vis_sc hsc rfl)) (se_var (i := 10) (nmAt (X := X) hN rfl) (vis_sc hsc rfl))) (se_var (i := 5) (nmAt (X := X) hN rfl) (vis_sc hsc rfl))) ses_nil))) (ses_cons (se_lst (ses_cons (se_var (i := 7) (nmAt (X := X) hN rfl) (vis_sc hsc rfl)) (ses_cons (se_var (i := 7) (nmAt (X := X) hN rfl) (vis_sc hsc rfl)) ses_nil))) ses_nil))))) (ss_one (ss_ret se_bl)) ss_nil)))))) (ss_cons (ss_set (i := 9) (hf := .inl (congrFun hfn _)) hNd (nmAt (X := X) hN rfl) (loc_sc hsc rfl) (se_call (ps := P__law_pick) F__law_pick tk (hr.mono (by decide)) (gl_sc hsc rfl) (fc.fx.glo 4) k__law_pick b__law_pick (ses_cons (se_var (i := 1) (nmAt (X := X) hN rfl) (vis_sc hsc rfl)) (ses_cons (se_lst (ses_cons (se_str (l := [])) (ses_cons (se_str (l := [Char.ofNat 97])) (ses_cons (se_str (l := [Char.ofNat 65, Char.ofNat 65])) (ses_cons (se_var (i := 12) (nmAt (X := X) hN rfl) (vis_sc hsc rfl)) (ses_cons (se_str (l := [Char.ofNat 49, Char.ofNat 97])) (ses_cons (se_add (se_ixx hr (se_var (i := 12) (nmAt (X := X) hN rfl) (vis_sc hsc rfl)) se_int) (se_str (l := [Char.ofNat 63]))) (ses_cons (se_mul (se_ixx hr (se_var (i := 12) (nmAt (X := X) hN rfl) (vis_sc hsc rfl)) se_int) se_int) (ses_cons (se_str (l := [Char.ofNat 97, Char.ofNat 98, Char.ofNat 99])) ses_nil))))))))) ses_nil)))) (ss_cons (ss_if (st_ne hr (se_inI (fc.dun 5) F_Table___contains__ (hr.mono (by decide)) b_Table___contains__ rfl (se_var (i := 9) (nmAt (X := X) hN rfl) (vis_sc hsc rfl)) (se_var (i := 5) (nmAt (X := X) hN rfl) (vis_sc hsc rfl))) (se_and (se_eq hr (se_callB L2.call_len snd_len (gl_sc hsc rfl) (fc.fx.free 1) rfl (ses_cons (se_var (i := 9) (nmAt (X := X) hN rfl) (vis_sc hsc rfl)) ses_nil)) se_int) (se_one (se_inx hr (se_var (i := 9) (nmAt (X := X) hN rfl) (vis_sc hsc rfl)) (se_add (se_var (i := 13) (nmAt (X := X) hN rfl) (vis_sc hsc rfl)) (se_fz (sc_lc (own := [("_law_pair", 14)]) (t := (.nm 14)) hc hNd (si_val (se_var (i := 13) (nmAt (X := X) hN rfl) (vis_sc hsc rfl))) (blkAt hN hsc rfl) (by decide) (fun s0 H0 C0 cl0 fp0 => (sg_name hNd (nmAt (X := X) hN rfl) (loc_blk rfl) (fnl_blk rfl))) (fun s0 H0 C0 cl0 fp0 => sts_nil) (fun s0 H0 C0 cl0 fp0 => (se_rev (k := 0) (se_var (i := 14) (nmAt (X := X) hN rfl) (vis_blk rfl))))))))))) (ss_one (ss_ret se_bl)) ss_nil) (ss_cons (ss_set (i := 10) (hf := .inl (congrFun hfn _)) hNd (nmAt (X := X) hN rfl) (loc_sc hsc rfl) (se_call (ps := P__law_table) F__law_table tk (hr.mono (by decide)) (gl_sc hsc rfl) (fc.fx.glo 14) k__law_table b__law_table (ses_cons (se_var (i := 1) (nmAt (X := X) hN rfl) (vis_sc hsc rfl)) (ses_cons se_int ses_nil)))) (ss_cons (ss_set (i := 11) (hf := .inl (congrFun hfn _)) hNd (nmAt (X := X) hN rfl) (loc_sc hsc rfl) (se_fz (sc_make (fc.fx.mkr 27) F_Table___init__ tk (hr.mono (by decide)) (gl_sc hsc rfl) (fc.fx.glo 16) (kbi_pos (n := 2) b_Table___init__ rfl) (ses_cons (se_ixx hr (se_var (i := 10) (nmAt (X := X) hN rfl) (vis_sc hsc rfl)) se_int) (ses_cons (se_callTy L2.call_tuple_of snd_tuple (gl_sc hsc rfl) (fc.fx.free 29) rfl (ses_cons (se_ixx hr (se_var (i := 10) (nmAt (X := X) hN rfl) (vis_sc hsc rfl)) se_int) ses_nil)) ses_nil)) sks_nil))) (ss_cons (ss_if (st_not (st_v (se_call (ps := P__law_like) F__law_like tk hr (gl_sc hsc rfl) (fc.fx.glo 31) k__law_like b__law_like (ses_cons (se_lst (ses_cons (se_eqI (fc.isi 6) (fc.nf 8) (fc.dun 7) F_Table___eq__ (hr.mono (by decide)) b_Table___eq__ rfl (se_var (i := 5) (nmAt (X := X) hN rfl) (vis_sc hsc rfl)) (se_var (i := 11) (nmAt (X := X) hN rfl) (vis_sc hsc rfl))) (ses_cons (se_eqI (fc.isi 6) (fc.nf 8) (fc.dun 7) F_Table___eq__ (hr.mono (by decide)) b_Table___eq__ rfl (se_var (i := 11) (nmAt (X := X) hN rfl) (vis_sc hsc rfl)) (se_var (i := 5) (nmAt (X := X) hN rfl) (vis_sc hsc rfl))) (ses_cons (se_eqI (fc.isi 6) (fc.nf 8) (fc.dun 7) F_Table___eq__ (hr.mono (by decide)) b_Table___eq__ rfl (se_var (i := 5) (nmAt (X := X) hN rfl) (vis_sc hsc rfl)) (se_var (i := 12) (nmAt (X := X) hN rfl) (vis_sc hsc rfl))) ses_nil)))) (ses_cons (se_lst (ses_cons (se_eq hr (se_var (i := 2) (nmAt (X := X) hN rfl) (vis_sc hsc rfl)) (se_var (i := 10) (nmAt (X := X) hN rfl) (vis_sc hsc rfl))) (ses_cons (se_eq hr (se_var (i := 2) (nmAt (X := X) hN rfl) (vis_sc hsc rfl)) (se_var (i := 10) (nmAt (X := X) hN rfl) (vis_sc hsc rfl))) (ses_cons se_bl ses_nil)))) ses_nil))))) (ss_one (ss_ret se_bl)) ss_nil) (ss_cons (ss_if (st_w (sw_and (st_ne hr (se_var (i := 13) (nmAt (X := X) hN rfl) (vis_sc hsc rfl)) (se_lst ses_nil)) (sw_and1 (st_eqI (fc.isi 6) (fc.nf 8) (fc.dun 7) F_Table___eq__ (hr.mono (by decide)) b_Table___eq__ rfl (se_var (i := 5) (nmAt (X := X) hN rfl) (vis_sc hsc rfl)) (se_fz (sc_make (fc.fx.mkr 27) F_Table___init__ tk (hr.mono (by decide)) (gl_sc hsc rfl) (fc.fx.glo 16) (kbi_pos (n := 2) b_Table___init__ rfl) (ses_cons (se_var (i := 12) (nmAt (X := X) hN rfl) (vis_sc hsc rfl)) (ses_cons (se_slice (se_var (i := 13) (nmAt (X := X) hN rfl) (vis_sc hsc rfl)) so_none (so_some (se_neg se_int))) ses_nil)) sks_nil)))))) (ss_one (ss_ret se_bl)) ss_nil) (ss_one (ss_ret (se_and (se_eqI (fc.isi 6) (fc.nf 8) (fc.dun 7) F_Table___eq__ (hr.mono (by decide)) b_Table___eq__ rfl (se_var (i := 5) (nmAt (X := X) hN rfl) (vis_sc hsc rfl)) (se_fz (sc_make0 (fc.fx.mkr 27) F_Table___init__ tk (hr.mono (by decide)) (gl_sc hsc rfl) (fc.fx.glo 16) (kbi_kw (n := 0) [1, 0] (FunD.kbp D_Table___init__ 1 ["pairs", "labels"] [1, 0] (fun _ _ _ _ _ _ us ws h1 h2 => match us, ws, h1, h2 with | [_], [_, _], _, _ => rfl)) (by decide) rfl) (sks_cons (se_var (i := 13) (nmAt (X := X) hN rfl) (vis_sc hsc rfl)) (sks_cons (se_var (i := 12) (nmAt (X := X) hN rfl) (vis_sc hsc rfl)) sks_nil))))) (se_and (se_eq hr (se_fz (sc_meth0 (ps := P_Table_pairs) (se_var (i := 5) (nmAt (X := X) hN rfl) (vis_sc hsc rfl)) (fc.fx.cls 23) (fc.fx.meth 33) F_Table_pairs tk (hr.mono (by decide)) b_Table_pairs)) (se_var (i := 13) (nmAt (X := X) hN rfl) (vis_sc hsc rfl))) (se_one (se_eq hr (se_cint (se_gcl (c := "Table") (gl_sc hsc rfl) (fc.fx.glo 16)) (fc.cint 0)) se_int)))))))))))))))))))))))))
end
def chk (K : PySem.W.Frag) : Bool := (fa.all fun x => x.ok K) && (xf.all fun x => x.ok K)
def names : List PySem.Str := ([PySem.Str.ofString "_wall", PySem.Str.ofString "SamewaysError", PySem.Str.ofString "InvalidLabels", PySem.Str.ofString "InvalidPair", PySem.Str.ofString "Square", PySem.Str.ofString "InvalidLabel", PySem.Str.ofString "SMALL", PySem.Str.ofString "LEAST_LABELS", PySem.Str.ofString "is_ascending", PySem.Str.ofString "is_pair", PySem.Str.ofString "first_square", PySem.Str.ofString "Table", PySem.Str.ofString "_law_open", PySem.Str.ofString "_law_pull", PySem.Str.ofString "_law_pick", PySem.Str.ofString "_law_mixed", PySem.Str.ofString "_law_like", PySem.Str.ofString "_law_square", PySem.Str.ofString "_law_joins", PySem.Str.ofString "_law_letters", PySem.Str.ofString "_law_table"] : List PySem.Str)
abbrev R : PySem.W.OpenRow := PySem.W.OpenLaw.row PySem.Challenge.rw_sameways_k01_tables_and_their_parts
abbrev hk : PySem.W.Hook := DI.hookC 8 chk fn
def ob (s : PySem.W.SharedT) : He.AlD := DI.obsCG 8 chk fn (HandSHeadRun.getT s)
theorem ob_eq (s : PySem.W.SharedT) : ob s = hk.obs s.abs := DI.obsCG_eq (HandSHeadRun.getT_eq s)
end Lw
set_option Elab.async false
set_option linter.all false
set_option maxRecDepth 100000
set_option maxHeartbeats 0
namespace Lw
open PySem PySem.Spec PyProof.Rows L2 DI
theorem run (w : World) : HandSHeadRun.RunEq R (PySem.W.view R.prog [24]) hk ob 9000 names w := by
  intro os
  kernel_rfl
end Lw
set_option Elab.async false
set_option linter.all false
set_option maxRecDepth 100000
set_option maxHeartbeats 0
namespace Lw
open PySem PySem.Spec PyProof.Rows L2 DI
theorem fc_of {K : PySem.W.Frag} {h : Heap} {mg : Str → Option Value} (X : K.In h) (G : h.Ns mainGlobals mg) (c : SaysC chk fn K) : Fc fa xf fn K mg := by
  have z := c.chk_
  obtain ⟨h1, h2⟩ := He.ba z
  exact ⟨⟨⟨h, X, G⟩, List.all_eq_true.mp h1⟩, List.all_eq_true.mp h2, fun i d e => c.def_ i e⟩
theorem facts {P : Program} {w : World} {K : PySem.W.Frag} {h : Heap} {mg : Str → Option Value} {f : Addr} (X : K.In h) (G : h.Ns mainGlobals mg) (hfa : mg ("law" : Str) = some (.ref f)) (c : SaysC chk fn K) :
    ∃ fd : FuncData, (∀ (s : Shared) (v : Value), BindsTo s fd ⟨[v], []⟩ [("_law_script", v)]) ∧ ∀ base : Heap, K.In base → base.Ns mainGlobals mg → FnOk P w K mg base (L2.CX P w) 9 f fd ["_law_script"] (spF K 1 ev_law) := by
  have fc := fc_of X G c
  obtain ⟨fd, F, b, D⟩ := ok_law (P := P) (w := w) (base := h) fc
  have e := hfa.symm.trans (fc.fx.glo 37)
  cases e
  have bb := FunD.bindsA (ps := ["_law_script"]) D fun _ _ _ _ _ _ us hl => match us, hl with | [_], _ => rfl
  refine ⟨fd, fun s v => bb s [v] rfl, fun base X' G' => ?_⟩
  obtain ⟨fd2, F2, b2, D2⟩ := ok_law (P := P) (w := w) (base := base) (fc_of X' G' c)
  obtain ⟨_, _, _, _, _, _, _, _, _, _, e1, l1, _⟩ := D.ex
  obtain ⟨_, _, _, _, _, _, _, _, _, _, e2, l2, _⟩ := D2.ex
  have e := l1.symm.trans l2
  obtain rfl : fd = fd2 := by
    injection e with e
    injection e with _ _ e _
    injection e
  exact F2
end Lw
open PySem PySem.W PySem.Calls PyProof.Rows
theorem PySem.Challenge.cw_sameways_k01_tables_and_their_parts_holds : PySem.Challenge.rw_sameways_k01_tables_and_their_parts.Holds := by
  w_on; o_law
  refine HandSHeadRun.head_any (r := OpenLaw.row PySem.Challenge.rw_sameways_k01_tables_and_their_parts) (q := view (OpenLaw.row PySem.Challenge.rw_sameways_k01_tables_and_their_parts).prog [24]) (H := Lw.hk) (ob := Lw.ob) (M := 9000) (loose := Lw.names) (d := HandSHeadRun.topDef (OpenLaw.row PySem.Challenge.rw_sameways_k01_tables_and_their_parts).prog 24) (kwd := []) Lw.ob_eq
    (by kernel_rfl) (fun s => by kernel_rfl) Lw.run (by kernel_rfl) (by kernel_rfl) (by kernel_rfl) (by rfl) (by first | assumption | decide +kernel) (by decide +kernel) ⟨rfl, rfl, rfl, rfl, rfl, by decide +kernel⟩ ?hw ?hc
  case hw => w_witness2
  case hc =>
    refine L2.walk_ofE (l := PySem.Challenge.rw_sameways_k01_tables_and_their_parts) (n := 63) (k := 9) (x := "_law_script") (CX := L2.CX0) rfl (by decide) (by kernel_rfl) ⟨rfl, by decide, by decide⟩ ?F (fun _ _ _ _ z => z)
    · intro w mg fa h Y G hmg0
      obtain ⟨K, KX, c⟩ := Y
      have hmg : mg ("law" : PySem.Str) = some (.ref fa) := by
        have e : (HandSHeadRun.topDef (OpenLaw.row PySem.Challenge.rw_sameways_k01_tables_and_their_parts).prog 24).name = ("law" : PySem.Str) := by kernel_rfl
        rw [← e]
        exact hmg0
      obtain ⟨fd, hb, hF⟩ := Lw.facts (P := (PySem.Challenge.rw_sameways_k01_tables_and_their_parts).prog) (w := w) KX G hmg c
      exact ⟨K, fd, fun vs H Q _ => DI.spF K 1 Lw.ev_law vs H Q (fun _ _ _ => False), KX, hb, fun H a ns hl _ hS => DI.law_sp hS (Lw.law_ok hl), fun base b1 b2 => DI.FnOk.noX (hF base b1 b2)⟩
