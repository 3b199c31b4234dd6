import PyProof.Rows.All
import Wide.All
import OpenK.AllK
import Wide.FinOn
import HandS.ForMost
import HandS.ForExc
import HandS.IsInst
import HandS.TupAny
import HandS.TupMul
import HandS.TupLe
import HandS.Wide
import HandS.Deep
import HandS.Flow
import HandS.NoneIn
import HandS.Zip
import HandS.Rev
import HandS.ExcValue
import HandS.ExcIs
import PyProof.StrBlock2
import KE.KEqDict
import HandS.SortKw
import HandS.SortInts
import KE.KSortKey
import KE.GoesMore
import PyProof.EnumMake
import HandS.SetKeys
import HandS.Conv
import PyProof.TupleOfSeq
import KE.KDictSum
import HandS.More
import HandS.SetFor
import HandS.Strs
import KE.DataFind
import KE.KDictZip
import KE.KDictPairs
import HandS.Text
import HandS.Codes
import HandS.HotCalls
import KE.KTup
import PySem.Challenge.RW_gatherdesk_k11_thrift
set_option Elab.async false
set_option linter.all false
set_option maxRecDepth 100000
set_option maxHeartbeats 4000000
/-! A layer over HandS: tuples are values, mutable objects are cells, garbage is forgotten, private cells are hidden. -/
namespace DL
open PySem L2

/-! ### data -/
inductive D where
  | non | bl (b : Bool) | int (i : Int) | str (x : Str) | ref (a : Addr) | ty (n : String) | tup (ds : List D)

/-- a caught exception of the class cls that is held as a value -/
def ExcV (cls : Value) (a : Addr) : HO := .ext fun h => ∃ (oe : Obj) (vs : Array Value), h.get? a = some oe ∧ Zc cls none oe ∧ oe.data = .fields vs
inductive DO where
  | lst (ds : List D)
  | dK (kvs : List (Key × D))
  | dT (kvs : List (List Key × D))
  | fz (o : Obj) (xs : List (Key × V)) (kvs : List (Key × D))
  | ins (C : Addr) (fs : List (Str × D))
  | exc (a C : Addr)
  | set (S : Int → Bool) (n : Nat)

abbrev Dh := Addr → Option DO
def dput (h : Dh) (a : Addr) (o : DO) : Dh := fun b => if b = a then some o else h b
theorem dput_same {h : Dh} {a : Addr} {o : DO} : dput h a o a = some o := by unfold dput; rw [if_pos rfl]
theorem dput_ne {h : Dh} {a b : Addr} {o : DO} (n : b ≠ a) : dput h a o b = h b := by unfold dput; rw [if_neg n]
theorem dput_dput {h : Dh} {a : Addr} {o u : DO} : dput (dput h a o) a u = dput h a u := by
  funext b; unfold dput; split <;> rfl

abbrev HidP := Dh → Prop
/-- the law's own state at p: cells and a turn, of which n are taken at most -/
def LS (p : Addr) (n : Nat) : HidP := fun h => ∃ (c : Addr) (cells : List Int) (t : Int), h p = some (.lst [.ref c, .int t]) ∧ h c = some (.lst (cells.map D.int)) ∧ p ≠ c ∧ 0 ≤ t ∧ t ≤ n ∧ cells ≠ [] ∧ cells.length ≤ 64
/-- what a Kept holds -/
def keptD (kvs : List (Int × D × Int)) : List (Key × D) := kvs.map fun e => (.inl e.1, .tup [e.2.1, .int e.2.2])
def KeptS (p C : Addr) (keep : Int) (kvs : List (Int × D × Int)) : HidP := fun h => ∃ d, h p = some (.ins C [("keep", .int keep), ("things", .ref d)]) ∧ h d = some (.dK (keptD kvs)) ∧ d ≠ p
/-- the attributes of hidden objects -/
def objNames : List Str := (["keep", "things", "most", "wait", "asks_by_key", "key_by_ticket", "room", "all_greats"] : List Str) ++ (["away", "to_hand", "counts", "slow", "spread", "work", "words", "poisons"] : List Str) ++ (["shy", "came", "told_again", "kinds", "tick", "flights", "waits", "store"] : List Str) ++ (["handed_anew", "all_asks", "untold", "askers", "moments", "asked", "backed", "answered"] : List Str) ++ (["windows", "plan"] : List Str)
/-- what is hidden: the law's state; an instance without attributes; objects -/
inductive HD where
  | law (n : Nat)
  | raw (C : Addr)
  | kept (C : Addr) (keep : Int) (kvs : List (Int × D × Int))
  | obj (C : Addr) (S : Addr → Dh → Prop) (ok : ∀ p h, S p h → ∃ fs : List (Str × D), h p = some (.ins C fs) ∧ ∀ f ∈ fs, f.1 ∈ objNames)
def HD.sem (p : Addr) : HD → HidP
  | .law n => LS p n
  | .raw C => fun h => h p = some (.ins C [])
  | .kept C keep kvs => KeptS p C keep kvs
  | .obj _ S _ => S p
def HD.cls : HD → Option Addr
  | .law _ => none
  | .raw C => some C
  | .kept C _ _ => some C
  | .obj C _ _ => some C
theorem HD.cls_sem {φ : HD} {C p : Addr} {m : Str} {h : Dh} (e : φ.cls = some C) (hm : objNames.contains m = false) (s : φ.sem p h) : ∃ fs, h p = some (.ins C fs) ∧ fs.lookup m = none := by
  have hm : ∀ x ∈ objNames, (m == x) = false := fun x hx => by
    cases q : m == x with
    | false => rfl
    | true => rw [List.contains_eq_any_beq] at hm; rw [List.any_eq_true.mpr ⟨x, hx, q⟩] at hm; cases hm
  have lk : ∀ (fs : List (Str × D)), (∀ f ∈ fs, f.1 ∈ objNames) → fs.lookup m = none := fun fs hf => by
    induction fs with
    | nil => rfl
    | cons f r ih =>
      obtain ⟨x, d⟩ := f
      rw [List.lookup_cons, hm x (hf _ List.mem_cons_self)]
      exact ih fun g hg => hf g (List.mem_cons_of_mem _ hg)
  cases φ with
  | law n => cases e
  | raw D => cases e; exact ⟨[], s, rfl⟩
  | kept D keep kvs => cases e; obtain ⟨d, s, _⟩ := s; exact ⟨_, s, lk _ (by simp [objNames])⟩
  | obj D S ok => cases e; obtain ⟨fs, e, hf⟩ := ok p h s; exact ⟨fs, e, lk fs hf⟩
structure Wd where
  hp : Dh
  hid : Addr → Option HD
def Wd.put (W : Wd) (a : Addr) (o : DO) : Wd := ⟨dput W.hp a o, W.hid⟩
def hset (h : Addr → Option HD) (a : Addr) (φ : HD) : Addr → Option HD := fun b => if b = a then some φ else h b
def Wd.hide (W : Wd) (a : Addr) (φ : HD) : Wd := ⟨W.hp, hset W.hid a φ⟩

/-- the tuples that may be keys: they are tracked -/
def isRefD : D → Bool
  | .ref _ => true
  | _ => false
def pairD : List D → Bool
  | [.str _, .int _] => true
  | .ref _ :: r => r.all isRefD
  | _ => false
def SqP (K : PySem.W.Frag) (H : Hp) (p : Bool) (a : Addr) (xs : List V) : Prop := SqT K H a xs ∧ (p = true → H a = some (.tup xs))
structure TupLe (K : PySem.W.Frag) (H H' : Hp) : Prop where
  q : ∀ a xs, SqT K H a xs → SqT K H' a xs
  x : ∀ a xs, H a = some (.tup xs) → H' a = some (.tup xs)
theorem TupLe.refl {K : PySem.W.Frag} {H : Hp} : TupLe K H H := ⟨fun _ _ h => h, fun _ _ h => h⟩
theorem TupLe.trans {K : PySem.W.Frag} {H H1 H2 : Hp} (a : TupLe K H H1) (b : TupLe K H1 H2) : TupLe K H H2 := ⟨fun x xs h => b.q x xs (a.q x xs h), fun x xs h => b.x x xs (a.x x xs h)⟩
theorem TupLe.sqp {K : PySem.W.Frag} {H H' : Hp} {p : Bool} {a : Addr} {xs : List V} (t : TupLe K H H') (s : SqP K H p a xs) : SqP K H' p a xs := ⟨t.q _ _ s.1, fun e => t.x _ _ (s.2 e)⟩
theorem SqP.of {K : PySem.W.Frag} {H : Hp} {p : Bool} {a : Addr} {xs : List V} (h : H a = some (.tup xs)) : SqP K H p a xs := ⟨.inl (.inl h), fun _ => h⟩

/-! ### what a value, an object stands for -/
section
variable (K : PySem.W.Frag) (H : Hp)
mutual
def repV : D → V → Prop
  | .non, v => v = .non
  | .bl b, v => v = .bl b
  | .int i, v => v = .int i
  | .str x, v => v = .str x
  | .ref a, v => v = .ref a
  | .ty n, v => v = .ty n
  | .tup ds, v => ∃ a xs, v = .ref a ∧ SqP K H (pairD ds) a xs ∧ repVs ds xs
def repVs : List D → List V → Prop
  | [], xs => xs = []
  | d :: ds, xs => ∃ x r, xs = x :: r ∧ repV d x ∧ repVs ds r
end
def repKV {κ : Type} : List (κ × D) → List (κ × V) → Prop
  | [], xs => xs = []
  | p :: ps, xs => ∃ v r, xs = (p.1, v) :: r ∧ repV K H p.2 v ∧ repKV ps r
def repO : DO → HO → Prop
  | .lst ds, o => ∃ xs, o = .lst xs ∧ repVs K H ds xs
  | .dK kvs, o => ∃ xs, o = .dK xs ∧ repKV K H kvs xs
  | .dT kvs, o => ∃ xs, o = .dT xs ∧ repKV K H kvs xs
  | .fz ob xs kvs, o => o = .frz ob (.dK xs) ∧ repKV K H kvs xs
  | .ins C fs, o => ∃ dx xs, o = .ins C dx xs ∧ repKV K H fs xs
  | .set S n, o => o = .set S n
  | .exc a C, o => o = ExcV (.ref C) a
end

section
variable {K : PySem.W.Frag} {H H' : Hp}
mutual
theorem repV_mono (t : TupLe K H H') : ∀ (d : D) {v : V}, repV K H d v → repV K H' d v
  | .non, _, h => by simpa [repV] using h
  | .bl _, _, h => by simpa [repV] using h
  | .int _, _, h => by simpa [repV] using h
  | .str _, _, h => by simpa [repV] using h
  | .ref _, _, h => by simpa [repV] using h
  | .ty _, _, h => by simpa [repV] using h
  | .tup ds, v, h => by
    simp only [repV] at h ⊢
    obtain ⟨a, xs, e, s, r⟩ := h
    exact ⟨a, xs, e, t.sqp s, repVs_mono t ds r⟩
theorem repVs_mono (t : TupLe K H H') : ∀ (ds : List D) {xs : List V}, repVs K H ds xs → repVs K H' ds xs
  | [], _, h => by simpa [repVs] using h
  | d :: ds, _, h => by
    simp only [repVs] at h ⊢
    obtain ⟨x, r, e, h1, h2⟩ := h
    exact ⟨x, r, e, repV_mono t d h1, repVs_mono t ds h2⟩
end
theorem repKV_mono {κ : Type} (t : TupLe K H H') : ∀ (ds : List (κ × D)) {xs : List (κ × V)}, repKV K H ds xs → repKV K H' ds xs
  | [], _, h => by simpa [repKV] using h
  | p :: ps, _, h => by
    simp only [repKV] at h ⊢
    obtain ⟨x, r, e, h1, h2⟩ := h
    exact ⟨x, r, e, repV_mono t p.2 h1, repKV_mono t ps h2⟩
theorem repO_mono (t : TupLe K H H') : ∀ (o : DO) {u : HO}, repO K H o u → repO K H' o u
  | .lst ds, _, ⟨xs, e, r⟩ => ⟨xs, e, repVs_mono t ds r⟩
  | .dK kvs, _, ⟨xs, e, r⟩ => ⟨xs, e, repKV_mono t kvs r⟩
  | .dT kvs, _, ⟨xs, e, r⟩ => ⟨xs, e, repKV_mono t kvs r⟩
  | .fz ob xs kvs, _, ⟨e, r⟩ => ⟨e, repKV_mono t kvs r⟩
  | .ins C fs, _, ⟨dx, xs, e, r⟩ => ⟨dx, xs, e, repKV_mono t fs r⟩
  | .set _ _, _, h => h
  | .exc _ _, _, h => h
theorem repVs_len : ∀ {ds : List D} {xs : List V}, repVs K H ds xs → ds.length = xs.length
  | [], _, h => by simp only [repVs] at h; subst h; rfl
  | d :: ds, _, h => by
    simp only [repVs] at h
    obtain ⟨x, r, e, _, h2⟩ := h
    subst e
    simp [repVs_len h2]
theorem repVs_get : ∀ {ds : List D} {xs : List V} {i : Nat} {d : D}, repVs K H ds xs → ds[i]? = some d → ∃ x, xs[i]? = some x ∧ repV K H d x
  | [], _, _, _, _, e => by simp at e
  | d0 :: ds, _, 0, d, h, e => by
    simp only [repVs] at h
    obtain ⟨x, r, rfl, h1, _⟩ := h
    simp at e; subst e
    exact ⟨x, rfl, h1⟩
  | d0 :: ds, _, i + 1, d, h, e => by
    simp only [repVs] at h
    obtain ⟨x, r, rfl, _, h2⟩ := h
    obtain ⟨y, e1, e2⟩ := repVs_get (i := i) h2 (by simpa using e)
    exact ⟨y, by simpa using e1, e2⟩
theorem repVs_append : ∀ {ds es : List D} {xs ys : List V}, repVs K H ds xs → repVs K H es ys → repVs K H (ds ++ es) (xs ++ ys)
  | [], _, _, _, h, g => by simp only [repVs] at h; subst h; exact g
  | d :: ds, _, _, _, h, g => by
    simp only [repVs] at h
    obtain ⟨x, r, rfl, h1, h2⟩ := h
    exact ⟨x, _, rfl, h1, repVs_append h2 g⟩
theorem repVs_take : ∀ {ds : List D} {xs : List V} (n : Nat), repVs K H ds xs → repVs K H (ds.take n) (xs.take n)
  | _, _, 0, _ => rfl
  | [], _, n + 1, h => by simp only [repVs] at h; subst h; rfl
  | d :: ds, _, n + 1, h => by
    simp only [repVs] at h
    obtain ⟨x, r, rfl, h1, h2⟩ := h
    exact ⟨x, _, rfl, h1, repVs_take n h2⟩
theorem repVs_drop : ∀ {ds : List D} {xs : List V} (n : Nat), repVs K H ds xs → repVs K H (ds.drop n) (xs.drop n)
  | _, _, 0, h => h
  | [], _, n + 1, h => by simp only [repVs] at h; subst h; rfl
  | d :: ds, _, n + 1, h => by
    simp only [repVs] at h
    obtain ⟨x, r, rfl, h1, h2⟩ := h
    exact repVs_drop n h2
theorem repVs_set {d : D} {x : V} (hd : repV K H d x) : ∀ {ds : List D} {xs : List V} (i : Nat), repVs K H ds xs → repVs K H (ds.set i d) (xs.set i x)
  | [], _, _, h => by simp only [repVs] at h; subst h; rfl
  | d0 :: ds, _, 0, h => by
    simp only [repVs] at h
    obtain ⟨x, r, rfl, h1, h2⟩ := h
    exact ⟨_, _, rfl, hd, h2⟩
  | d0 :: ds, _, i + 1, h => by
    simp only [repVs] at h
    obtain ⟨x, r, rfl, h1, h2⟩ := h
    exact ⟨_, _, rfl, h1, repVs_set hd i h2⟩
theorem repVs_cons {d : D} {ds : List D} {x : V} {xs : List V} (h : repV K H d x) (hs : repVs K H ds xs) : repVs K H (d :: ds) (x :: xs) := ⟨x, xs, rfl, h, hs⟩
theorem repVs_ints : ∀ (ns : List Int), repVs K H (ns.map D.int) (ns.map V.int)
  | [] => rfl
  | n :: ns => ⟨_, _, rfl, rfl, repVs_ints ns⟩
theorem repVs_strs : ∀ (ns : List Str), repVs K H (ns.map D.str) (ns.map V.str)
  | [] => rfl
  | n :: ns => ⟨_, _, rfl, rfl, repVs_strs ns⟩
theorem repVs_ints_inv : ∀ {ns : List Int} {xs : List V}, repVs K H (ns.map D.int) xs → xs = ns.map V.int
  | [], _, h => h
  | n :: ns, _, h => by
    simp only [List.map_cons, repVs, repV] at h
    obtain ⟨x, r, rfl, rfl, h2⟩ := h
    rw [repVs_ints_inv h2]; rfl
theorem repVs_strs_inv : ∀ {ns : List Str} {xs : List V}, repVs K H (ns.map D.str) xs → xs = ns.map V.str
  | [], _, h => h
  | n :: ns, _, h => by
    simp only [List.map_cons, repVs, repV] at h
    obtain ⟨x, r, rfl, rfl, h2⟩ := h
    rw [repVs_strs_inv h2]; rfl
end

/-! ### worlds -/
/-- the heap H bears the world W, its private heaps being P -/
structure RepW (K : PySem.W.Frag) (W : Wd) (P : Addr → Dh) (H : Hp) : Prop where
  vis : ∀ a o, W.hp a = some o → ∃ u, H a = some u ∧ repO K H o u
  prv : ∀ k a o, P k a = some o → ∃ u, H a = some u ∧ repO K H o u
  hid : ∀ k φ, W.hid k = some φ → φ.sem k (P k)
  non : ∀ k, W.hid k = none → ∀ a, P k a = none
  own : ∀ k φ, W.hid k = some φ → P k k ≠ none
  sep1 : ∀ k a, P k a ≠ none → W.hp a = none
  sep2 : ∀ k j a, P k a ≠ none → P j a ≠ none → k = j
def foot (W : Wd) (P : Addr → Dh) (a : Addr) : Prop := W.hp a ≠ none ∨ ∃ k, P k a ≠ none
structure Step (K : PySem.W.Frag) (W : Wd) (P : Addr → Dh) (H : Hp) (W' : Wd) (P' : Addr → Dh) (H' : Hp) : Prop where
  tup : TupLe K H H'
  keep : ∀ a o, H a = some o → ¬ foot W P a → H' a = some o
  grow : ∀ a, foot W' P' a → foot W P a ∨ H a = none
  stay : ∀ a, H' a = none → H a = none
section
variable {K : PySem.W.Frag} {W W1 W2 : Wd} {P P1 P2 : Addr → Dh} {H H1 H2 : Hp}
theorem Step.refl : Step K W P H W P H := ⟨.refl, fun _ _ h _ => h, fun _ h => .inl h, fun _ h => h⟩
theorem Step.trans (a : Step K W P H W1 P1 H1) (b : Step K W1 P1 H1 W2 P2 H2) : Step K W P H W2 P2 H2 :=
  ⟨a.tup.trans b.tup, fun x o h n => b.keep x o (a.keep x o h n) fun f => by
      rcases a.grow x f with g | g
      · exact n g
      · rw [h] at g; (cases g),
   fun x f => by
      rcases b.grow x f with g | g
      · exact a.grow x g
      · by_cases n : foot W P x
        · exact .inl n
        · cases e : H x with
          | none => exact .inr rfl
          | some o => rw [a.keep x o e n] at g; (cases g),
   fun x h => a.stay x (b.stay x h)⟩
theorem RepW.tracked (r : RepW K W P H) {a : Addr} (f : foot W P a) : H a ≠ none := by
  intro e
  rcases f with f | ⟨k, f⟩
  · cases q : W.hp a with
    | none => exact f q
    | some o => obtain ⟨u, h, _⟩ := r.vis a o q; rw [e] at h; cases h
  · cases q : P k a with
    | none => exact f q
    | some o => obtain ⟨u, h, _⟩ := r.prv k a o q; rw [e] at h; cases h
theorem RepW.fresh (r : RepW K W P H) {a : Addr} (e : H a = none) : W.hp a = none ∧ W.hid a = none ∧ ∀ k, P k a = none := by
  have h1 : ∀ k, P k a = none := fun k => by
    cases q : P k a with
    | none => rfl
    | some o => exact absurd e (r.tracked (.inr ⟨k, by rw [q]; simp⟩))
  refine ⟨?_, ?_, h1⟩
  · cases q : W.hp a with
    | none => rfl
    | some o => exact absurd e (r.tracked (.inl (by rw [q]; simp)))
  · cases q : W.hid a with
    | none => rfl
    | some φ => exact absurd (h1 a) (r.own a φ q)
theorem RepW.mono (r : RepW K W P H) (t : TupLe K H H1) (k : ∀ a, foot W P a → H1 a = H a) : RepW K W P H1 where
  vis := fun a o e => by
    obtain ⟨u, h, q⟩ := r.vis a o e
    exact ⟨u, by rw [k a (.inl (by rw [e]; simp))]; exact h, repO_mono t o q⟩
  prv := fun j a o e => by
    obtain ⟨u, h, q⟩ := r.prv j a o e
    exact ⟨u, by rw [k a (.inr ⟨j, by rw [e]; simp⟩)]; exact h, repO_mono t o q⟩
  hid := r.hid
  non := r.non
  own := r.own
  sep1 := r.sep1
  sep2 := r.sep2
theorem sqT_upd {a : Addr} {xs : List V} {p : Addr} {o : HO} (h : SqT K H a xs) (n : H p = none ∨ ∃ u, H p = some u ∧ (∀ zs, u ≠ .tup zs) ∧ ∀ b zs, u ≠ .frz b (.tup zs)) : SqT K (upd H p o) a xs := by
  rcases h with (h | ⟨b, h⟩) | h
  · refine .inl (.inl ?_)
    rw [upd_ne]; exact h
    rintro rfl
    rcases n with n | ⟨u, n, n1, _⟩
    · rw [h] at n; cases n
    · rw [h] at n; cases n; exact n1 _ rfl
  · refine .inl (.inr ⟨b, ?_⟩)
    rw [upd_ne]; exact h
    rintro rfl
    rcases n with n | ⟨u, n, _, n2⟩
    · rw [h] at n; cases n
    · rw [h] at n; cases n; exact n2 _ _ rfl
  · exact .inr h
theorem tupLe_upd {p : Addr} {o : HO} (n : H p = none ∨ ∃ u, H p = some u ∧ (∀ zs, u ≠ .tup zs) ∧ ∀ b zs, u ≠ .frz b (.tup zs)) : TupLe K H (upd H p o) := ⟨fun _ _ h => sqT_upd h n, fun a xs h => by
  rw [upd_ne]; exact h
  rintro rfl
  rcases n with n | ⟨u, n, n1, _⟩
  · rw [h] at n; cases n
  · rw [h] at n; cases n; exact n1 _ rfl⟩
/-- something new that no world speaks of -/
theorem none_of_upd {p a : Addr} {o : HO} (h : upd H p o a = none) : H a = none := by
  by_cases e : a = p
  · subst e; rw [upd_same] at h; cases h
  · rw [upd_ne e] at h; exact h
theorem Step.new {p : Addr} {o : HO} (hp : H p = none) : Step K W P H W P (upd H p o) :=
  ⟨tupLe_upd (.inl hp), fun a u h _ => by rw [upd_ne (ne_of_none h hp)]; exact h, fun _ f => .inl f, fun _ h => none_of_upd h⟩
theorem RepW.new {p : Addr} {o : HO} (r : RepW K W P H) (hp : H p = none) : RepW K W P (upd H p o) :=
  r.mono (tupLe_upd (.inl hp)) fun a f => upd_ne fun e => r.tracked f (by rw [e]; exact hp)
/-- a new cell -/
theorem Step.put {p : Addr} {o : HO} {d : DO} (hp : H p = none) : Step K W P H (W.put p d) P (upd H p o) :=
  ⟨tupLe_upd (.inl hp), fun a u h _ => by rw [upd_ne (ne_of_none h hp)]; exact h, fun a f => by
    by_cases e : a = p
    · subst e; exact .inr hp
    · refine .inl ?_
      rcases f with f | f
      · exact .inl (by rw [show (W.put p d).hp a = W.hp a from dput_ne e] at f; exact f)
      · exact .inr f, fun _ h => none_of_upd h⟩
theorem RepW.put {p : Addr} {o : HO} {d : DO} (r : RepW K W P H) (hp : H p = none) (ho : repO K (upd H p o) d o) : RepW K (W.put p d) P (upd H p o) := by
  have r' := r.new (o := o) hp
  obtain ⟨f1, f2, f3⟩ := r.fresh hp
  refine ⟨fun a u e => ?_, r'.prv, r.hid, r.non, r.own, fun k a h => ?_, r.sep2⟩
  · by_cases q : a = p
    · subst q
      rw [show (W.put a d).hp a = some d from dput_same] at e
      cases e
      exact ⟨o, upd_same, ho⟩
    · rw [show (W.put p d).hp a = W.hp a from dput_ne q] at e
      exact r'.vis a u e
  · have q : a ≠ p := by rintro rfl; exact h (f3 k)
    show dput W.hp p d a = none
    rw [dput_ne q]; exact r.sep1 k a h
def MutO : HO → Prop
  | .tup _ => False
  | .frz _ _ => False
  | _ => True
theorem repO_mut {o : DO} {u : HO} (h : repO K H o u) : (∀ zs, u ≠ .tup zs) ∧ ∀ b zs, u ≠ .frz b (.tup zs) := by
  cases o with
  | lst ds => obtain ⟨xs, rfl, _⟩ := h; exact ⟨fun _ z => (by cases z), fun _ _ z => (by cases z)⟩
  | dK ds => obtain ⟨xs, rfl, _⟩ := h; exact ⟨fun _ z => (by cases z), fun _ _ z => (by cases z)⟩
  | dT ds => obtain ⟨xs, rfl, _⟩ := h; exact ⟨fun _ z => (by cases z), fun _ _ z => (by cases z)⟩
  | fz ob xs kvs => obtain ⟨rfl, _⟩ := h; exact ⟨fun _ z => (by cases z), fun _ _ z => (by cases z)⟩
  | ins C fs => obtain ⟨dx, xs, rfl, _⟩ := h; exact ⟨fun _ z => (by cases z), fun _ _ z => (by cases z)⟩
  | exc a C => obtain rfl := h; exact ⟨fun _ z => (by cases z), fun _ _ z => (by cases z)⟩
  | set S n => obtain rfl := h; exact ⟨fun _ z => (by cases z), fun _ _ z => (by cases z)⟩
/-- a cell is written -/
theorem RepW.sq_write {p : Addr} {o : HO} {d0 : DO} (r : RepW K W P H) (hp : W.hp p = some d0) : TupLe K H (upd H p o) := by
  obtain ⟨u, e, q⟩ := r.vis p d0 hp
  obtain ⟨n1, n2⟩ := repO_mut q
  exact tupLe_upd (.inr ⟨u, e, n1, n2⟩)
theorem Step.write {p : Addr} {o : HO} {d d0 : DO} (r : RepW K W P H) (hp : W.hp p = some d0) : Step K W P H (W.put p d) P (upd H p o) :=
  ⟨r.sq_write hp, fun a u h n => by rw [upd_ne]; exact h; rintro rfl; exact n (.inl (by rw [hp]; simp)), fun a f => by
    by_cases e : a = p
    · subst e; exact .inl (.inl (by rw [hp]; simp))
    · refine .inl ?_
      rcases f with f | f
      · exact .inl (by rw [show (W.put p d).hp a = W.hp a from dput_ne e] at f; exact f)
      · exact .inr f, fun _ h => none_of_upd h⟩
theorem RepW.write {p : Addr} {o : HO} {d d0 : DO} (r : RepW K W P H) (hp : W.hp p = some d0) (ho : repO K (upd H p o) d o) : RepW K (W.put p d) P (upd H p o) := by
  have t := r.sq_write (o := o) hp
  refine ⟨fun a u e => ?_, fun k a u e => ?_, r.hid, r.non, r.own, fun k a h => ?_, r.sep2⟩
  · by_cases q : a = p
    · subst q
      rw [show (W.put a d).hp a = some d from dput_same] at e
      cases e
      exact ⟨o, upd_same, ho⟩
    · rw [show (W.put p d).hp a = W.hp a from dput_ne q] at e
      obtain ⟨v, h, z⟩ := r.vis a u e
      exact ⟨v, by rw [upd_ne q]; exact h, repO_mono t u z⟩
  · have q : a ≠ p := by
      rintro rfl
      have := r.sep1 k a (by rw [e]; simp)
      rw [hp] at this; cases this
    obtain ⟨v, h, z⟩ := r.prv k a u e
    exact ⟨v, by rw [upd_ne q]; exact h, repO_mono t u z⟩
  · have q : a ≠ p := by
      rintro rfl
      have := r.sep1 k a h
      rw [hp] at this; cases this
    show dput W.hp p d a = none
    rw [dput_ne q]; exact r.sep1 k a h
/-- forgetting cells -/
structure Wk (W W' : Wd) : Prop where
  hp : ∀ a o, W'.hp a = some o → W.hp a = some o
  hid : W'.hid = W.hid
theorem Wk.refl : Wk W W := ⟨fun _ _ h => h, rfl⟩
theorem Wk.trans (a : Wk W W1) (b : Wk W1 W2) : Wk W W2 := ⟨fun x o h => a.hp x o (b.hp x o h), b.hid.trans a.hid⟩
theorem Wk.put {p : Addr} {o : DO} (h : W.hp p = none) : Wk (W.put p o) W := ⟨fun a u e => by
  show dput W.hp p o a = some u
  rw [dput_ne]; exact e
  rintro rfl; rw [h] at e; (cases e), rfl⟩
theorem RepW.wk (r : RepW K W P H) (k : Wk W W1) : RepW K W1 P H :=
  ⟨fun a o e => r.vis a o (k.hp a o e), r.prv, fun j φ e => r.hid j φ (by rw [k.hid] at e; exact e), fun j e => r.non j (by rw [k.hid] at e; exact e), fun j φ e => r.own j φ (by rw [k.hid] at e; exact e), fun j a h => by
    cases q : W1.hp a with
    | none => rfl
    | some o => have := r.sep1 j a h; rw [k.hp a o q] at this; (cases this), r.sep2⟩
theorem foot_wk (k : Wk W W1) {a : Addr} (f : foot W1 P a) : foot W P a := by
  rcases f with f | f
  · refine .inl fun z => f ?_
    cases q : W1.hp a with
    | none => rfl
    | some o => rw [k.hp a o q] at z; cases z
  · exact .inr f
theorem Step.wk (k : Wk W W1) : Step K W P H W1 P H := ⟨.refl, fun _ _ h _ => h, fun _ f => .inl (foot_wk k f), fun _ h => h⟩
end
end DL

namespace DL
open PySem L2

/-! ### readings over data -/
abbrev Sd := List (Option D)
abbrev DK := D → Wd → Prop
abbrev TED := Sd → Wd → DK → Prop
abbrev TTD := Sd → Wd → (Bool → Wd → Prop) → Prop
abbrev TAD := Sd → Wd → (List D → Wd → Prop) → Prop
abbrev DR1 := D → Wd → DK → Prop
abbrev DR2 := D → D → Wd → DK → Prop
abbrev DCR := List D → Wd → DK → Prop
structure EndsD where
  nx : Sd → Wd → Prop
  rt : DK
  bk : Sd → Wd → Prop := fun _ _ => False
  ct : Sd → Wd → Prop := fun _ _ => False
abbrev TSD := EndsD → Sd → Wd → Prop
/-- what is wanted of an exception: its class, its dict, the slots, the world -/
abbrev WXD := Value → Option Addr → Sd → Wd → Prop
abbrev X0 : WXD := fun _ _ _ _ => False
abbrev Wx0 : WX := fun _ _ _ _ => False

def RepS (K : PySem.W.Frag) (H : Hp) (δ : Sd) (σ : St) : Prop := δ.length = σ.length ∧ ∀ (i : Nat) (d : D), δ[i]? = some (some d) → ∃ v, σ[i]? = some (some v) ∧ repV K H d v
section
variable {K : PySem.W.Frag} {W W' : Wd} {P P' : Addr → Dh} {H H' : Hp} {δ : Sd} {σ : St}
theorem RepS.step (r : RepS K H δ σ) (s : Step K W P H W' P' H') : RepS K H' δ σ := ⟨r.1, fun i d e => by
  obtain ⟨v, h, q⟩ := r.2 i d e
  exact ⟨v, h, repV_mono s.tup d q⟩⟩
theorem repV_step {d : D} {v : V} (r : repV K H d v) (s : Step K W P H W' P' H') : repV K H' d v := repV_mono s.tup d r
theorem repVs_step {d : List D} {v : List V} (r : repVs K H d v) (s : Step K W P H W' P' H') : repVs K H' d v := repVs_mono s.tup d r
theorem RepS.set (r : RepS K H δ σ) {d : D} {v : V} (q : repV K H d v) (i : Nat) : RepS K H (δ.set i (some d)) (σ.set i (some v)) := by
  refine ⟨by simp [r.1], fun j e h => ?_⟩
  by_cases hj : i = j
  · subst hj
    by_cases hl : i < δ.length
    · rw [List.getElem?_set_self hl] at h
      cases h
      exact ⟨v, by rw [List.getElem?_set_self (by rw [← r.1]; exact hl)], q⟩
    · rw [List.getElem?_eq_none (by simpa using hl)] at h; cases h
  · rw [List.getElem?_set_ne hj] at h
    obtain ⟨w, h1, h2⟩ := r.2 j e h
    exact ⟨w, by rw [List.getElem?_set_ne hj]; exact h1, h2⟩
theorem RepS.wipe (r : RepS K H δ σ) (i : Nat) : RepS K H (δ.set i none) (σ.set i none) := by
  refine ⟨by simp [r.1], fun j e h => ?_⟩
  by_cases hj : i = j
  · subst hj
    by_cases hl : i < δ.length
    · rw [List.getElem?_set_self hl] at h; cases h
    · rw [List.getElem?_eq_none (by simpa using hl)] at h; cases h
  · rw [List.getElem?_set_ne hj] at h
    obtain ⟨w, h1, h2⟩ := r.2 j e h
    exact ⟨w, by rw [List.getElem?_set_ne hj]; exact h1, h2⟩
end

/-- an exception's arrow from data to values -/
def XArr (K : PySem.W.Frag) (W : Wd) (P : Addr → Dh) (H : Hp) (Ed : WXD) (Ex : WX) : Prop :=
  ∀ c dx δ' W' P' σ' H', Step K W P H W' P' H' → RepS K H' δ' σ' → RepW K W' P' H' → Ed c dx δ' W' → Ex c dx σ' H'
theorem XArr.after {K : PySem.W.Frag} {W W' : Wd} {P P' : Addr → Dh} {H H' : Hp} {Ed : WXD} {Ex : WX} (a : XArr K W P H Ed Ex) (s : Step K W P H W' P' H') : XArr K W' P' H' Ed Ex :=
  fun c dx δ' W2 P2 σ' H2 s2 => a c dx δ' W2 P2 σ' H2 (s.trans s2)
theorem xarr0 {K : PySem.W.Frag} {W : Wd} {P : Addr → Dh} {H : Hp} {Ex : WX} : XArr K W P H X0 Ex := fun _ _ _ _ _ _ _ _ _ _ h => h.elim
/-- a value's arrow -/
def Arr (K : PySem.W.Frag) (W : Wd) (P : Addr → Dh) (H : Hp) (q : DK) (Q : VK) : Prop :=
  ∀ d W' P' v H', Step K W P H W' P' H' → repV K H' d v → RepW K W' P' H' → q d W' → Q v H'
theorem Arr.after {K : PySem.W.Frag} {W W' : Wd} {P P' : Addr → Dh} {H H' : Hp} {q : DK} {Q : VK} (a : Arr K W P H q Q) (s : Step K W P H W' P' H') : Arr K W' P' H' q Q :=
  fun d W2 P2 v H2 s2 => a d W2 P2 v H2 (s.trans s2)
def ArrB (K : PySem.W.Frag) (W : Wd) (P : Addr → Dh) (H : Hp) (q : Bool → Wd → Prop) (Q : Bool → Hp → Prop) : Prop :=
  ∀ d W' P' H', Step K W P H W' P' H' → RepW K W' P' H' → q d W' → Q d H'
def ArrA (K : PySem.W.Frag) (W : Wd) (P : Addr → Dh) (H : Hp) (q : List D → Wd → Prop) (Q : List V → Hp → Prop) : Prop :=
  ∀ d W' P' v H', Step K W P H W' P' H' → repVs K H' d v → RepW K W' P' H' → q d W' → Q v H'
/-- a fresh list that nobody else has -/
def ArrL (K : PySem.W.Frag) (W : Wd) (P : Addr → Dh) (H : Hp) (q : List D → Wd → Prop) (Q : VK) : Prop :=
  ∀ ds W' P' a xs H', Step K W P H W' P' H' → H a = none → H' a = some (.lst xs) → ¬ foot W' P' a → repVs K H' ds xs → RepW K W' P' H' → q ds W' → Q (.ref a) H'
structure ArrS (K : PySem.W.Frag) (W : Wd) (P : Addr → Dh) (H : Hp) (E : EndsD) (Dn : Ends) : Prop where
  nx : ∀ δ' W' P' σ' H', Step K W P H W' P' H' → RepS K H' δ' σ' → RepW K W' P' H' → E.nx δ' W' → Dn.nx σ' H'
  bk : ∀ δ' W' P' σ' H', Step K W P H W' P' H' → RepS K H' δ' σ' → RepW K W' P' H' → E.bk δ' W' → Dn.bk σ' H'
  ct : ∀ δ' W' P' σ' H', Step K W P H W' P' H' → RepS K H' δ' σ' → RepW K W' P' H' → E.ct δ' W' → Dn.ct σ' H'
  rt : Arr K W P H E.rt Dn.rt
theorem ArrS.after {K : PySem.W.Frag} {W W' : Wd} {P P' : Addr → Dh} {H H' : Hp} {E : EndsD} {Dn : Ends} (a : ArrS K W P H E Dn) (s : Step K W P H W' P' H') : ArrS K W' P' H' E Dn :=
  ⟨fun δ' W2 P2 σ' H2 s2 => a.nx δ' W2 P2 σ' H2 (s.trans s2), fun δ' W2 P2 σ' H2 s2 => a.bk δ' W2 P2 σ' H2 (s.trans s2), fun δ' W2 P2 σ' H2 s2 => a.ct δ' W2 P2 σ' H2 (s.trans s2), a.rt.after s⟩

/-! ### a data reading as a reading -/
def upE (K : PySem.W.Frag) (Ed : WXD) (Ex : WX) (t : TED) : TE := fun σ H Q => ∃ δ W P q, RepS K H δ σ ∧ RepW K W P H ∧ XArr K W P H Ed Ex ∧ t δ W q ∧ Arr K W P H q Q
def upT (K : PySem.W.Frag) (Ed : WXD) (Ex : WX) (t : TTD) : TT := fun σ H Q => ∃ δ W P q, RepS K H δ σ ∧ RepW K W P H ∧ XArr K W P H Ed Ex ∧ t δ W q ∧ ArrB K W P H q Q
def upA (K : PySem.W.Frag) (Ed : WXD) (Ex : WX) (t : TAD) : TA := fun σ H Q => ∃ δ W P q, RepS K H δ σ ∧ RepW K W P H ∧ XArr K W P H Ed Ex ∧ t δ W q ∧ ArrA K W P H q Q
def upL (K : PySem.W.Frag) (Ed : WXD) (Ex : WX) (t : TAD) : TE := fun σ H Q => ∃ δ W P q, RepS K H δ σ ∧ RepW K W P H ∧ XArr K W P H Ed Ex ∧ t δ W q ∧ ArrL K W P H q Q
def upS (K : PySem.W.Frag) (Ed : WXD) (Ex : WX) (t : TSD) : TS := fun Dn σ H => ∃ δ W P E, RepS K H δ σ ∧ RepW K W P H ∧ XArr K W P H Ed Ex ∧ t E δ W ∧ ArrS K W P H E Dn
def up2 (K : PySem.W.Frag) (r : DR2) : R2 := fun x y H Q => ∃ d e W P q, repV K H d x ∧ repV K H e y ∧ RepW K W P H ∧ r d e W q ∧ Arr K W P H q Q
def up1 (K : PySem.W.Frag) (r : DR1) : V → Hp → VK → Prop := fun x H Q => ∃ d W P q, repV K H d x ∧ RepW K W P H ∧ r d W q ∧ Arr K W P H q Q
def upC (K : PySem.W.Frag) (r : DCR) : List V → Hp → VK → Prop := fun xs H Q => ∃ ds W P q, repVs K H ds xs ∧ RepW K W P H ∧ r ds W q ∧ Arr K W P H q Q

theorem _root_.L2.PE.imp {X : Cx} {e : Expr} {t t' : TE} (h : PE X e t) (i : ∀ σ H Q, t' σ H Q → t σ H Q) : PE X e t' := ⟨fun pins s σ H Q I hw => h.run pins s σ H Q I (i _ _ _ hw)⟩
theorem _root_.L2.PT.imp {X : Cx} {e : Expr} {t t' : TT} (h : PT X e t) (i : ∀ σ H Q, t' σ H Q → t σ H Q) : PT X e t' := ⟨fun pins s σ H Q I hw => h.run pins s σ H Q I (i _ _ _ hw)⟩
theorem _root_.L2.PW.imp {X : Cx} {e : Expr} {t t' : TT} (h : PW X e t) (i : ∀ σ H Q, t' σ H Q → t σ H Q) : PW X e t' := ⟨fun w pins s σ H Q I hw => h.run w pins s σ H Q I (i _ _ _ hw)⟩
theorem _root_.L2.PA.imp {X : Cx} {e : List Expr} {t t' : TA} (h : PA X e t) (i : ∀ σ H Q, t' σ H Q → t σ H Q) : PA X e t' := ⟨fun pos pins s σ H Q I hw => h.run pos pins s σ H Q I (i _ _ _ hw)⟩
theorem _root_.L2.PS.imp {X : Cx} {e : Stmt} {t t' : TS} (h : PS X e t) (i : ∀ D σ H, t' D σ H → t D σ H) : PS X e t' := ⟨fun pins s σ H D I hw => h.run pins s σ H D I (i _ _ _ hw)⟩
theorem _root_.L2.PSs.imp {X : Cx} {e : List Stmt} {t t' : TS} (h : PSs X e t) (i : ∀ D σ H, t' D σ H → t D σ H) : PSs X e t' := ⟨fun pins s σ H D I hw => h.run pins s σ H D I (i _ _ _ hw)⟩
/-- an operation by values, weakened -/
theorem _root_.L2.OpR.imp {X : Cx} {f : Value → Value → Sem Value} {r r' : R2} (h : OpR X f r) (i : ∀ x y H Q, r' x y H Q → r x y H Q) : OpR X f r' := fun pins s σ H x y v u Q I rx ry q => h pins s σ H x y v u Q I rx ry (i _ _ _ _ q)
theorem _root_.L2.CallR.imp {X : Cx} {f : Value} {r r' : List V → Hp → VK → Prop} (h : CallR X f r) (i : ∀ x H Q, r' x H Q → r x H Q) : CallR X f r' := fun pins s σ H x us Q I rx q => h pins s σ H x us Q I rx (i _ _ _ q)
theorem _root_.L2.IxR.imp {X : Cx} {r r' : R2} (h : IxR X r) (i : ∀ x y H Q, r' x y H Q → r x y H Q) : IxR X r' := fun value slice pins s σ H x y v u Q I rx ry q => h value slice pins s σ H x y v u Q I rx ry (i _ _ _ _ q)

/-! ### names, constants -/
def dVar (i : Nat) : TED := fun δ W q => match δ[i]? with
  | some (some d) => q d W
  | _ => False
def dC (d : D) : TED := fun _ W q => q d W
section
variable {X : Cx} {Ed : WXD} {Ex : WX} {e a b c : Expr} {es : List Expr} {ta tb tc : TED} {tA : TAD} {pos : Pos}
theorem up_var {K : PySem.W.Frag} {i : Nat} {σ : St} {H : Hp} {Q : VK} (h : upE K Ed Ex (dVar i) σ H Q) : tVar i σ H Q := by
  obtain ⟨δ, W, P, q, rs, rw, _, h, k⟩ := h
  unfold dVar at h
  split at h
  · rename_i d e
    obtain ⟨v, h1, h2⟩ := rs.2 i d e
    exact ⟨v, h1, k d W P v H .refl h2 rw h⟩
  · exact h.elim
theorem dv (i : Nat) {x : Str} (hN : X.N[i]? = some x := by rfl) (hv : Vis X.env.scope x := by first | exact Or.inl rfl | exact Or.inr (Or.inl rfl) | exact Or.inr (Or.inr rfl)) (hd : (x == ("__debug__" : Str)) = false := by decide)
    (hcd : (x == ("__classdict__" : Str)) = false := by decide) : PE X (.Name x pos) (upE X.K Ed Ex (dVar i)) := (pe_var hN hv hd hcd).imp fun _ _ _ h => up_var h
theorem up_c {K : PySem.W.Frag} {d : D} {v : V} (r : ∀ H, repV K H d v) {σ : St} {H : Hp} {Q : VK} (h : upE K Ed Ex (dC d) σ H Q) : tC v σ H Q := by
  obtain ⟨δ, W, P, q, rs, rw, _, h, k⟩ := h
  exact k d W P v H .refl (r H) rw h
theorem de_int {i j} : PE X (.Constant (.int i) j pos) (upE X.K Ed Ex (dC (.int i))) := pe_int.imp fun _ _ _ h => up_c (d := .int i) (v := .int i) (fun _ => rfl) h
theorem de_bl {i j} : PE X (.Constant (.bool i) j pos) (upE X.K Ed Ex (dC (.bl i))) := pe_bl.imp fun _ _ _ h => up_c (d := .bl i) (v := .bl i) (fun _ => rfl) h
theorem de_non {j} : PE X (.Constant .none j pos) (upE X.K Ed Ex (dC .non)) := pe_non.imp fun _ _ _ h => up_c (d := .non) (v := .non) (fun _ => rfl) h
theorem de_str {i j} : PE X (.Constant (.str i) j pos) (upE X.K Ed Ex (dC (.str i))) := pe_str.imp fun _ _ _ h => up_c (d := .str i) (v := .str i) (fun _ => rfl) h
/-- a module's constant, class, def as a value -/
theorem de_glob {x : Str} {d : D} {v : V} {u : Value} (hg : Gl X x) (hm : X.mg x = some u) (r : RelV v u) (rd : ∀ H, repV X.K H d v) (hd : (x == ("__debug__" : Str)) = false := by decide) : PE X (.Name x pos) (upE X.K Ed Ex (dC d)) :=
  (pe_glob hg hm r hd).imp fun _ _ _ h => up_c rd h
theorem de_bltn {x : Str} {d : D} {v : V} {u : Value} (hg : Gl X x) (hm : X.mg x = none) (hv : bootBuiltins x = some u) (r : RelV v u) (rd : ∀ H, repV X.K H d v) (hn : x ≠ "__name__" := by decide) (hd : (x == ("__debug__" : Str)) = false := by decide) : PE X (.Name x pos) (upE X.K Ed Ex (dC d)) :=
  (pe_bltn hg hm hv r hn hd).imp fun _ _ _ h => up_c rd h

/-! ### operators -/
def dOp (r : DR2) (ta tb : TED) : TED := fun δ W q => ta δ W fun x W1 => tb δ W1 fun y W2 => r x y W2 q
def dUn (r : DR1) (ta : TED) : TED := fun δ W q => ta δ W fun x W1 => r x W1 q
theorem up_op {K : PySem.W.Frag} {r : DR2} {σ : St} {H : Hp} {Q : VK} (h : upE K Ed Ex (dOp r ta tb) σ H Q) : tOp (up2 K r) (upE K Ed Ex ta) (upE K Ed Ex tb) σ H Q := by
  obtain ⟨δ, W, P, q, rs, rw, x, h, k⟩ := h
  refine ⟨δ, W, P, _, rs, rw, x, h, fun d W1 P1 v H1 s1 r1 rw1 h1 => ?_⟩
  refine ⟨δ, W1, P1, _, rs.step s1, rw1, x.after s1, h1, fun e W2 P2 u H2 s2 r2 rw2 h2 => ?_⟩
  exact ⟨d, e, W2, P2, q, repV_step r1 s2, r2, rw2, h2, k.after (s1.trans s2)⟩
theorem up_un {K : PySem.W.Frag} {r : DR1} {σ : St} {H : Hp} {Q : VK} (h : upE K Ed Ex (dUn r ta) σ H Q) : tUn (up1 K r) (upE K Ed Ex ta) σ H Q := by
  obtain ⟨δ, W, P, q, rs, rw, x, h, k⟩ := h
  refine ⟨δ, W, P, _, rs, rw, x, h, fun d W1 P1 v H1 s1 r1 rw1 h1 => ?_⟩
  exact ⟨d, W1, P1, q, r1, rw1, h1, k.after s1⟩
abbrev DOp (X : Cx) (f : Value → Value → Sem Value) (r : DR2) : Prop := OpR X f (up2 X.K r)
theorem de_op {op : Operator} {r : DR2} (ho : DOp X (binaryOp op) r) (ha : PE X a (upE X.K Ed Ex ta)) (hb : PE X b (upE X.K Ed Ex tb)) : PE X (.BinOp a op b pos) (upE X.K Ed Ex (dOp r ta tb)) :=
  (pe_op ho ha hb).imp fun _ _ _ h => up_op h
theorem de_un {op : UnaryOp} {r : DR1} (ho : UnR X (unaryOp op) (up1 X.K r)) (ha : PE X a (upE X.K Ed Ex ta)) : PE X (.UnaryOp op a pos) (upE X.K Ed Ex (dUn r ta)) :=
  (pe_un ho ha).imp fun _ _ _ h => up_un h
theorem de_cmp {op : CmpOp} {r : DR2} (ho : DOp X (compareOp op) r) (ha : PE X a (upE X.K Ed Ex ta)) (hb : PE X b (upE X.K Ed Ex tb)) (hm : behindInMarks op b = false := by first | exact nomark _ | rfl) : PE X (.Compare a [op] [b] pos) (upE X.K Ed Ex (dOp r ta tb)) :=
  (pe_cmpR ho ha hb hm).imp fun _ _ _ h => up_op h
/-- a value that is a truth, as a test -/
def dTest (t : TED) : TTD := fun δ W q => t δ W fun x W1 => match x with
  | .bl k => q k W1
  | _ => False
theorem up_test {K : PySem.W.Frag} {t : TE} {td : TED} {σ : St} {H : Hp} {Q : Bool → Hp → Prop} (i : ∀ Q, upE K Ed Ex td σ H Q → t σ H Q) (h : upT K Ed Ex (dTest td) σ H Q) : tTest t σ H Q := by
  obtain ⟨δ, W, P, q, rs, rw, x, h, k⟩ := h
  refine i _ ⟨δ, W, P, _, rs, rw, x, h, fun d W1 P1 v H1 s1 r1 rw1 h1 => ?_⟩
  cases d with
  | bl z => exact ⟨z, r1, k z W1 P1 H1 s1 rw1 h1⟩
  | _ => exact h1.elim
theorem dt_cmp {op : CmpOp} {r : DR2} (ho : DOp X (compareOp op) r) (ha : PE X a (upE X.K Ed Ex ta)) (hb : PE X b (upE X.K Ed Ex tb)) (hm : behindInMarks op b = false := by first | exact nomark _ | rfl) : PT X (.Compare a [op] [b] pos) (upT X.K Ed Ex (dTest (dOp r ta tb))) :=
  (pt_cmpR ho ha hb hm).imp fun _ _ _ h => up_test (fun _ h => up_op h) h
theorem dt_val (h : PE X e (upE X.K Ed Ex ta)) (he : ∀ whole, isTrue e X.env whole = (do let v ← whole; standAt e.pos; holding [v] (truthy v)) := by intro _; rfl) : PT X e (upT X.K Ed Ex (dTest ta)) :=
  (pt_val h he).imp fun _ _ _ h => by
    obtain ⟨k, h⟩ := id (show ∃ _ : True, upT X.K Ed Ex (dTest ta) _ _ _ from ⟨True.intro, h⟩)
    exact up_test (fun _ z => z) h

/-! ### chains, and, or, not -/
def dChain (r r' : DR2) (ta tb tc : TED) : TED := fun δ W q => ta δ W fun x W1 => tb δ W1 fun y W2 => r x y W2 fun z W3 => match z with
  | .bl true => tc δ W3 fun w W4 => r' y w W4 q
  | .bl false => q (.bl false) W3
  | _ => False
end
end DL

namespace DL
open PySem L2
section
variable {X : Cx} {Ed : WXD} {Ex : WX} {e a b c : Expr} {es rest : List Expr} {ta tb tc : TED} {tA : TAD} {t1 t2 : TTD} {pos : Pos}

theorem up_chain {K : PySem.W.Frag} {r r' : DR2} {σ : St} {H : Hp} {Q : VK} (h : upE K Ed Ex (dChain r r' ta tb tc) σ H Q) : tChain (up2 K r) (up2 K r') (upE K Ed Ex ta) (upE K Ed Ex tb) (upE K Ed Ex tc) σ H Q := by
  obtain ⟨δ, W, P, q, rs, rw, x, h, k⟩ := h
  refine ⟨δ, W, P, _, rs, rw, x, h, fun d W1 P1 v H1 s1 r1 rw1 h1 => ?_⟩
  refine ⟨δ, W1, P1, _, rs.step s1, rw1, x.after s1, h1, fun e W2 P2 u H2 s2 r2 rw2 h2 => ?_⟩
  refine ⟨d, e, W2, P2, _, repV_step r1 s2, r2, rw2, h2, fun z W3 P3 w H3 s3 r3 rw3 h3 => ?_⟩
  have s03 := (s1.trans s2).trans s3
  cases z with
  | bl z =>
    refine ⟨z, r3, ?_⟩
    cases z with
    | false => exact iteF (k (.bl false) W3 P3 _ H3 s03 rfl rw3 h3)
    | true =>
      refine iteT ?_
      refine ⟨δ, W3, P3, _, rs.step s03, rw3, x.after s03, h3, fun f W4 P4 y H4 s4 r4 rw4 h4 => ?_⟩
      exact ⟨e, f, W4, P4, q, repV_step r2 (s3.trans s4), r4, rw4, h4, k.after (s03.trans s4)⟩
  | _ => exact h3.elim
theorem de_chain {op op' : CmpOp} {r r' : DR2} (ho : DOp X (compareOp op) r) (ho' : DOp X (compareOp op') r') (ha : PE X a (upE X.K Ed Ex ta)) (hb : PE X b (upE X.K Ed Ex tb)) (hc : PE X c (upE X.K Ed Ex tc))
    (hm : lastMarks [op, op'] [b, c] = false := by with_unfolding_all rfl) : PE X (.Compare a [op, op'] [b, c] pos) (upE X.K Ed Ex (dChain r r' ta tb tc)) := (pe_chain ho ho' ha hb hc hm).imp fun _ _ _ h => up_chain h
theorem dt_chain {op op' : CmpOp} {r r' : DR2} (ho : DOp X (compareOp op) r) (ho' : DOp X (compareOp op') r') (ha : PE X a (upE X.K Ed Ex ta)) (hb : PE X b (upE X.K Ed Ex tb)) (hc : PE X c (upE X.K Ed Ex tc))
    (hm : lastMarks [op, op'] [b, c] = false := by with_unfolding_all rfl) : PT X (.Compare a [op, op'] [b, c] pos) (upT X.K Ed Ex (dTest (dChain r r' ta tb tc))) :=
  (pt_chain ho ho' ha hb hc hm).imp fun _ _ _ h => up_test (fun _ h => up_chain h) h

def dAnd (t u : TTD) : TTD := fun δ W q => t δ W fun c W1 => if c = true then u δ W1 q else q false W1
def dOr (t u : TTD) : TTD := fun δ W q => t δ W fun c W1 => if c = true then q true W1 else u δ W1 q
def dNot (t : TTD) : TTD := fun δ W q => t δ W fun c W1 => q (!c) W1
theorem up_and {K : PySem.W.Frag} {σ : St} {H : Hp} {Q : Bool → Hp → Prop} (h : upT K Ed Ex (dAnd t1 t2) σ H Q) : tAnd (upT K Ed Ex t1) (upT K Ed Ex t2) σ H Q := by
  obtain ⟨δ, W, P, q, rs, rw, x, h, k⟩ := h
  refine ⟨δ, W, P, _, rs, rw, x, h, fun d W1 P1 H1 s1 rw1 h1 => ?_⟩
  cases d with
  | true => rw [if_pos rfl] at h1; exact iteT ⟨δ, W1, P1, q, rs.step s1, rw1, x.after s1, h1, fun d W2 P2 H2 s2 => k d W2 P2 H2 (s1.trans s2)⟩
  | false => rw [if_neg Bool.false_ne_true] at h1; exact iteF (k _ W1 P1 H1 s1 rw1 h1)
theorem up_or {K : PySem.W.Frag} {σ : St} {H : Hp} {Q : Bool → Hp → Prop} (h : upT K Ed Ex (dOr t1 t2) σ H Q) : tOr (upT K Ed Ex t1) (upT K Ed Ex t2) σ H Q := by
  obtain ⟨δ, W, P, q, rs, rw, x, h, k⟩ := h
  refine ⟨δ, W, P, _, rs, rw, x, h, fun d W1 P1 H1 s1 rw1 h1 => ?_⟩
  cases d with
  | true => rw [if_pos rfl] at h1; exact iteT (k _ W1 P1 H1 s1 rw1 h1)
  | false => rw [if_neg Bool.false_ne_true] at h1; exact iteF ⟨δ, W1, P1, q, rs.step s1, rw1, x.after s1, h1, fun d W2 P2 H2 s2 => k d W2 P2 H2 (s1.trans s2)⟩
theorem dw_and1 (ha : PT X a (upT X.K Ed Ex t1)) : PW X (.BoolOp .And [a] pos) (upT X.K Ed Ex t1) := pw_and1 ha
theorem dw_or1 (ha : PT X a (upT X.K Ed Ex t1)) : PW X (.BoolOp .Or [a] pos) (upT X.K Ed Ex t1) := pw_or1 ha
theorem dw_and (ha : PT X a (upT X.K Ed Ex t1)) (hb : PW X (.BoolOp .And (b :: rest) pos) (upT X.K Ed Ex t2)) : PW X (.BoolOp .And (a :: b :: rest) pos) (upT X.K Ed Ex (dAnd t1 t2)) := (pw_and ha hb).imp fun _ _ _ h => up_and h
theorem dw_or (ha : PT X a (upT X.K Ed Ex t1)) (hb : PW X (.BoolOp .Or (b :: rest) pos) (upT X.K Ed Ex t2)) : PW X (.BoolOp .Or (a :: b :: rest) pos) (upT X.K Ed Ex (dOr t1 t2)) := (pw_or ha hb).imp fun _ _ _ h => up_or h
theorem dt_w (h : PW X e (upT X.K Ed Ex t1)) : PT X e (upT X.K Ed Ex t1) := h.pt
theorem dt_not (ha : PT X a (upT X.K Ed Ex t1)) : PT X (.UnaryOp .Not a pos) (upT X.K Ed Ex (dNot t1)) := (pt_not ha).imp fun _ _ _ h => by
  obtain ⟨δ, W, P, q, rs, rw, x, h, k⟩ := h
  exact ⟨δ, W, P, _, rs, rw, x, h, fun d W1 P1 H1 s1 rw1 h1 => k _ W1 P1 H1 s1 rw1 h1⟩
def dAndV (ta tb : TED) : TED := fun δ W q => ta δ W fun x W1 => match x with
  | .bl true => tb δ W1 q
  | .bl false => q (.bl false) W1
  | _ => False
def dOrV (ta tb : TED) : TED := fun δ W q => ta δ W fun x W1 => match x with
  | .bl true => q (.bl true) W1
  | .bl false => tb δ W1 q
  | _ => False
def dNotV (ta : TED) : TED := fun δ W q => ta δ W fun x W1 => match x with
  | .bl c => q (.bl (!c)) W1
  | _ => False
theorem de_one {op} (h : PE X a (upE X.K Ed Ex ta)) : PE X (.BoolOp op [a] pos) (upE X.K Ed Ex ta) := pe_one h
theorem de_and (ha : PE X a (upE X.K Ed Ex ta)) (hb : PE X (.BoolOp .And (b :: rest) pos) (upE X.K Ed Ex tb)) : PE X (.BoolOp .And (a :: b :: rest) pos) (upE X.K Ed Ex (dAndV ta tb)) := (pe_and ha hb).imp fun _ _ _ h => by
  obtain ⟨δ, W, P, q, rs, rw, x, h, k⟩ := h
  refine ⟨δ, W, P, _, rs, rw, x, h, fun d W1 P1 v H1 s1 r1 rw1 h1 => ?_⟩
  cases d with
  | bl z =>
    refine ⟨z, r1, ?_⟩
    cases z with
    | true => exact iteT ⟨δ, W1, P1, q, rs.step s1, rw1, x.after s1, h1, k.after s1⟩
    | false => exact iteF (k (.bl false) W1 P1 _ H1 s1 rfl rw1 h1)
  | _ => exact h1.elim
theorem de_or (ha : PE X a (upE X.K Ed Ex ta)) (hb : PE X (.BoolOp .Or (b :: rest) pos) (upE X.K Ed Ex tb)) : PE X (.BoolOp .Or (a :: b :: rest) pos) (upE X.K Ed Ex (dOrV ta tb)) := (pe_or ha hb).imp fun _ _ _ h => by
  obtain ⟨δ, W, P, q, rs, rw, x, h, k⟩ := h
  refine ⟨δ, W, P, _, rs, rw, x, h, fun d W1 P1 v H1 s1 r1 rw1 h1 => ?_⟩
  cases d with
  | bl z =>
    refine ⟨z, r1, ?_⟩
    cases z with
    | true => exact iteT (k (.bl true) W1 P1 _ H1 s1 rfl rw1 h1)
    | false => exact iteF ⟨δ, W1, P1, q, rs.step s1, rw1, x.after s1, h1, k.after s1⟩
  | _ => exact h1.elim
theorem de_not (ha : PE X a (upE X.K Ed Ex ta)) : PE X (.UnaryOp .Not a pos) (upE X.K Ed Ex (dNotV ta)) := (pe_not ha).imp fun _ _ _ h => by
  obtain ⟨δ, W, P, q, rs, rw, x, h, k⟩ := h
  refine ⟨δ, W, P, _, rs, rw, x, h, fun d W1 P1 v H1 s1 r1 rw1 h1 => ?_⟩
  cases d with
  | bl z => exact ⟨z, r1, k (.bl (!z)) W1 P1 _ H1 s1 rfl rw1 h1⟩
  | _ => exact h1.elim
def dIf (t : TTD) (ta tb : TED) : TED := fun δ W q => t δ W fun c W1 => if c = true then ta δ W1 q else tb δ W1 q
theorem de_if (hc : PT X c (upT X.K Ed Ex t1)) (ha : PE X a (upE X.K Ed Ex ta)) (hb : PE X b (upE X.K Ed Ex tb)) : PE X (.IfExp c a b pos) (upE X.K Ed Ex (dIf t1 ta tb)) := (pe_ifExp hc ha hb).imp fun _ _ _ h => by
  obtain ⟨δ, W, P, q, rs, rw, x, h, k⟩ := h
  refine ⟨δ, W, P, _, rs, rw, x, h, fun d W1 P1 H1 s1 rw1 h1 => ?_⟩
  cases d with
  | true => rw [if_pos rfl] at h1; exact iteT ⟨δ, W1, P1, q, rs.step s1, rw1, x.after s1, h1, k.after s1⟩
  | false => rw [if_neg Bool.false_ne_true] at h1; exact iteF ⟨δ, W1, P1, q, rs.step s1, rw1, x.after s1, h1, k.after s1⟩

/-! ### arguments, tuples, lists -/
def dNil : TAD := fun _ W q => q [] W
def dCons (ta : TED) (tr : TAD) : TAD := fun δ W q => ta δ W fun x W1 => tr δ W1 fun xs W2 => q (x :: xs) W2
theorem da_nil : PA X [] (upA X.K Ed Ex dNil) := pa_nil.imp fun _ _ _ h => by
  obtain ⟨δ, W, P, q, rs, rw, x, h, k⟩ := h
  exact k [] W P [] _ .refl rfl rw h
theorem da_cons (ha : PE X e (upE X.K Ed Ex ta)) (hr : PA X es (upA X.K Ed Ex tA)) (hs : starEach (e :: es) X.env = (false, eval e X.env) :: starEach es X.env := by rfl) : PA X (e :: es) (upA X.K Ed Ex (dCons ta tA)) := (pa_cons ha hr hs).imp fun _ _ _ h => by
  obtain ⟨δ, W, P, q, rs, rw, x, h, k⟩ := h
  refine ⟨δ, W, P, _, rs, rw, x, h, fun d W1 P1 v H1 s1 r1 rw1 h1 => ?_⟩
  refine ⟨δ, W1, P1, _, rs.step s1, rw1, x.after s1, h1, fun ds W2 P2 vs H2 s2 r2 rw2 h2 => ?_⟩
  exact k (d :: ds) W2 P2 _ H2 (s1.trans s2) ⟨v, vs, rfl, repV_step r1 s2, r2⟩ rw2 h2
/-- what a size may be -/
def Sz (n : Nat) : Prop := n ≤ 1000000
theorem Sz.le {n : Nat} (h : Sz n) : n ≤ sizeLine := Nat.le_trans h (by decide)
theorem Sz.lt {n : Nat} (h : Sz n) : n < sizeLine := Nat.lt_of_le_of_lt h (by decide)
def dTup (t : TAD) : TED := fun δ W q => t δ W fun ds W1 => Sz ds.length ∧ q (.tup ds) W1
theorem arr_newTup {K : PySem.W.Frag} {W : Wd} {P : Addr → Dh} {H : Hp} {q : DK} {Q : VK} (k : Arr K W P H q Q) {ds : List D} {xs : List V} (r : repVs K H ds xs) (rw : RepW K W P H) (h : q (.tup ds) W) : ∀ p, H p = none → Q (.ref p) (upd H p (.tup xs)) := fun p hp => by
  refine k (.tup ds) W P (.ref p) _ (Step.new hp) ?_ (rw.new hp) h
  exact ⟨p, xs, rfl, .of upd_same, repVs_mono (tupLe_upd (.inl hp)) ds r⟩
theorem de_tup {x1} (h : PA X es (upA X.K Ed Ex tA)) : PE X (.Tuple es x1 pos) (upE X.K Ed Ex (dTup tA)) := (pe_tup h).imp fun _ _ _ h => by
  obtain ⟨δ, W, P, q, rs, rw, x, h, k⟩ := h
  refine ⟨δ, W, P, _, rs, rw, x, h, fun ds W1 P1 vs H1 s1 r1 rw1 h1 => ?_⟩
  exact ⟨by rw [← repVs_len r1]; exact h1.1.le, arr_newTup (k.after s1) r1 rw1 h1.2⟩
/-- a list display: a list that nobody else has -/
def dLst (t : TAD) : TAD := fun δ W q => t δ W fun ds W1 => Sz ds.length ∧ q ds W1
theorem arr_newLst {K : PySem.W.Frag} {W : Wd} {P : Addr → Dh} {H : Hp} {q : List D → Wd → Prop} {Q : VK} (k : ArrL K W P H q Q) {ds : List D} {xs : List V} (r : repVs K H ds xs) (rw : RepW K W P H) (h : q ds W) : ∀ p, H p = none → Q (.ref p) (upd H p (.lst xs)) := fun p hp => by
  refine k ds W P p xs _ (Step.new hp) hp upd_same (fun f => rw.tracked f hp) (repVs_mono (tupLe_upd (.inl hp)) ds r) (rw.new hp) h
theorem ArrL.after {K : PySem.W.Frag} {W W' : Wd} {P P' : Addr → Dh} {H H' : Hp} {q : List D → Wd → Prop} {Q : VK} (a : ArrL K W P H q Q) (s : Step K W P H W' P' H') : ArrL K W' P' H' q Q :=
  fun d W2 P2 v xs H2 s2 h0 => a d W2 P2 v xs H2 (s.trans s2) (s.stay _ h0)
theorem dl_lst (h : PA X es (upA X.K Ed Ex tA)) : PE X (.List es pos) (upL X.K Ed Ex (dLst tA)) := (pe_lst h).imp fun _ _ _ h => by
  obtain ⟨δ, W, P, q, rs, rw, x, h, k⟩ := h
  refine ⟨δ, W, P, _, rs, rw, x, h, fun ds W1 P1 vs H1 s1 r1 rw1 h1 => ?_⟩
  exact ⟨by rw [← repVs_len r1]; exact h1.1.le, arr_newLst (k.after s1) r1 rw1 h1.2⟩
/-- such a list becomes a cell -/
def dCell (t : TAD) : TED := fun δ W q => t δ W fun ds W1 => ∀ p, W1.hp p = none → W1.hid p = none → q (.ref p) (W1.put p (.lst ds))
theorem not_foot {K : PySem.W.Frag} {W : Wd} {P : Addr → Dh} {H : Hp} {a : Addr} (rw : RepW K W P H) (n : ¬ foot W P a) : W.hp a = none ∧ W.hid a = none := by
  constructor
  · cases q : W.hp a with
    | none => rfl
    | some o => exact absurd (.inl (by rw [q]; simp)) n
  · cases q : W.hid a with
    | none => rfl
    | some o => exact absurd (.inr ⟨a, rw.own a o q⟩) n
theorem RepW.show {K : PySem.W.Frag} {W : Wd} {P : Addr → Dh} {H : Hp} {a : Addr} {o : HO} {d : DO} (r : RepW K W P H) (n : ¬ foot W P a) (ha : H a = some o) (ho : repO K H d o) : RepW K (W.put a d) P H := by
  have n1 : ∀ k, P k a = none := fun k => by
    cases q : P k a with
    | none => rfl
    | some o => exact absurd (.inr ⟨k, by rw [q]; simp⟩) n
  refine ⟨fun b u e => ?_, r.prv, r.hid, r.non, r.own, fun k b h => ?_, r.sep2⟩
  · by_cases q : b = a
    · subst q
      rw [show (W.put b d).hp b = some d from dput_same] at e
      cases e
      exact ⟨o, ha, ho⟩
    · rw [show (W.put a d).hp b = W.hp b from dput_ne q] at e
      exact r.vis b u e
  · have q : b ≠ a := by rintro rfl; exact h (n1 k)
    show dput W.hp a d b = none
    rw [dput_ne q]; exact r.sep1 k b h
theorem Step.show {K : PySem.W.Frag} {W W' : Wd} {P P' : Addr → Dh} {H H' : Hp} {a : Addr} {d : DO} (s : Step K W P H W' P' H') (ha : H a = none) : Step K W P H (W'.put a d) P' H' :=
  ⟨s.tup, s.keep, fun b f => by
    by_cases e : b = a
    · subst e; exact .inr ha
    · refine s.grow b ?_
      rcases f with f | f
      · exact .inl (by rw [show (W'.put a d).hp b = W'.hp b from dput_ne e] at f; exact f)
      · exact .inr f, s.stay⟩
theorem de_cell (h : PE X e (upL X.K Ed Ex tA)) : PE X e (upE X.K Ed Ex (dCell tA)) := h.imp fun _ _ _ h => by
  obtain ⟨δ, W, P, q, rs, rw, x, h, k⟩ := h
  refine ⟨δ, W, P, _, rs, rw, x, h, fun ds W1 P1 a xs H1 s1 h0 h1 n1 r1 rw1 h2 => ?_⟩
  obtain ⟨f1, f2⟩ := not_foot rw1 n1
  exact k (.ref a) _ P1 _ H1 (s1.show h0) rfl (rw1.show (d := .lst ds) n1 h1 ⟨xs, rfl, r1⟩) (h2 a f1 f2)
end
end DL

namespace DL
open PySem L2

/-! ### some list, a fresh one or one that is seen -/
def ArrM (K : PySem.W.Frag) (W : Wd) (P : Addr → Dh) (H : Hp) (q : List D → Wd → Prop) (Q : VK) : Prop :=
  ∀ ds W' P' a xs H', Step K W P H W' P' H' → H' a = some (.lst xs) → repVs K H' ds xs → RepW K W' P' H' → q ds W' → Q (.ref a) H'
theorem ArrM.after {K : PySem.W.Frag} {W W' : Wd} {P P' : Addr → Dh} {H H' : Hp} {q : List D → Wd → Prop} {Q : VK} (a : ArrM K W P H q Q) (s : Step K W P H W' P' H') : ArrM K W' P' H' q Q :=
  fun d W2 P2 v xs H2 s2 => a d W2 P2 v xs H2 (s.trans s2)
def upM (K : PySem.W.Frag) (Ed : WXD) (Ex : WX) (t : TAD) : TE := fun σ H Q => ∃ δ W P q, RepS K H δ σ ∧ RepW K W P H ∧ XArr K W P H Ed Ex ∧ t δ W q ∧ ArrM K W P H q Q
def lstAt (W : Wd) (d : D) (q : List D → Prop) : Prop := match d with
  | .ref a => match W.hp a with
    | some (.lst ds) => q ds
    | _ => False
  | _ => False
def dSeen (t : TED) : TAD := fun δ W q => t δ W fun d W1 => lstAt W1 d fun ds => q ds W1
theorem lstAt_rep {K : PySem.W.Frag} {W : Wd} {P : Addr → Dh} {H : Hp} {d : D} {v : V} {q : List D → Prop} (rw : RepW K W P H) (r : repV K H d v) (h : lstAt W d q) : ∃ a ds xs, d = .ref a ∧ v = .ref a ∧ W.hp a = some (.lst ds) ∧ H a = some (.lst xs) ∧ repVs K H ds xs ∧ q ds := by
  unfold lstAt at h
  cases d with
  | ref a =>
    simp only at h
    split at h
    · rename_i ds e
      obtain ⟨u, h1, xs, rfl, h2⟩ := rw.vis a _ e
      exact ⟨a, ds, xs, rfl, r, e, h1, h2, h⟩
    · exact h.elim
  | _ => exact h.elim
section
variable {X : Cx} {Ed : WXD} {Ex : WX} {e a b c : Expr} {es rest : List Expr} {ta tb tc : TED} {tA tB tL : TAD} {t1 t2 : TTD} {pos : Pos}
theorem dm_l (h : PE X e (upL X.K Ed Ex tL)) : PE X e (upM X.K Ed Ex tL) := h.imp fun _ _ _ h => by
  obtain ⟨δ, W, P, q, rs, rw, x, h, k⟩ := h
  exact ⟨δ, W, P, q, rs, rw, x, h, fun ds W1 P1 a xs H1 s1 _ h1 _ r1 rw1 h2 => k ds W1 P1 a xs H1 s1 h1 r1 rw1 h2⟩
theorem dm_e (h : PE X e (upE X.K Ed Ex ta)) : PE X e (upM X.K Ed Ex (dSeen ta)) := h.imp fun _ _ _ h => by
  obtain ⟨δ, W, P, q, rs, rw, x, h, k⟩ := h
  refine ⟨δ, W, P, _, rs, rw, x, h, fun d W1 P1 v H1 s1 r1 rw1 h1 => ?_⟩
  obtain ⟨a, ds, xs, rfl, rfl, _, h2, h3, h4⟩ := lstAt_rep rw1 r1 h1
  exact k ds W1 P1 a xs H1 s1 h2 h3 rw1 h4

/-! ### operators with lists: the left one fresh (L) or seen (V), the right one any -/
abbrev DRM (β : Type) := List D → List D → Wd → (β → Wd → Prop) → Prop
def upMM (K : PySem.W.Frag) (r : DRM D) : R2 := fun x y H Q => ∃ a b xs ys ds es W P q, x = .ref a ∧ y = .ref b ∧ H a = some (.lst xs) ∧ H b = some (.lst ys) ∧ repVs K H ds xs ∧ repVs K H es ys ∧ RepW K W P H ∧ r ds es W q ∧ Arr K W P H q Q
def upMML (K : PySem.W.Frag) (r : DRM (List D)) : R2 := fun x y H Q => ∃ a b xs ys ds es W P q, x = .ref a ∧ y = .ref b ∧ H a = some (.lst xs) ∧ H b = some (.lst ys) ∧ repVs K H ds xs ∧ repVs K H es ys ∧ RepW K W P H ∧ r ds es W q ∧ ArrL K W P H q Q
def dOpM {β : Type} (r : DRM β) (tl tr : TAD) : Sd → Wd → (β → Wd → Prop) → Prop := fun δ W q => tl δ W fun ds W1 => tr δ W1 fun es W2 => r ds es W2 q
def dOpV {β : Type} (r : DRM β) (ta : TED) (tr : TAD) : Sd → Wd → (β → Wd → Prop) → Prop := fun δ W q => ta δ W fun d W1 => tr δ W1 fun es W2 => lstAt W2 d fun ds => r ds es W2 q
theorem up_opM {K : PySem.W.Frag} {r : DRM D} {σ : St} {H : Hp} {Q : VK} (h : upE K Ed Ex (dOpM r tL tA) σ H Q) : tOp (upMM K r) (upL K Ed Ex tL) (upM K Ed Ex tA) σ H Q := by
  obtain ⟨δ, W, P, q, rs, rw, x, h, k⟩ := h
  refine ⟨δ, W, P, _, rs, rw, x, h, fun ds W1 P1 a xs H1 s1 _ g1 n1 r1 rw1 h1 => ?_⟩
  refine ⟨δ, W1, P1, _, rs.step s1, rw1, x.after s1, h1, fun es W2 P2 b ys H2 s2 g2 r2 rw2 h2 => ?_⟩
  exact ⟨a, b, xs, ys, ds, es, W2, P2, q, rfl, rfl, s2.keep a _ g1 n1, g2, repVs_step r1 s2, r2, rw2, h2, k.after (s1.trans s2)⟩
theorem up_opV {K : PySem.W.Frag} {r : DRM D} {σ : St} {H : Hp} {Q : VK} (h : upE K Ed Ex (dOpV r ta tA) σ H Q) : tOp (upMM K r) (upE K Ed Ex ta) (upM K Ed Ex tA) σ H Q := by
  obtain ⟨δ, W, P, q, rs, rw, x, h, k⟩ := h
  refine ⟨δ, W, P, _, rs, rw, x, h, fun d W1 P1 v H1 s1 r1 rw1 h1 => ?_⟩
  refine ⟨δ, W1, P1, _, rs.step s1, rw1, x.after s1, h1, fun es W2 P2 b ys H2 s2 g2 r2 rw2 h2 => ?_⟩
  obtain ⟨a, ds, xs, rfl, rfl, _, h3, h4, h5⟩ := lstAt_rep rw2 (repV_step r1 s2) h2
  exact ⟨a, b, xs, ys, ds, es, W2, P2, q, rfl, rfl, h3, g2, h4, r2, rw2, h5, k.after (s1.trans s2)⟩
theorem up_opML {K : PySem.W.Frag} {r : DRM (List D)} {σ : St} {H : Hp} {Q : VK} (h : upL K Ed Ex (dOpM r tL tA) σ H Q) : tOp (upMML K r) (upL K Ed Ex tL) (upM K Ed Ex tA) σ H Q := by
  obtain ⟨δ, W, P, q, rs, rw, x, h, k⟩ := h
  refine ⟨δ, W, P, _, rs, rw, x, h, fun ds W1 P1 a xs H1 s1 _ g1 n1 r1 rw1 h1 => ?_⟩
  refine ⟨δ, W1, P1, _, rs.step s1, rw1, x.after s1, h1, fun es W2 P2 b ys H2 s2 g2 r2 rw2 h2 => ?_⟩
  exact ⟨a, b, xs, ys, ds, es, W2, P2, q, rfl, rfl, s2.keep a _ g1 n1, g2, repVs_step r1 s2, r2, rw2, h2, k.after (s1.trans s2)⟩
theorem up_opVL {K : PySem.W.Frag} {r : DRM (List D)} {σ : St} {H : Hp} {Q : VK} (h : upL K Ed Ex (dOpV r ta tA) σ H Q) : tOp (upMML K r) (upE K Ed Ex ta) (upM K Ed Ex tA) σ H Q := by
  obtain ⟨δ, W, P, q, rs, rw, x, h, k⟩ := h
  refine ⟨δ, W, P, _, rs, rw, x, h, fun d W1 P1 v H1 s1 r1 rw1 h1 => ?_⟩
  refine ⟨δ, W1, P1, _, rs.step s1, rw1, x.after s1, h1, fun es W2 P2 b ys H2 s2 g2 r2 rw2 h2 => ?_⟩
  obtain ⟨a, ds, xs, rfl, rfl, _, h3, h4, h5⟩ := lstAt_rep rw2 (repV_step r1 s2) h2
  exact ⟨a, b, xs, ys, ds, es, W2, P2, q, rfl, rfl, h3, g2, h4, r2, rw2, h5, k.after (s1.trans s2)⟩
/-- a value at the left, a list at the right -/
def up1M (K : PySem.W.Frag) (r : D → List D → Wd → DK → Prop) : R2 := fun x y H Q => ∃ d b ys es W P q, repV K H d x ∧ y = .ref b ∧ H b = some (.lst ys) ∧ repVs K H es ys ∧ RepW K W P H ∧ r d es W q ∧ Arr K W P H q Q
def dOp1M (r : D → List D → Wd → DK → Prop) (ta : TED) (tr : TAD) : TED := fun δ W q => ta δ W fun d W1 => tr δ W1 fun es W2 => r d es W2 q
theorem up_op1M {K : PySem.W.Frag} {r : D → List D → Wd → DK → Prop} {σ : St} {H : Hp} {Q : VK} (h : upE K Ed Ex (dOp1M r ta tA) σ H Q) : tOp (up1M K r) (upE K Ed Ex ta) (upM K Ed Ex tA) σ H Q := by
  obtain ⟨δ, W, P, q, rs, rw, x, h, k⟩ := h
  refine ⟨δ, W, P, _, rs, rw, x, h, fun d W1 P1 v H1 s1 r1 rw1 h1 => ?_⟩
  refine ⟨δ, W1, P1, _, rs.step s1, rw1, x.after s1, h1, fun es W2 P2 b ys H2 s2 g2 r2 rw2 h2 => ?_⟩
  exact ⟨d, b, ys, es, W2, P2, q, repV_step r1 s2, rfl, g2, r2, rw2, h2, k.after (s1.trans s2)⟩
/-- a fresh list at the left, a value at the right -/
def upM1L (K : PySem.W.Frag) (r : List D → D → Wd → (List D → Wd → Prop) → Prop) : R2 := fun x y H Q => ∃ d a xs ds W P q, repV K H d y ∧ x = .ref a ∧ H a = some (.lst xs) ∧ repVs K H ds xs ∧ RepW K W P H ∧ r ds d W q ∧ ArrL K W P H q Q
def upM1 (K : PySem.W.Frag) (r : List D → D → Wd → DK → Prop) : R2 := fun x y H Q => ∃ d a xs ds W P q, repV K H d y ∧ x = .ref a ∧ H a = some (.lst xs) ∧ repVs K H ds xs ∧ RepW K W P H ∧ r ds d W q ∧ Arr K W P H q Q
def dOpM1 {β : Type} (r : List D → D → Wd → (β → Wd → Prop) → Prop) (tl : TAD) (tb : TED) : Sd → Wd → (β → Wd → Prop) → Prop := fun δ W q => tl δ W fun ds W1 => tb δ W1 fun d W2 => r ds d W2 q
theorem up_opM1L {K : PySem.W.Frag} {r : List D → D → Wd → (List D → Wd → Prop) → Prop} {σ : St} {H : Hp} {Q : VK} (h : upL K Ed Ex (dOpM1 r tL tb) σ H Q) : tOp (upM1L K r) (upL K Ed Ex tL) (upE K Ed Ex tb) σ H Q := by
  obtain ⟨δ, W, P, q, rs, rw, x, h, k⟩ := h
  refine ⟨δ, W, P, _, rs, rw, x, h, fun ds W1 P1 a xs H1 s1 _ g1 n1 r1 rw1 h1 => ?_⟩
  refine ⟨δ, W1, P1, _, rs.step s1, rw1, x.after s1, h1, fun d W2 P2 v H2 s2 r2 rw2 h2 => ?_⟩
  exact ⟨d, a, xs, ds, W2, P2, q, r2, rfl, s2.keep a _ g1 n1, repVs_step r1 s2, rw2, h2, k.after (s1.trans s2)⟩
theorem up_opM1 {K : PySem.W.Frag} {r : List D → D → Wd → DK → Prop} {σ : St} {H : Hp} {Q : VK} (h : upE K Ed Ex (dOpM1 r tL tb) σ H Q) : tOp (upM1 K r) (upL K Ed Ex tL) (upE K Ed Ex tb) σ H Q := by
  obtain ⟨δ, W, P, q, rs, rw, x, h, k⟩ := h
  refine ⟨δ, W, P, _, rs, rw, x, h, fun ds W1 P1 a xs H1 s1 _ g1 n1 r1 rw1 h1 => ?_⟩
  refine ⟨δ, W1, P1, _, rs.step s1, rw1, x.after s1, h1, fun d W2 P2 v H2 s2 r2 rw2 h2 => ?_⟩
  exact ⟨d, a, xs, ds, W2, P2, q, r2, rfl, s2.keep a _ g1 n1, repVs_step r1 s2, rw2, h2, k.after (s1.trans s2)⟩

theorem de_cmpLM {op : CmpOp} {r : DRM D} (ho : OpR X (compareOp op) (upMM X.K r)) (ha : PE X a (upL X.K Ed Ex tL)) (hb : PE X b (upM X.K Ed Ex tA)) (hm : behindInMarks op b = false := by first | exact nomark _ | rfl) : PE X (.Compare a [op] [b] pos) (upE X.K Ed Ex (dOpM r tL tA)) := (pe_cmpR ho ha hb hm).imp fun _ _ _ h => up_opM h
theorem dt_cmpLM {op : CmpOp} {r : DRM D} (ho : OpR X (compareOp op) (upMM X.K r)) (ha : PE X a (upL X.K Ed Ex tL)) (hb : PE X b (upM X.K Ed Ex tA)) (hm : behindInMarks op b = false := by first | exact nomark _ | rfl) : PT X (.Compare a [op] [b] pos) (upT X.K Ed Ex (dTest (dOpM r tL tA))) := (pt_cmpR ho ha hb hm).imp fun _ _ _ h => up_test (fun _ h => up_opM h) h
theorem de_cmpVM {op : CmpOp} {r : DRM D} (ho : OpR X (compareOp op) (upMM X.K r)) (ha : PE X a (upE X.K Ed Ex ta)) (hb : PE X b (upM X.K Ed Ex tA)) (hm : behindInMarks op b = false := by first | exact nomark _ | rfl) : PE X (.Compare a [op] [b] pos) (upE X.K Ed Ex (dOpV r ta tA)) := (pe_cmpR ho ha hb hm).imp fun _ _ _ h => up_opV h
theorem dt_cmpVM {op : CmpOp} {r : DRM D} (ho : OpR X (compareOp op) (upMM X.K r)) (ha : PE X a (upE X.K Ed Ex ta)) (hb : PE X b (upM X.K Ed Ex tA)) (hm : behindInMarks op b = false := by first | exact nomark _ | rfl) : PT X (.Compare a [op] [b] pos) (upT X.K Ed Ex (dTest (dOpV r ta tA))) := (pt_cmpR ho ha hb hm).imp fun _ _ _ h => up_test (fun _ h => up_opV h) h
theorem de_cmp1M {op : CmpOp} {r : D → List D → Wd → DK → Prop} (ho : OpR X (compareOp op) (up1M X.K r)) (ha : PE X a (upE X.K Ed Ex ta)) (hb : PE X b (upM X.K Ed Ex tA)) (hm : behindInMarks op b = false := by first | exact nomark _ | rfl) : PE X (.Compare a [op] [b] pos) (upE X.K Ed Ex (dOp1M r ta tA)) := (pe_cmpR ho ha hb hm).imp fun _ _ _ h => up_op1M h
theorem dt_cmp1M {op : CmpOp} {r : D → List D → Wd → DK → Prop} (ho : OpR X (compareOp op) (up1M X.K r)) (ha : PE X a (upE X.K Ed Ex ta)) (hb : PE X b (upM X.K Ed Ex tA)) (hm : behindInMarks op b = false := by first | exact nomark _ | rfl) : PT X (.Compare a [op] [b] pos) (upT X.K Ed Ex (dTest (dOp1M r ta tA))) := (pt_cmpR ho ha hb hm).imp fun _ _ _ h => up_test (fun _ h => up_op1M h) h
theorem dl_opLM {op : Operator} {r : DRM (List D)} (ho : OpR X (binaryOp op) (upMML X.K r)) (ha : PE X a (upL X.K Ed Ex tL)) (hb : PE X b (upM X.K Ed Ex tA)) : PE X (.BinOp a op b pos) (upL X.K Ed Ex (dOpM r tL tA)) := (pe_op ho ha hb).imp fun _ _ _ h => up_opML h
theorem dl_opVM {op : Operator} {r : DRM (List D)} (ho : OpR X (binaryOp op) (upMML X.K r)) (ha : PE X a (upE X.K Ed Ex ta)) (hb : PE X b (upM X.K Ed Ex tA)) : PE X (.BinOp a op b pos) (upL X.K Ed Ex (dOpV r ta tA)) := (pe_op ho ha hb).imp fun _ _ _ h => up_opVL h
theorem dl_opL1 {op : Operator} {r : List D → D → Wd → (List D → Wd → Prop) → Prop} (ho : OpR X (binaryOp op) (upM1L X.K r)) (ha : PE X a (upL X.K Ed Ex tL)) (hb : PE X b (upE X.K Ed Ex tb)) : PE X (.BinOp a op b pos) (upL X.K Ed Ex (dOpM1 r tL tb)) := (pe_op ho ha hb).imp fun _ _ _ h => up_opM1L h
theorem de_ixL {r : List D → D → Wd → DK → Prop} (hr : IxR X (upM1 X.K r)) (ha : PE X a (upL X.K Ed Ex tL)) (hb : PE X b (upE X.K Ed Ex tb)) (hs : PlainIx b := by exact fun _ _ => rfl) : PE X (.Subscript a b pos) (upE X.K Ed Ex (dOpM1 r tL tb)) := (pe_ix hr ha hb hs).imp fun _ _ _ h => up_opM1 h
end
end DL

namespace DL
open PySem L2

/-! ### flat values -/
def toV : D → V
  | .non => .non
  | .bl b => .bl b
  | .int i => .int i
  | .str x => .str x
  | .ref a => .ref a
  | .ty n => .ty n
  | .tup _ => .non
def flatD : D → Bool
  | .non => true
  | .bl _ => true
  | .int _ => true
  | .str _ => true
  | _ => false
theorem repV_flat {K : PySem.W.Frag} {H : Hp} {d : D} {v : V} (f : flatD d = true) (r : repV K H d v) : v = toV d := by
  cases d <;> first | exact r | cases f
theorem repVs_flat {K : PySem.W.Frag} {H : Hp} : ∀ {ds : List D} {vs : List V}, ds.all flatD = true → repVs K H ds vs → vs = ds.map toV
  | [], _, _, r => r
  | d :: ds, _, f, r => by
    rw [List.all_cons, Bool.and_eq_true] at f
    obtain ⟨x, xs, rfl, r1, r2⟩ := r
    rw [repV_flat f.1 r1, repVs_flat f.2 r2]; rfl
theorem flatV_of {d : D} (f : flatD d = true) : flatV (toV d) = true := by cases d <;> first | rfl | cases f
theorem flatVs_of : ∀ {ds : List D}, ds.all flatD = true → (ds.map toV).all flatV = true
  | [], _ => rfl
  | d :: ds, f => by
    rw [List.all_cons, Bool.and_eq_true] at f
    rw [List.map_cons, List.all_cons, flatV_of f.1, flatVs_of f.2]; rfl

/-! ### what == sees -/
mutual
def pyIn (rf : Addr → Option PyData) : D → Option PyData
  | .non => some .none
  | .bl b => some (.bool b)
  | .int i => some (.int i)
  | .str x => some (.str x)
  | .ref a => rf a
  | .ty _ => none
  | .tup ds => match pyIns rf ds with
    | some ps => some (.tuple ps)
    | none => none
def pyIns (rf : Addr → Option PyData) : List D → Option (List PyData)
  | [] => some []
  | d :: ds => match pyIn rf d, pyIns rf ds with
    | some p, some ps => some (p :: ps)
    | _, _ => none
end
/-- lists within lists, n deep -/
def rfD (h : Dh) : Nat → Addr → Option PyData
  | 0, _ => none
  | n + 1, a => match h a with
    | some (.lst ds) => match pyIns (rfD h n) ds with
      | some ps => some (.list ps)
      | none => none
    | _ => none
section
variable {K : PySem.W.Frag} {W : Wd} {P : Addr → Dh} {H : Hp} {rf : Addr → Option PyData}
mutual
theorem dp_in (hr : ∀ a p, rf a = some p → Dp K H (.ref a) p) : ∀ (d : D) {v : V} {p : PyData}, repV K H d v → pyIn rf d = some p → Dp K H v p
  | .non, _, _, r, e => by
    simp only [pyIn, Option.some.injEq] at e; subst e; rw [show _ = V.non from r]; exact .non
  | .bl _, _, _, r, e => by
    simp only [pyIn, Option.some.injEq] at e; subst e; rw [show _ = V.bl _ from r]; exact .bl _
  | .int _, _, _, r, e => by
    simp only [pyIn, Option.some.injEq] at e; subst e; rw [show _ = V.int _ from r]; exact .int _
  | .str _, _, _, r, e => by
    simp only [pyIn, Option.some.injEq] at e; subst e; rw [show _ = V.str _ from r]; exact .str _
  | .ref a, _, _, r, e => by
    simp only [pyIn] at e; rw [show _ = V.ref a from r]; exact hr a _ e
  | .ty _, _, _, r, e => by simp [pyIn] at e
  | .tup ds, _, _, r, e => by
    obtain ⟨a, xs, rfl, hs, r⟩ := r
    simp only [pyIn] at e
    split at e
    · rename_i ps q
      cases e
      exact .tup hs.1 (dp_ins hr ds r q)
    · cases e
theorem dp_ins (hr : ∀ a p, rf a = some p → Dp K H (.ref a) p) : ∀ (ds : List D) {vs : List V} {ps : List PyData}, repVs K H ds vs → pyIns rf ds = some ps → DpAll K H vs ps
  | [], _, _, r, e => by
    simp only [pyIns, Option.some.injEq] at e; subst e; rw [show _ = [] from r]; exact .nil
  | d :: ds, _, _, r, e => by
    obtain ⟨x, xs, rfl, r1, r2⟩ := r
    simp only [pyIns] at e
    split at e
    · rename_i p ps q1 q2
      cases e
      exact .cons (dp_in hr d r1 q1) (dp_ins hr ds r2 q2)
    · cases e
end
theorem dp_rf (rw : RepW K W P H) : ∀ (n : Nat) (a : Addr) (p : PyData), rfD W.hp n a = some p → Dp K H (.ref a) p
  | 0, _, _, e => by simp [rfD] at e
  | n + 1, a, p, e => by
    simp only [rfD] at e
    split at e
    · rename_i ds q
      split at e
      · rename_i ps q2
        cases e
        obtain ⟨u, h1, xs, rfl, h2⟩ := rw.vis a _ q
        exact .lst (.of h1) (dp_ins (dp_rf rw n) ds h2 q2)
      · cases e
    · cases e
end
/-- what a == b says -/
def eqB (rf : Addr → Option PyData) (x y : D) : Option Bool :=
  match x, y with
  | .int i, .int j => some (decide (i = j))
  | .str i, .str j => some (decide (i = j))
  | .bl i, .bl j => some (decide (i = j))
  | .non, .non => some true
  | x, y => match pyIn rf x, pyIn rf y with
    | some p, some e => if (SeqAt.shaped p && SeqAt.shaped e) = true then some (PyData.eqv p e) else none
    | _, _ => none
def eqsB (rf : Addr → Option PyData) (xs ys : List D) : Option Bool :=
  match pyIns rf xs, pyIns rf ys with
    | some p, some e => if (SeqAt.shaped (.list p) && SeqAt.shaped (.list e)) = true then some (PyData.eqvAll p e) else none
    | _, _ => none
theorem eqB_of {rf : Addr → Option PyData} {x y : D} {p e : PyData} (h1 : pyIn rf x = some p) (h2 : pyIn rf y = some e) (s1 : SeqAt.shaped p = true) (s2 : SeqAt.shaped e = true) : eqB rf x y = some (PyData.eqv p e) := by
  have gen : (match pyIn rf x, pyIn rf y with
    | some p, some e => if (SeqAt.shaped p && SeqAt.shaped e) = true then some (PyData.eqv p e) else none
    | _, _ => none) = some (PyData.eqv p e) := by rw [h1, h2]; simp [s1, s2]
  unfold eqB
  split
  · simp only [pyIn, Option.some.injEq] at h1 h2; subst h1; subst h2; rw [PyData.eqv, Bool.beq_eq_decide_eq]
  · simp only [pyIn, Option.some.injEq] at h1 h2; subst h1; subst h2; rw [PyData.eqv, Bool.beq_eq_decide_eq]
  · simp only [pyIn, Option.some.injEq] at h1 h2; subst h1; subst h2; rw [PyData.eqv, Bool.beq_eq_decide_eq]
  · simp only [pyIn, Option.some.injEq] at h1 h2; subst h1; subst h2; rfl
  · exact gen
def deepN : Nat := 6
def dEq : DR2 := fun x y W q => match eqB (rfD W.hp deepN) x y with
  | some b => q (.bl b) W
  | none => False
def dNe : DR2 := fun x y W q => match eqB (rfD W.hp deepN) x y with
  | some b => q (.bl (!b)) W
  | none => False
section
variable {X : Cx}
theorem eq_cases {W : Wd} {P : Addr → Dh} {H : Hp} {x y : D} {v w : V} {b : Bool} (rw : RepW X.K W P H) (r1 : repV X.K H x v) (r2 : repV X.K H y w) (e : eqB (rfD W.hp deepN) x y = some b) :
    (scal v w = true ∧ decide (v = w) = b) ∨ ∃ p e, Dp X.K H v p ∧ Dp X.K H w e ∧ SeqAt.shaped p = true ∧ SeqAt.shaped e = true ∧ PyData.eqv p e = b := by
  unfold eqB at e
  split at e
  · rw [show v = V.int _ from r1, show w = V.int _ from r2]
    cases e; exact .inl ⟨rfl, by simp⟩
  · rw [show v = V.str _ from r1, show w = V.str _ from r2]
    cases e; exact .inl ⟨rfl, by simp⟩
  · rw [show v = V.bl _ from r1, show w = V.bl _ from r2]
    cases e; exact .inl ⟨rfl, by simp⟩
  · rw [show v = V.non from r1, show w = V.non from r2]
    cases e; exact .inl ⟨rfl, by simp⟩
  · split at e
    · rename_i p e' h1 h2
      split at e
      · rename_i s
        rw [Bool.and_eq_true] at s
        cases e
        exact .inr ⟨p, e', dp_in (dp_rf rw _) _ r1 h1, dp_in (dp_rf rw _) _ r2 h2, s.1, s.2, rfl⟩
      · cases e
    · cases e
theorem dop_eq (hu : X.A.units + 64 < cLine) : DOp X (compareOp .Eq) dEq := (OpR.or op_eq (op_eqD hu)).imp fun x y H Q h => by
  obtain ⟨d, e, W, P, q, r1, r2, rw, h, k⟩ := h
  unfold dEq at h
  split at h
  · rename_i b eb
    have kq : Q (.bl b) H := k (.bl b) W P _ H .refl rfl rw h
    rcases eq_cases rw r1 r2 eb with ⟨s, e⟩ | ⟨p, e, d1, d2, s1, s2, eq⟩
    · exact .inl ⟨s, by rw [e]; exact kq⟩
    · exact .inr ⟨p, e, d1, d2, s1, s2, by rw [eq]; exact kq⟩
  · exact h.elim
theorem dop_ne (hu : X.A.units + 64 < cLine) : DOp X (compareOp .NotEq) dNe := (OpR.or op_ne (op_neD hu)).imp fun x y H Q h => by
  obtain ⟨d, e, W, P, q, r1, r2, rw, h, k⟩ := h
  unfold dNe at h
  split at h
  · rename_i b eb
    have kq : Q (.bl (!b)) H := k (.bl (!b)) W P _ H .refl rfl rw h
    rcases eq_cases rw r1 r2 eb with ⟨s, e⟩ | ⟨p, e, d1, d2, s1, s2, eq⟩
    · exact .inl ⟨s, by rw [e]; exact kq⟩
    · exact .inr ⟨p, e, d1, d2, s1, s2, by rw [eq]; exact kq⟩
  · exact h.elim
/-- lists, fresh or seen -/
def rEqL : DRM D := fun ds es W q => match eqsB (rfD W.hp deepN) ds es with
  | some b => q (.bl b) W
  | none => False
def rNeL : DRM D := fun ds es W q => match eqsB (rfD W.hp deepN) ds es with
  | some b => q (.bl (!b)) W
  | none => False
theorem eqs_cases {W : Wd} {P : Addr → Dh} {H : Hp} {x y : List D} {a c : Addr} {v w : List V} {b : Bool} (rw : RepW X.K W P H) (ha : H a = some (.lst v)) (hc : H c = some (.lst w)) (r1 : repVs X.K H x v) (r2 : repVs X.K H y w) (e : eqsB (rfD W.hp deepN) x y = some b) :
    ∃ p e, Dp X.K H (.ref a) p ∧ Dp X.K H (.ref c) e ∧ SeqAt.shaped p = true ∧ SeqAt.shaped e = true ∧ PyData.eqv p e = b := by
  unfold eqsB at e
  split at e
  · rename_i p e' h1 h2
    split at e
    · rename_i s
      rw [Bool.and_eq_true] at s
      cases e
      exact ⟨.list p, .list e', .lst (.of ha) (dp_ins (dp_rf rw _) _ r1 h1), .lst (.of hc) (dp_ins (dp_rf rw _) _ r2 h2), s.1, s.2, rfl⟩
    · cases e
  · cases e
theorem dop_eqL (hu : X.A.units + 64 < cLine) : OpR X (compareOp .Eq) (upMM X.K rEqL) := (op_eqD hu).imp fun x y H Q h => by
  obtain ⟨a, c, xs, ys, ds, es, W, P, q, rfl, rfl, ha, hc, r1, r2, rw, h, k⟩ := h
  unfold rEqL at h
  split at h
  · rename_i b eb
    have kq : Q (.bl b) H := k (.bl b) W P _ H .refl rfl rw h
    obtain ⟨p, e, d1, d2, s1, s2, eq⟩ := eqs_cases rw ha hc r1 r2 eb
    exact ⟨p, e, d1, d2, s1, s2, by rw [eq]; exact kq⟩
  · exact h.elim
theorem dop_neL (hu : X.A.units + 64 < cLine) : OpR X (compareOp .NotEq) (upMM X.K rNeL) := (op_neD hu).imp fun x y H Q h => by
  obtain ⟨a, c, xs, ys, ds, es, W, P, q, rfl, rfl, ha, hc, r1, r2, rw, h, k⟩ := h
  unfold rNeL at h
  split at h
  · rename_i b eb
    have kq : Q (.bl (!b)) H := k (.bl (!b)) W P _ H .refl rfl rw h
    obtain ⟨p, e, d1, d2, s1, s2, eq⟩ := eqs_cases rw ha hc r1 r2 eb
    exact ⟨p, e, d1, d2, s1, s2, by rw [eq]; exact kq⟩
  · exact h.elim

/-! ### arithmetic -/
def dAdd : DR2 := fun x y W q => match x, y with
  | .int i, .int j => q (.int (i + j)) W
  | .str a, .str b => Sz (a.length + b.length) ∧ q (.str (a ++ b)) W
  | .tup xs, .tup ys => Sz (xs.length + ys.length) ∧ q (.tup (xs ++ ys)) W
  | _, _ => False
def dI2 (C : Int → Int → Prop) (g : Int → Int → D) : DR2 := fun x y W q => match x, y with
  | .int i, .int j => C i j ∧ q (g i j) W
  | _, _ => False
def dI2' (g : Int → Int → D) : DR2 := fun x y W q => match x, y with
  | .int i, .int j => q (g i j) W
  | _, _ => False
theorem dop_I {f : Value → Value → Sem Value} {C : Int → Int → Prop} {g : Int → Int → V} {gd : Int → Int → D} (h : OpR X f (rI C g)) (hg : ∀ i j H, repV X.K H (gd i j) (g i j)) : DOp X f (dI2 C gd) := h.imp fun x y H Q h => by
  obtain ⟨d, e, W, P, q, r1, r2, rw, h, k⟩ := h
  cases d <;> cases e <;> first | exact h.elim | skip
  exact ⟨_, _, r1, r2, h.1, k _ W P _ H .refl (hg _ _ _) rw h.2⟩
theorem dop_I0 {f : Value → Value → Sem Value} {g : Int → Int → V} {gd : Int → Int → D} (h : OpR X f (rI0 g)) (hg : ∀ i j H, repV X.K H (gd i j) (g i j)) : DOp X f (dI2' gd) := h.imp fun x y H Q h => by
  obtain ⟨d, e, W, P, q, r1, r2, rw, h, k⟩ := h
  cases d <;> cases e <;> first | exact h.elim | skip
  exact ⟨_, _, r1, r2, k _ W P _ H .refl (hg _ _ _) rw h⟩
theorem dop_add : DOp X (binaryOp .Add) dAdd := (OpR.or op_add (OpR.or op_add_str op_catA)).imp fun x y H Q h => by
  obtain ⟨d, e, W, P, q, r1, r2, rw, h, k⟩ := h
  cases d <;> cases e <;> first | exact h.elim | skip
  · exact .inl ⟨_, _, r1, r2, k (.int _) W P _ H .refl rfl rw h⟩
  · exact .inr (.inl ⟨_, _, r1, r2, h.1.le, k (.str _) W P _ H .refl rfl rw h.2⟩)
  · rename_i ds es
    obtain ⟨a, xs, rfl, ha, ra⟩ := r1
    obtain ⟨b, ys, rfl, hb, rb⟩ := r2
    refine .inr (.inr ⟨a, b, xs, ys, rfl, rfl, ha.1, hb.1, ?_, fun z => ?_, fun z1 z2 => ?_, fun z1 z2 => ?_⟩)
    · rw [← repVs_len ra, ← repVs_len rb]; exact h.1.le
    · subst z
      have : ds = [] := List.length_eq_zero_iff.mp (by rw [repVs_len ra]; rfl)
      subst this
      exact k (.tup es) W P _ H .refl ⟨b, ys, rfl, hb, rb⟩ rw h.2
    · subst z2
      have : es = [] := List.length_eq_zero_iff.mp (by rw [repVs_len rb]; rfl)
      subst this
      refine k (.tup ds) W P _ H .refl ⟨a, xs, rfl, ha, ra⟩ rw ?_
      have := h.2; rw [List.append_nil] at this; exact this
    · exact arr_newTup k (repVs_append ra rb) rw h.2
abbrev dSub : DR2 := dI2' fun i j => .int (i - j)
theorem dop_sub : DOp X (binaryOp .Sub) dSub := dop_I0 op_sub fun _ _ _ => rfl
abbrev dMul : DR2 := dI2 IntMulOk fun i j => .int (i * j)
theorem dop_mul : DOp X (binaryOp .Mult) dMul := dop_I (opI fun _ _ _ _ _ _ _ hc q => PyProof.Rows.mul_int q hc) fun _ _ _ => rfl
abbrev dFdiv : DR2 := dI2 CDivW fun i j => .int (i / j)
theorem dop_fdiv : DOp X (binaryOp .FloorDiv) dFdiv := dop_I op_fdivW fun _ _ _ => rfl
abbrev dMod : DR2 := dI2 (fun _ j => 0 < j) fun i j => .int (i % j)
theorem dop_mod : DOp X (binaryOp .Mod) dMod := dop_I op_mod fun _ _ _ => rfl
abbrev dPow : DR2 := dI2 CPow fun i j => .int (i ^ j.toNat)
theorem dop_pow : DOp X (binaryOp .Pow) dPow := dop_I op_pow fun _ _ _ => rfl
def dCmpI (f : Int → Int → Bool) (g : Str → Str → Bool) : DR2 := fun x y W q => match x, y with
  | .int i, .int j => q (.bl (f i j)) W
  | .str a, .str b => q (.bl (g a b)) W
  | _, _ => False
theorem dop_cmp {f : Value → Value → Sem Value} {fi : Int → Int → Bool} {fs : Str → Str → Bool} (h : OpR X f (rI0 fun i j => .bl (fi i j))) (h2 : OpR X f (fun x y H Q => ∃ i j, x = .str i ∧ y = .str j ∧ Q (.bl (fs i j)) H)) : DOp X f (dCmpI fi fs) := (OpR.or h h2).imp fun x y H Q h => by
  obtain ⟨d, e, W, P, q, r1, r2, rw, h, k⟩ := h
  cases d <;> cases e <;> first | exact h.elim | skip
  · exact .inl ⟨_, _, r1, r2, k (.bl _) W P _ H .refl rfl rw h⟩
  · exact .inr ⟨_, _, r1, r2, k (.bl _) W P _ H .refl rfl rw h⟩
abbrev dLt : DR2 := dCmpI (fun i j => decide (i < j)) fun a b => decide (a.cps.toList < b.cps.toList)
abbrev dLe : DR2 := dCmpI (fun i j => decide (i ≤ j)) fun a b => decide (a.cps.toList ≤ b.cps.toList)
abbrev dGt : DR2 := dCmpI (fun i j => decide (j < i)) fun a b => decide (b.cps.toList < a.cps.toList)
abbrev dGe : DR2 := dCmpI (fun i j => decide (j ≤ i)) fun a b => decide (b.cps.toList ≤ a.cps.toList)
theorem dop_lt : DOp X (compareOp .Lt) dLt := dop_cmp op_lt op_lt_str
end
end DL

namespace DL
open PySem L2
section
variable {X : Cx} {Ed : WXD} {Ex : WX} {e a b c : Expr} {es rest : List Expr} {ta tb tc : TED} {tA tB tL : TAD} {t1 t2 : TTD} {pos : Pos}
theorem dop_le : DOp X (compareOp .LtE) (dCmpI (fun i j => decide (i ≤ j)) fun a b => !decide (b.cps.toList < a.cps.toList)) := dop_cmp op_le op_le_str
theorem dop_gt : DOp X (compareOp .Gt) dGt := dop_cmp op_gt op_gt_str
theorem dop_ge : DOp X (compareOp .GtE) (dCmpI (fun i j => decide (j ≤ i)) fun a b => !decide (a.cps.toList < b.cps.toList)) := dop_cmp op_ge op_ge_str
def isNonD : D → Bool
  | .non => true
  | _ => false
/-- x is True, x is None -/
def dIs : DR2 := fun x y W q => match x, y with
  | .bl a, .bl b => q (.bl (decide (a = b))) W
  | x, .non => q (.bl (isNonD x)) W
  | _, _ => False
def dIsNot : DR2 := fun x y W q => match x, y with
  | .bl a, .bl b => q (.bl (!decide (a = b))) W
  | x, .non => q (.bl (!isNonD x)) W
  | _, _ => False
theorem isNon_rep {K : PySem.W.Frag} {H : Hp} {d : D} {v : V} (r : repV K H d v) : decide (v = .non) = isNonD d := by
  cases d with
  | tup ds => obtain ⟨a, xs, rfl, _⟩ := r; rfl
  | _ => rw [show v = _ from r]; rfl
theorem dop_is : DOp X (compareOp .Is) dIs := (OpR.or op_is_bl op_isN).imp fun x y H Q h => by
  obtain ⟨d, e, W, P, q, r1, r2, rw, h, k⟩ := h
  unfold dIs at h
  split at h
  · exact .inl ⟨_, _, r1, r2, k (.bl _) W P _ H .refl rfl rw h⟩
  · exact .inr ⟨r2, by rw [isNon_rep r1]; exact k (.bl _) W P _ H .refl rfl rw h⟩
  · exact h.elim
theorem dop_isnot : DOp X (compareOp .IsNot) dIsNot := (OpR.or op_isnot_bl op_notN).imp fun x y H Q h => by
  obtain ⟨d, e, W, P, q, r1, r2, rw, h, k⟩ := h
  unfold dIsNot at h
  split at h
  · exact .inl ⟨_, _, r1, r2, k (.bl _) W P _ H .refl rfl rw h⟩
  · exact .inr ⟨r2, by rw [isNon_rep r1]; exact k (.bl _) W P _ H .refl rfl rw h⟩
  · exact h.elim

/-! ### in, not in -/
/-- x in a list -/
def memB (rf : Addr → Option PyData) (x : D) (es : List D) : Option Bool :=
  if (flatD x && es.all flatD) = true then some (inV (toV x) (es.map toV)) else
  match pyIn rf x, pyIns rf es with
    | some p, some ps => if (SeqAt.shaped p && SeqAt.shaped (.list ps)) = true then some (ps.any fun z => PyData.eqv z p) else none
    | _, _ => none
def rInM : D → List D → Wd → DK → Prop := fun x es W q => match memB (rfD W.hp deepN) x es with
  | some b => q (.bl b) W
  | none => False
def rNotInM : D → List D → Wd → DK → Prop := fun x es W q => match memB (rfD W.hp deepN) x es with
  | some b => q (.bl (!b)) W
  | none => False
theorem mem_cases {W : Wd} {P : Addr → Dh} {H : Hp} {x : D} {ys : List D} {c : Addr} {v : V} {w : List V} {b : Bool} (rw : RepW X.K W P H) (hc : H c = some (.lst w)) (r1 : repV X.K H x v) (r2 : repVs X.K H ys w) (e : memB (rfD W.hp deepN) x ys = some b) :
    (flatV v = true ∧ w.all flatV = true ∧ inV v w = b) ∨ ∃ p ps, Dp X.K H v p ∧ Dp X.K H (.ref c) (.list ps) ∧ SeqAt.shaped p = true ∧ SeqAt.shaped (.list ps) = true ∧ (ps.any fun z => PyData.eqv z p) = b := by
  unfold memB at e
  split at e
  · rename_i f
    rw [Bool.and_eq_true] at f
    cases e
    rw [repV_flat f.1 r1, repVs_flat f.2 r2]
    exact .inl ⟨flatV_of f.1, flatVs_of f.2, rfl⟩
  · split at e
    · rename_i p ps h1 h2
      split at e
      · rename_i s
        rw [Bool.and_eq_true] at s
        cases e
        exact .inr ⟨p, ps, dp_in (dp_rf rw _) _ r1 h1, .lst (.of hc) (dp_ins (dp_rf rw _) _ r2 h2), s.1, s.2, rfl⟩
      · cases e
    · cases e
theorem dop_inM (hu : X.A.units + 65 < cLine) : OpR X (compareOp .In) (up1M X.K rInM) := (OpR.or op_in_seq (op_inD hu)).imp fun x y H Q h => by
  obtain ⟨d, c, ys, es, W, P, q, r1, rfl, hc, r2, rw, h, k⟩ := h
  unfold rInM at h
  split at h
  · rename_i b eb
    have kq : Q (.bl b) H := k (.bl b) W P _ H .refl rfl rw h
    rcases mem_cases rw hc r1 r2 eb with ⟨f1, f2, e⟩ | ⟨p, ps, d1, d2, s1, s2, e⟩
    · exact .inl ⟨c, ys, rfl, .inl (.of hc), f1, f2, by rw [if_neg Bool.false_ne_true, e]; exact kq⟩
    · exact .inr ⟨p, ps, d1, d2, s1, s2, by rw [e]; exact kq⟩
  · exact h.elim
theorem dop_notInM (hu : X.A.units + 65 < cLine) : OpR X (compareOp .NotIn) (up1M X.K rNotInM) := (OpR.or op_notIn_seq (op_notInD hu)).imp fun x y H Q h => by
  obtain ⟨d, c, ys, es, W, P, q, r1, rfl, hc, r2, rw, h, k⟩ := h
  unfold rNotInM at h
  split at h
  · rename_i b eb
    have kq : Q (.bl (!b)) H := k (.bl (!b)) W P _ H .refl rfl rw h
    rcases mem_cases rw hc r1 r2 eb with ⟨f1, f2, e⟩ | ⟨p, ps, d1, d2, s1, s2, e⟩
    · exact .inl ⟨c, ys, rfl, .inl (.of hc), f1, f2, by rw [if_pos rfl, e]; exact kq⟩
    · exact .inr ⟨p, ps, d1, d2, s1, s2, by rw [e]; exact kq⟩
  · exact h.elim
/-- x in a tuple (flat), a sign in a text -/
def dIn : DR2 := fun x y W q => match y with
  | .tup es => flatD x = true ∧ es.all flatD = true ∧ q (.bl (inV (toV x) (es.map toV))) W
  | .str z => ∃ c, x = .str ⟨#[c]⟩ ∧ q (.bl (decide (c ∈ z.cps.toList))) W
  | _ => False
def dNotIn : DR2 := fun x y W q => match y with
  | .tup es => flatD x = true ∧ es.all flatD = true ∧ q (.bl (!inV (toV x) (es.map toV))) W
  | .str z => ∃ c, x = .str ⟨#[c]⟩ ∧ q (.bl (!decide (c ∈ z.cps.toList))) W
  | _ => False
theorem dop_in : DOp X (compareOp .In) dIn := (OpR.or op_in_seq op_in_sign).imp fun x y H Q h => by
  obtain ⟨d, e, W, P, q, r1, r2, rw, h, k⟩ := h
  cases e <;> first | exact h.elim | skip
  · obtain ⟨c, rfl, h⟩ := h
    exact .inr ⟨c, _, r1, r2, k (.bl _) W P _ H .refl rfl rw h⟩
  · obtain ⟨f1, f2, h⟩ := h
    obtain ⟨a, xs, rfl, hs, r⟩ := r2
    have kq := k (.bl _) W P _ H .refl rfl rw h
    rw [← repV_flat f1 r1, ← repVs_flat f2 r] at kq
    exact .inl ⟨a, xs, rfl, .inr hs.1, by rw [repV_flat f1 r1]; exact flatV_of f1, by rw [repVs_flat f2 r]; exact flatVs_of f2, by rw [if_neg Bool.false_ne_true]; exact kq⟩
theorem dop_notIn : DOp X (compareOp .NotIn) dNotIn := (OpR.or op_notIn_seq op_notIn_sign).imp fun x y H Q h => by
  obtain ⟨d, e, W, P, q, r1, r2, rw, h, k⟩ := h
  cases e <;> first | exact h.elim | skip
  · obtain ⟨c, rfl, h⟩ := h
    exact .inr ⟨c, _, r1, r2, k (.bl _) W P _ H .refl rfl rw h⟩
  · obtain ⟨f1, f2, h⟩ := h
    obtain ⟨a, xs, rfl, hs, r⟩ := r2
    have kq := k (.bl _) W P _ H .refl rfl rw h
    rw [← repV_flat f1 r1, ← repVs_flat f2 r] at kq
    exact .inl ⟨a, xs, rfl, .inr hs.1, by rw [repV_flat f1 r1]; exact flatV_of f1, by rw [repVs_flat f2 r]; exact flatVs_of f2, by rw [if_pos rfl]; exact kq⟩

/-! ### lists: +, *, tuple * int -/
def rCatL : DRM (List D) := fun ds es W q => Sz (ds.length + es.length) ∧ q (ds ++ es) W
theorem dop_catL : OpR X (binaryOp .Add) (upMML X.K rCatL) := op_cat.imp fun x y H Q h => by
  obtain ⟨a, c, xs, ys, ds, es, W, P, q, rfl, rfl, ha, hc, r1, r2, rw, h, k⟩ := h
  exact ⟨a, c, xs, ys, rfl, rfl, ha, hc, by rw [← repVs_len r1, ← repVs_len r2]; exact h.1.le, arr_newLst k (repVs_append r1 r2) rw h.2⟩
theorem repVs_rep {K : PySem.W.Frag} {H : Hp} {ds : List D} {xs : List V} (r : repVs K H ds xs) : ∀ n : Nat, repVs K H (List.replicate n ds).flatten (List.replicate n xs).flatten
  | 0 => rfl
  | n + 1 => by
    rw [List.replicate_succ, List.replicate_succ, List.flatten_cons, List.flatten_cons]
    exact repVs_append r (repVs_rep r n)
def rRepL : List D → D → Wd → (List D → Wd → Prop) → Prop := fun ds y W q => match y with
  | .int k => -(2 ^ 63) ≤ k ∧ k < 2 ^ 63 ∧ Sz (ds.length * k.toNat) ∧ q (List.replicate k.toNat ds).flatten W
  | _ => False
theorem dop_repL : OpR X (binaryOp .Mult) (upM1L X.K rRepL) := op_rep.imp fun x y H Q h => by
  obtain ⟨d, a, xs, ds, W, P, q, r2, rfl, ha, r1, rw, h, k⟩ := h
  cases d <;> first | exact h.elim | skip
  obtain ⟨h1, h2, h3, h⟩ := h
  exact ⟨a, _, xs, rfl, r2, ha, h1, h2, by rw [← repVs_len r1]; exact h3.le, arr_newLst k (repVs_rep r1 _) rw h⟩

/-! ### places -/
theorem atI_rep {K : PySem.W.Frag} {H : Hp} {ds : List D} {xs : List V} {i : Int} {d : D} (r : repVs K H ds xs) (h : atI ds i = some d) : ∃ x, atI xs i = some x ∧ repV K H d x := by
  unfold atI at h ⊢
  rw [← repVs_len r]
  cases e : ixN ds.length i with
  | none => rw [e] at h; cases h
  | some j =>
    rw [e] at h
    exact repVs_get r h
def dIx : DR2 := fun x y W q => match x, y with
  | .tup ds, .int i => (match atI ds i with
    | some d => q d W
    | none => False)
  | .str z, .int i => Sz z.length ∧ (match atI z.cps.toList i with
    | some c => q (.str ⟨#[c]⟩) W
    | none => False)
  | .ref a, .int i => (match W.hp a with
    | some (.lst ds) => (match atI ds i with
      | some d => q d W
      | none => False)
    | _ => False)
  | _, _ => False
theorem dix : IxR X (up2 X.K dIx) := ix_seq.imp fun x y H Q h => by
  obtain ⟨d, e, W, P, q, r1, r2, rw, h, k⟩ := h
  cases d <;> cases e <;> first | exact h.elim | skip
  · obtain ⟨hz, h⟩ := h
    split at h
    · rename_i c ec
      exact .inr (.inr ⟨_, _, c, r1, r2, hz.le, ec, k (.str _) W P _ H .refl rfl rw h⟩)
    · exact h.elim
  · simp only [dIx] at h
    split at h
    · rename_i ds eds
      split at h
      · rename_i d ed
        obtain ⟨u, h1, xs, rfl, h2⟩ := rw.vis _ _ eds
        obtain ⟨x, e1, e2⟩ := atI_rep h2 ed
        exact .inl ⟨_, xs, _, x, r1, r2, .of h1, e1, k d W P x H .refl e2 rw h⟩
      · exact h.elim
    · exact h.elim
  · simp only [dIx] at h
    split at h
    · rename_i d ed
      obtain ⟨p, xs, rfl, hs, r⟩ := r1
      obtain ⟨x, e1, e2⟩ := atI_rep r ed
      exact .inr (.inl ⟨p, xs, _, x, rfl, r2, hs.1, e1, k d W P x H .refl e2 rw h⟩)
    · exact h.elim
theorem de_ix (ha : PE X a (upE X.K Ed Ex ta)) (hb : PE X b (upE X.K Ed Ex tb)) (hs : PlainIx b := by exact fun _ _ => rfl) : PE X (.Subscript a b pos) (upE X.K Ed Ex (dOp dIx ta tb)) := (pe_ix dix ha hb hs).imp fun _ _ _ h => up_op h
/-- an item of a fresh list -/
def rIxL : List D → D → Wd → DK → Prop := fun ds y W q => match y with
  | .int i => (match atI ds i with
    | some d => q d W
    | none => False)
  | _ => False
theorem dixL : IxR X (upM1 X.K rIxL) := ix_list.imp fun x y H Q h => by
  obtain ⟨e, a, xs, ds, W, P, q, r2, rfl, ha, r1, rw, h, k⟩ := h
  cases e <;> first | exact h.elim | skip
  simp only [rIxL] at h
  split at h
  · rename_i d ed
    obtain ⟨x, e1, e2⟩ := atI_rep r1 ed
    exact ⟨a, xs, _, x, rfl, r2, .of ha, e1, k d W P x H .refl e2 rw h⟩
  · exact h.elim
theorem de_ixl (ha : PE X a (upL X.K Ed Ex tL)) (hb : PE X b (upE X.K Ed Ex tb)) (hs : PlainIx b := by exact fun _ _ => rfl) : PE X (.Subscript a b pos) (upE X.K Ed Ex (dOpM1 rIxL tL tb)) := de_ixL dixL ha hb hs
theorem atI_all {α : Type} {ds : List α} {i : Int} {p : α → Prop} (h0 : 0 ≤ i) (h1 : i < ds.length) (h : ∀ d ∈ ds, p d) : ∃ d, atI ds i = some d ∧ p d := by
  have hj : i.toNat < ds.length := by omega
  refine ⟨ds[i.toNat], ?_, h _ (List.getElem_mem hj)⟩
  have := atI_nat (xs := ds) (j := i.toNat) (v := ds[i.toNat]) (List.getElem?_eq_getElem hj)
  rwa [Int.toNat_of_nonneg h0] at this

/-! ### slices -/
abbrev TOD := Sd → Wd → (Option Int → Wd → Prop) → Prop
def upO (K : PySem.W.Frag) (Ed : WXD) (Ex : WX) (t : TOD) : TO := fun σ H Q => ∃ δ W P q, RepS K H δ σ ∧ RepW K W P H ∧ XArr K W P H Ed Ex ∧ t δ W q ∧ ∀ o W' P' H', Step K W P H W' P' H' → RepW K W' P' H' → q o W' → Q o H'
def dNoPart : TOD := fun _ W q => q none W
def dPart (t : TED) : TOD := fun δ W q => t δ W fun x W1 => match x with
  | .int i => q (some i) W1
  | _ => False
theorem _root_.L2.PO.imp {X : Cx} {e : Option Expr} {t t' : TO} (h : PO X e t) (i : ∀ σ H Q, t' σ H Q → t σ H Q) : PO X e t' := ⟨fun pins s σ H Q I hw => h.run pins s σ H Q I (i _ _ _ hw)⟩
theorem do_none : PO X none (upO X.K Ed Ex dNoPart) := po_none.imp fun _ _ _ h => by
  obtain ⟨δ, W, P, q, rs, rw, x, h, k⟩ := h
  exact k none W P _ .refl rw h
theorem do_some (h : PE X e (upE X.K Ed Ex ta)) : PO X (some e) (upO X.K Ed Ex (dPart ta)) := (po_some h).imp fun _ _ _ h => by
  obtain ⟨δ, W, P, q, rs, rw, x, h, k⟩ := h
  refine ⟨δ, W, P, _, rs, rw, x, h, fun d W1 P1 v H1 s1 r1 rw1 h1 => ?_⟩
  cases d <;> first | exact h1.elim | skip
  exact ⟨_, r1, k _ W1 P1 H1 s1 rw1 h1⟩
/-- xs[lo:hi] -/
def cutD {α : Type} (xs : List α) (lo hi : Option Int) : List α := (xs.drop (HT.sIx xs.length 0 lo)).take (HT.sIx xs.length xs.length hi - HT.sIx xs.length 0 lo)
theorem repVs_cut {K : PySem.W.Frag} {H : Hp} {ds : List D} {xs : List V} (r : repVs K H ds xs) (lo hi : Option Int) : repVs K H (cutD ds lo hi) (cutV xs lo hi) := by
  unfold cutD cutV
  rw [← repVs_len r]
  exact repVs_take _ (repVs_drop _ r)
def dSlV : D → Option Int → Option Int → Wd → DK → Prop := fun x lo hi W q => match x with
  | .tup ds => q (.tup (cutD ds lo hi)) W
  | .str z => Sz z.length ∧ q (.str (cutS z lo hi)) W
  | _ => False
def dSl (ta : TED) (tl th : TOD) : TED := fun δ W q => ta δ W fun x W1 => tl δ W1 fun l W2 => th δ W2 fun u W3 => dSlV x l u W3 q
theorem _root_.L2.SlR.imp {X : Cx} {r r' : V → Option Int → Option Int → Hp → VK → Prop} (h : SlR X r) (i : ∀ x lo hi H Q, r' x lo hi H Q → r x lo hi H Q) : SlR X r' := fun pins s σ H x v vl vu lo hi sl Q I rx hs p1 p2 q => h pins s σ H x v vl vu lo hi sl Q I rx hs p1 p2 (i _ _ _ _ _ q)
def upSl (K : PySem.W.Frag) : V → Option Int → Option Int → Hp → VK → Prop := fun x lo hi H Q => ∃ d W P q, repV K H d x ∧ RepW K W P H ∧ dSlV d lo hi W q ∧ Arr K W P H q Q
theorem dsl : SlR X (upSl X.K) := (SlR.or sl_tupA sl_str).imp fun x lo hi H Q h => by
  obtain ⟨d, W, P, q, r, rw, h, k⟩ := h
  cases d <;> first | exact h.elim | skip
  · exact .inr ⟨_, r, h.1.le, k (.str _) W P _ H .refl rfl rw h.2⟩
  · rename_i ds
    obtain ⟨a, xs, rfl, hs, r⟩ := r
    refine .inl ⟨a, xs, rfl, hs.1, fun w => ?_, fun _ => arr_newTup k (repVs_cut r lo hi) rw h⟩
    have e : cutD ds lo hi = ds := by
      unfold cutD
      rw [repVs_len r, w.1, w.2, List.drop_zero, Nat.sub_zero, ← repVs_len r, List.take_length]
    have h' : q (.tup (cutD ds lo hi)) W := h
    rw [e] at h'
    exact k (.tup ds) W P _ H .refl ⟨a, xs, rfl, hs, r⟩ rw h'
variable {lo hi : Option Expr} {tl th : TOD} {p2 : Pos}
theorem de_slice (he : PE X e (upE X.K Ed Ex ta)) (hl : PO X lo (upO X.K Ed Ex tl)) (hu : PO X hi (upO X.K Ed Ex th)) : PE X (.Subscript e (.Slice lo hi none p2) pos) (upE X.K Ed Ex (dSl ta tl th)) := (pe_slice dsl he hl hu).imp fun σ H Q h => by
  obtain ⟨δ, W, P, q, rs, rw, x, h, k⟩ := h
  refine ⟨δ, W, P, _, rs, rw, x, h, fun d W1 P1 v H1 s1 r1 rw1 h1 => ?_⟩
  refine ⟨δ, W1, P1, _, rs.step s1, rw1, x.after s1, h1, fun l W2 P2 H2 s2 rw2 h2 => ?_⟩
  refine ⟨δ, W2, P2, _, rs.step (s1.trans s2), rw2, x.after (s1.trans s2), h2, fun u W3 P3 H3 s3 rw3 h3 => ?_⟩
  exact ⟨d, W3, P3, q, repV_step r1 (s2.trans s3), rw3, h3, k.after (s1.trans (s2.trans s3))⟩
/-- a list's slice, a new list -/
def dSlL (ta : TED) (tl th : TOD) : TAD := fun δ W q => ta δ W fun x W1 => tl δ W1 fun l W2 => th δ W2 fun u W3 => lstAt W3 x fun ds => q (cutD ds l u) W3
theorem dl_slice (he : PE X e (upE X.K Ed Ex ta)) (hl : PO X lo (upO X.K Ed Ex tl)) (hu : PO X hi (upO X.K Ed Ex th)) : PE X (.Subscript e (.Slice lo hi none p2) pos) (upL X.K Ed Ex (dSlL ta tl th)) := (pe_slice sl_list he hl hu).imp fun σ H Q h => by
  obtain ⟨δ, W, P, q, rs, rw, x, h, k⟩ := h
  refine ⟨δ, W, P, _, rs, rw, x, h, fun d W1 P1 v H1 s1 r1 rw1 h1 => ?_⟩
  refine ⟨δ, W1, P1, _, rs.step s1, rw1, x.after s1, h1, fun l W2 P2 H2 s2 rw2 h2 => ?_⟩
  refine ⟨δ, W2, P2, _, rs.step (s1.trans s2), rw2, x.after (s1.trans s2), h2, fun u W3 P3 H3 s3 rw3 h3 => ?_⟩
  obtain ⟨a, ds, xs, rfl, rfl, _, g1, g2, g3⟩ := lstAt_rep rw3 (repV_step r1 (s2.trans s3)) h3
  exact ⟨a, xs, rfl, .of g1, arr_newLst (k.after (s1.trans (s2.trans s3))) (repVs_cut g2 l u) rw3 g3⟩
end
end DL

namespace DL
open PySem L2

/-! ### what a def promises, over data -/
abbrev XDf := Value → Option Addr → Wd → Prop
abbrev DSp := List D → Wd → DK → XDf → Prop
abbrev E0D : XDf := fun _ _ _ => False
def ArrX (K : PySem.W.Frag) (W : Wd) (P : Addr → Dh) (H : Hp) (Ed : XDf) (E : XK) : Prop :=
  ∀ c dx W' P' H', Step K W P H W' P' H' → RepW K W' P' H' → Ed c dx W' → E c dx H'
def upSp (K : PySem.W.Frag) (d : DSp) : Sp := fun vs H Q E => ∃ ds W P q Ed, repVs K H ds vs ∧ RepW K W P H ∧ d ds W q Ed ∧ Arr K W P H q Q ∧ ArrX K W P H Ed E
def dCall (d : DSp) (tA : TAD) : TED := fun δ W q => tA δ W fun ds W1 => d ds W1 q E0D
def dCallX (d : DSp) (Ed : WXD) (tA : TAD) : TED := fun δ W q => tA δ W fun ds W1 => d ds W1 q fun c dx W2 => Ed c dx δ W2
def dCB (r : DCR) (tA : TAD) : TED := fun δ W q => tA δ W fun ds W1 => r ds W1 q
section
variable {X : Cx} {Ed : WXD} {Ex : WX} {e a b c : Expr} {es rest : List Expr} {ta tb tc : TED} {tA tB tL : TAD} {t1 t2 : TTD} {pos p : Pos} {x : Str}
variable {CX : CXT} {k : Nat} {f C : Addr} {fd : FuncData} {ps : List Str} {d : DSp}
theorem de_call (F : FnOk X.prog X.w X.K X.mg X.base CX k f fd ps (upSp X.K d)) (hr : Room k X.A) (hg : Gl X x) (hm : X.mg x = some (.ref f)) (hk : PySem.W.keepIn X.K (.ref f) = true) (hb : Binds X.K fd ps []) (hx : Passes CX X E0)
    (ha : PA X (e :: es) (upA X.K Ed Ex tA)) (hdb : (x == ("__debug__" : Str)) = false := by decide) (he : starEach (e :: es) X.env = (false, eval e X.env) :: starEach es X.env := by rfl) (hpl : (backTo pos (starEach es X.env)).any (·.1) = false := by rfl) :
    PE X (.Call (.Name x p) (e :: es) [] pos) (upE X.K Ed Ex (dCall d tA)) := (pe_call F hr hg hm hk hb .nil hx ha hdb he hpl).imp fun _ _ _ h => by
  obtain ⟨δ, W, P, q, rs, rw, x, h, k⟩ := h
  refine ⟨δ, W, P, _, rs, rw, x, h, fun ds W1 P1 vs H1 s1 r1 rw1 h1 => ?_⟩
  show upSp X.K d (vs ++ []) H1 _ E0
  rw [List.append_nil]
  exact ⟨ds, W1, P1, q, E0D, r1, rw1, h1, k.after s1, fun _ _ _ _ _ _ _ z => z⟩
theorem de_callX (F : FnOk X.prog X.w X.K X.mg X.base (L2.CX X.prog X.w) k f fd ps (upSp X.K d)) (hr : Room k X.A) (hg : Gl X x) (hm : X.mg x = some (.ref f)) (hk : PySem.W.keepIn X.K (.ref f) = true) (hb : Binds X.K fd ps []) (tk : Takes X Ex)
    (ha : PA X (e :: es) (upA X.K Ed Ex tA)) (hdb : (x == ("__debug__" : Str)) = false := by decide) (he : starEach (e :: es) X.env = (false, eval e X.env) :: starEach es X.env := by rfl) (hpl : (backTo pos (starEach es X.env)).any (·.1) = false := by rfl) :
    PE X (.Call (.Name x p) (e :: es) [] pos) (upE X.K Ed Ex (dCallX d Ed tA)) := (pe_callS F hr hg hm hk hb (passAt tk) ha hdb he hpl).imp fun σ _ _ h => by
  obtain ⟨δ, W, P, q, rs, rw, x, h, k⟩ := h
  refine ⟨δ, W, P, _, rs, rw, x, h, fun ds W1 P1 vs H1 s1 r1 rw1 h1 => ?_⟩
  refine ⟨ds, W1, P1, q, _, r1, rw1, h1, k.after s1, fun c dx W2 P2 H2 s2 rw2 h2 => ?_⟩
  exact x.after s1 c dx δ W2 P2 σ H2 s2 ((rs.step s1).step s2) rw2 h2
theorem up_cb {K : PySem.W.Frag} {r : DCR} {σ : St} {H : Hp} {Q : VK} (h : upE K Ed Ex (dCB r tA) σ H Q) : tCB (upC K r) (upA K Ed Ex tA) σ H Q := by
  obtain ⟨δ, W, P, q, rs, rw, x, h, k⟩ := h
  refine ⟨δ, W, P, _, rs, rw, x, h, fun ds W1 P1 vs H1 s1 r1 rw1 h1 => ?_⟩
  exact ⟨ds, W1, P1, q, r1, rw1, h1, k.after s1⟩
theorem de_callB {id : String} {r : DCR} (hc : CallR X (.builtin id) (upC X.K r)) (hg : Gl X x) (hm : X.mg x = none) (hv : bootBuiltins x = some (.builtin id)) (ha : PA X (e :: es) (upA X.K Ed Ex tA)) (hn : x ≠ "__name__" := by decide) (hdb : (x == ("__debug__" : Str)) = false := by decide)
    (he : starEach (e :: es) X.env = (false, eval e X.env) :: starEach es X.env := by rfl) (hpl : (backTo pos (starEach es X.env)).any (·.1) = false := by rfl) : PE X (.Call (.Name x p) (e :: es) [] pos) (upE X.K Ed Ex (dCB r tA)) := (pe_callB hc hg hm hv ha hn hdb he hpl).imp fun _ _ _ h => up_cb h
theorem de_callTy {T : String} {r : DCR} (hc : CallR X (.type T) (upC X.K r)) (hg : Gl X x) (hm : X.mg x = none) (hv : bootBuiltins x = some (.type T)) (ha : PA X (e :: es) (upA X.K Ed Ex tA)) (hn : x ≠ "__name__" := by decide) (hdb : (x == ("__debug__" : Str)) = false := by decide)
    (he : starEach (e :: es) X.env = (false, eval e X.env) :: starEach es X.env := by rfl) (hpl : (backTo pos (starEach es X.env)).any (·.1) = false := by rfl) : PE X (.Call (.Name x p) (e :: es) [] pos) (upE X.K Ed Ex (dCB r tA)) := (pe_callTy hc hg hm hv ha hn hdb he hpl).imp fun _ _ _ h => up_cb h
/-- a built-in called on one list, fresh or seen -/
def upCM (K : PySem.W.Frag) (r : List D → Wd → DK → Prop) : List V → Hp → VK → Prop := fun vs H Q => ∃ a xs ds W P q, vs = [.ref a] ∧ H a = some (.lst xs) ∧ repVs K H ds xs ∧ RepW K W P H ∧ r ds W q ∧ Arr K W P H q Q
def upCML (K : PySem.W.Frag) (r : List D → Wd → (List D → Wd → Prop) → Prop) : List V → Hp → VK → Prop := fun vs H Q => ∃ a xs ds W P q, vs = [.ref a] ∧ H a = some (.lst xs) ∧ repVs K H ds xs ∧ RepW K W P H ∧ r ds W q ∧ ArrL K W P H q Q
def dCM {β : Type} (r : List D → Wd → (β → Wd → Prop) → Prop) (tA : TAD) : Sd → Wd → (β → Wd → Prop) → Prop := fun δ W q => tA δ W fun ds W1 => r ds W1 q
theorem pa_m (ha : PE X e (upM X.K Ed Ex tA)) (hs : starEach [e] X.env = (false, eval e X.env) :: starEach [] X.env := by rfl) : PA X [e] (tCons (upM X.K Ed Ex tA) tNil) := pa_cons ha pa_nil hs
theorem up_cm {K : PySem.W.Frag} {r : List D → Wd → DK → Prop} {σ : St} {H : Hp} {Q : VK} (h : upE K Ed Ex (dCM r tA) σ H Q) : tCB (upCM K r) (tCons (upM K Ed Ex tA) tNil) σ H Q := by
  obtain ⟨δ, W, P, q, rs, rw, x, h, k⟩ := h
  exact ⟨δ, W, P, _, rs, rw, x, h, fun ds W1 P1 a xs H1 s1 g1 r1 rw1 h1 => ⟨a, xs, ds, W1, P1, q, rfl, g1, r1, rw1, h1, k.after s1⟩⟩
theorem up_cml {K : PySem.W.Frag} {r : List D → Wd → (List D → Wd → Prop) → Prop} {σ : St} {H : Hp} {Q : VK} (h : upL K Ed Ex (dCM r tA) σ H Q) : tCB (upCML K r) (tCons (upM K Ed Ex tA) tNil) σ H Q := by
  obtain ⟨δ, W, P, q, rs, rw, x, h, k⟩ := h
  exact ⟨δ, W, P, _, rs, rw, x, h, fun ds W1 P1 a xs H1 s1 g1 r1 rw1 h1 => ⟨a, xs, ds, W1, P1, q, rfl, g1, r1, rw1, h1, k.after s1⟩⟩
theorem de_callBM {id : String} {r : List D → Wd → DK → Prop} (hc : CallR X (.builtin id) (upCM X.K r)) (hg : Gl X x) (hm : X.mg x = none) (hv : bootBuiltins x = some (.builtin id)) (ha : PE X e (upM X.K Ed Ex tA)) (hn : x ≠ "__name__" := by decide) (hdb : (x == ("__debug__" : Str)) = false := by decide)
    (he : starEach [e] X.env = (false, eval e X.env) :: starEach [] X.env := by rfl) (hpl : (backTo pos (starEach [] X.env)).any (·.1) = false := by rfl) : PE X (.Call (.Name x p) [e] [] pos) (upE X.K Ed Ex (dCM r tA)) := (pe_callB hc hg hm hv (pa_m ha he) hn hdb he hpl).imp fun _ _ _ h => up_cm h
theorem de_callTyM {T : String} {r : List D → Wd → DK → Prop} (hc : CallR X (.type T) (upCM X.K r)) (hg : Gl X x) (hm : X.mg x = none) (hv : bootBuiltins x = some (.type T)) (ha : PE X e (upM X.K Ed Ex tA)) (hn : x ≠ "__name__" := by decide) (hdb : (x == ("__debug__" : Str)) = false := by decide)
    (he : starEach [e] X.env = (false, eval e X.env) :: starEach [] X.env := by rfl) (hpl : (backTo pos (starEach [] X.env)).any (·.1) = false := by rfl) : PE X (.Call (.Name x p) [e] [] pos) (upE X.K Ed Ex (dCM r tA)) := (pe_callTy hc hg hm hv (pa_m ha he) hn hdb he hpl).imp fun _ _ _ h => up_cm h
theorem dl_callBM {id : String} {r : List D → Wd → (List D → Wd → Prop) → Prop} (hc : CallR X (.builtin id) (upCML X.K r)) (hg : Gl X x) (hm : X.mg x = none) (hv : bootBuiltins x = some (.builtin id)) (ha : PE X e (upM X.K Ed Ex tA)) (hn : x ≠ "__name__" := by decide) (hdb : (x == ("__debug__" : Str)) = false := by decide)
    (he : starEach [e] X.env = (false, eval e X.env) :: starEach [] X.env := by rfl) (hpl : (backTo pos (starEach [] X.env)).any (·.1) = false := by rfl) : PE X (.Call (.Name x p) [e] [] pos) (upL X.K Ed Ex (dCM r tA)) := (pe_callB hc hg hm hv (pa_m ha he) hn hdb he hpl).imp fun _ _ _ h => up_cml h
theorem dl_callTyM {T : String} {r : List D → Wd → (List D → Wd → Prop) → Prop} (hc : CallR X (.type T) (upCML X.K r)) (hg : Gl X x) (hm : X.mg x = none) (hv : bootBuiltins x = some (.type T)) (ha : PE X e (upM X.K Ed Ex tA)) (hn : x ≠ "__name__" := by decide) (hdb : (x == ("__debug__" : Str)) = false := by decide)
    (he : starEach [e] X.env = (false, eval e X.env) :: starEach [] X.env := by rfl) (hpl : (backTo pos (starEach [] X.env)).any (·.1) = false := by rfl) : PE X (.Call (.Name x p) [e] [] pos) (upL X.K Ed Ex (dCM r tA)) := (pe_callTy hc hg hm hv (pa_m ha he) hn hdb he hpl).imp fun _ _ _ h => up_cml h
/-- a built-in called on a value, giving a fresh list -/
def upCL (K : PySem.W.Frag) (r : List D → Wd → (List D → Wd → Prop) → Prop) : List V → Hp → VK → Prop := fun xs H Q => ∃ ds W P q, repVs K H ds xs ∧ RepW K W P H ∧ r ds W q ∧ ArrL K W P H q Q
theorem up_cl {K : PySem.W.Frag} {r : List D → Wd → (List D → Wd → Prop) → Prop} {σ : St} {H : Hp} {Q : VK} (h : upL K Ed Ex (dCM r tA) σ H Q) : tCB (upCL K r) (upA K Ed Ex tA) σ H Q := by
  obtain ⟨δ, W, P, q, rs, rw, x, h, k⟩ := h
  exact ⟨δ, W, P, _, rs, rw, x, h, fun ds W1 P1 vs H1 s1 r1 rw1 h1 => ⟨ds, W1, P1, q, r1, rw1, h1, k.after s1⟩⟩
theorem dl_callB {id : String} {r : List D → Wd → (List D → Wd → Prop) → Prop} (hc : CallR X (.builtin id) (upCL X.K r)) (hg : Gl X x) (hm : X.mg x = none) (hv : bootBuiltins x = some (.builtin id)) (ha : PA X (e :: es) (upA X.K Ed Ex tA)) (hn : x ≠ "__name__" := by decide) (hdb : (x == ("__debug__" : Str)) = false := by decide)
    (he : starEach (e :: es) X.env = (false, eval e X.env) :: starEach es X.env := by rfl) (hpl : (backTo pos (starEach es X.env)).any (·.1) = false := by rfl) : PE X (.Call (.Name x p) (e :: es) [] pos) (upL X.K Ed Ex (dCM r tA)) := (pe_callB hc hg hm hv ha hn hdb he hpl).imp fun _ _ _ h => up_cl h
theorem dl_callTy {T : String} {r : List D → Wd → (List D → Wd → Prop) → Prop} (hc : CallR X (.type T) (upCL X.K r)) (hg : Gl X x) (hm : X.mg x = none) (hv : bootBuiltins x = some (.type T)) (ha : PA X (e :: es) (upA X.K Ed Ex tA)) (hn : x ≠ "__name__" := by decide) (hdb : (x == ("__debug__" : Str)) = false := by decide)
    (he : starEach (e :: es) X.env = (false, eval e X.env) :: starEach es X.env := by rfl) (hpl : (backTo pos (starEach es X.env)).any (·.1) = false := by rfl) : PE X (.Call (.Name x p) (e :: es) [] pos) (upL X.K Ed Ex (dCM r tA)) := (pe_callTy hc hg hm hv ha hn hdb he hpl).imp fun _ _ _ h => up_cl h

/-! ### the built-ins -/
def dLenV : DCR := fun ds W q => match ds with
  | [.tup xs] => q (.int xs.length) W
  | [.str z] => Sz z.length ∧ q (.int z.length) W
  | [.ref a] => (match W.hp a with
    | some (.lst xs) => q (.int xs.length) W
    | _ => False)
  | _ => False
theorem rep1 {K : PySem.W.Frag} {H : Hp} {d : D} {vs : List V} (r : repVs K H [d] vs) : ∃ v, vs = [v] ∧ repV K H d v := by
  obtain ⟨v, r', rfl, r1, r2⟩ := r
  exact ⟨v, by rw [show r' = [] from r2], r1⟩
theorem rep2 {K : PySem.W.Frag} {H : Hp} {d e : D} {vs : List V} (r : repVs K H [d, e] vs) : ∃ v w, vs = [v, w] ∧ repV K H d v ∧ repV K H e w := by
  obtain ⟨v, r', rfl, r1, r2⟩ := r
  obtain ⟨w, rfl, r3⟩ := rep1 r2
  exact ⟨v, w, rfl, r1, r3⟩
theorem dc_len : CallR X (.builtin "len") (upC X.K dLenV) := (CallR.or call_len_seq call_len_str).imp fun xs H Q h => by
  obtain ⟨ds, W, P, q, r, rw, h, k⟩ := h
  unfold dLenV at h
  split at h
  · rename_i zs
    obtain ⟨v, rfl, a, ys, rfl, hs, r2⟩ := rep1 r
    refine .inl ⟨a, ys, rfl, .inr hs.1, ?_⟩
    rw [← repVs_len r2]
    exact k (.int _) W P _ H .refl rfl rw h
  · obtain ⟨v, rfl, r2⟩ := rep1 r
    exact .inr ⟨_, by rw [show v = V.str _ from r2], h.1.le, k (.int _) W P _ H .refl rfl rw h.2⟩
  · rename_i a
    obtain ⟨v, rfl, r2⟩ := rep1 r
    split at h
    · rename_i zs ez
      obtain ⟨u, h1, ys, rfl, h2⟩ := rw.vis _ _ ez
      refine .inl ⟨a, ys, by rw [show v = V.ref a from r2], .inl (.of h1), ?_⟩
      rw [← repVs_len h2]
      exact k (.int _) W P _ H .refl rfl rw h
    · exact h.elim
  · exact h.elim
def dLenM : List D → Wd → DK → Prop := fun ds W q => q (.int ds.length) W
theorem dc_lenM : CallR X (.builtin "len") (upCM X.K dLenM) := call_len_seq.imp fun xs H Q h => by
  obtain ⟨a, ys, ds, W, P, q, rfl, ha, r, rw, h, k⟩ := h
  refine ⟨a, ys, rfl, .inl (.of ha), ?_⟩
  rw [← repVs_len r]
  exact k (.int _) W P _ H .refl rfl rw h
def dTupM : List D → Wd → DK → Prop := fun ds W q => q (.tup ds) W
theorem dc_tupM : CallR X (.type "tuple") (upCM X.K dTupM) := call_tuple_of.imp fun xs H Q h => by
  obtain ⟨a, ys, ds, W, P, q, rfl, ha, r, rw, h, k⟩ := h
  exact ⟨a, ys, rfl, .inl ⟨.of ha, arr_newTup k r rw h⟩⟩
def dListM : List D → Wd → (List D → Wd → Prop) → Prop := fun ds W q => q ds W
theorem dc_listM : CallR X (.type "list") (upCML X.K dListM) := call_list_of.imp fun xs H Q h => by
  obtain ⟨a, ys, ds, W, P, q, rfl, ha, r, rw, h, k⟩ := h
  exact ⟨a, ys, rfl, .inl (.of ha), arr_newLst k r rw h⟩
/-- list(t) of a tuple -/
def dListT : List D → Wd → (List D → Wd → Prop) → Prop := fun ds W q => match ds with
  | [.tup xs] => q xs W
  | _ => False
theorem dc_listT : CallR X (.type "list") (upCL X.K dListT) := call_list_of.imp fun xs H Q h => by
  obtain ⟨ds, W, P, q, r, rw, h, k⟩ := h
  unfold dListT at h
  split at h
  · obtain ⟨v, rfl, a, ys, rfl, hs, r2⟩ := rep1 r
    exact ⟨a, ys, rfl, .inr hs.1, arr_newLst k r2 rw h⟩
  · exact h.elim
def dAbs : DCR := fun ds W q => match ds with
  | [.int i] => q (.int (if i < 0 then -i else i)) W
  | _ => False
theorem dc_abs : CallR X (.builtin "abs") (upC X.K dAbs) := call_abs.imp fun xs H Q h => by
  obtain ⟨ds, W, P, q, r, rw, h, k⟩ := h
  unfold dAbs at h
  split at h
  · obtain ⟨v, rfl, r2⟩ := rep1 r
    exact ⟨_, by rw [show v = V.int _ from r2], k (.int _) W P _ H .refl rfl rw h⟩
  · exact h.elim
def dInt1 : DCR := fun ds W q => match ds with
  | [.int i] => q (.int i) W
  | [.bl b] => q (.int (if b then 1 else 0)) W
  | _ => False
theorem dc_int : CallR X (.type "int") (upC X.K dInt1) := call_int1.imp fun xs H Q h => by
  obtain ⟨ds, W, P, q, r, rw, h, k⟩ := h
  unfold dInt1 at h
  split at h
  · obtain ⟨v, rfl, r2⟩ := rep1 r
    exact .inl ⟨_, by rw [show v = V.int _ from r2], k (.int _) W P _ H .refl rfl rw h⟩
  · obtain ⟨v, rfl, r2⟩ := rep1 r
    exact .inr ⟨_, by rw [show v = V.bl _ from r2], k (.int _) W P _ H .refl rfl rw h⟩
  · exact h.elim
def dMM (f : Int → Int → Int) : DCR := fun ds W q => match ds with
  | [.int i, .int j] => q (.int (f i j)) W
  | _ => False
theorem dc_max (hc : X.calm = true) : CallR X (.builtin "max") (upC X.K (dMM max)) := (call_max2 hc).imp fun xs H Q h => by
  obtain ⟨ds, W, P, q, r, rw, h, k⟩ := h
  unfold dMM at h
  split at h
  · rename_i i j
    obtain ⟨v, w, rfl, r2, r3⟩ := rep2 r
    refine ⟨_, _, by rw [show v = V.int _ from r2, show w = V.int _ from r3], k (.int _) W P _ H .refl ?_ rw h⟩
    show V.int _ = V.int _
    congr 1; split <;> omega
  · exact h.elim
theorem dc_min (hc : X.calm = true) : CallR X (.builtin "min") (upC X.K (dMM min)) := (call_min2 hc).imp fun xs H Q h => by
  obtain ⟨ds, W, P, q, r, rw, h, k⟩ := h
  unfold dMM at h
  split at h
  · rename_i i j
    obtain ⟨v, w, rfl, r2, r3⟩ := rep2 r
    refine ⟨_, _, by rw [show v = V.int _ from r2, show w = V.int _ from r3], k (.int _) W P _ H .refl ?_ rw h⟩
    show V.int _ = V.int _
    congr 1; split <;> omega
  · exact h.elim
/-- isinstance(x, T), T a built-in class -/
def tyNm (W : Wd) : D → Option String
  | .non => some "NoneType"
  | .bl _ => some "bool"
  | .int _ => some "int"
  | .str _ => some "str"
  | .tup _ => some "tuple"
  | .ref a => match W.hp a with
    | some (.lst _) => some "list"
    | some (.dK _) => some "dict"
    | some (.dT _) => some "dict"
    | some (.set _ _) => some "set"
    | _ => none
  | .ty _ => none
def isiB (a b : String) : Option Bool := match b with
  | "int" => some (decide (a = "int" ∨ a = "bool"))
  | "bool" => some (decide (a = "bool"))
  | "str" => some (decide (a = "str"))
  | "tuple" => some (decide (a = "tuple"))
  | "list" => some (decide (a = "list"))
  | _ => none
def dIsi : DCR := fun ds W q => match ds with
  | [x, .ty T] => (match tyNm W x with
    | some n => (match isiB n T with
      | some b => q (.bl b) W
      | none => False)
    | none => False)
  | _ => False
theorem isi_kit {a b : String} {r : Bool} (ha : a = "NoneType" ∨ a = "bool" ∨ a = "int" ∨ a = "str" ∨ a = "tuple" ∨ a = "list" ∨ a = "dict" ∨ a = "set") (h : isiB a b = some r) : kitB a b = some r := by
  unfold isiB at h
  split at h
  all_goals first
    | (rcases ha with rfl | rfl | rfl | rfl | rfl | rfl | rfl | rfl <;> (rw [← h]; decide +kernel))
    | cases h
theorem dc_isi : CallR X (.builtin "isinstance") (upC X.K dIsi) := call_isi.imp fun xs H Q h => by
  obtain ⟨ds, W, P, q, r, rw, h, k⟩ := h
  unfold dIsi at h
  split at h
  · rename_i x T
    obtain ⟨v, w, rfl, r2, r3⟩ := rep2 r
    split at h
    · rename_i n en
      split at h
      · rename_i b eb
        refine ⟨v, w, .type n, .type T, b, rfl, by rw [show w = V.ty T from r3]; exact .ty T, ?_, ?_, k (.bl _) W P _ H .refl rfl rw h⟩
        · cases x with
          | non => cases en; rw [show v = V.non from r2]; exact .base .non
          | bl z => cases en; rw [show v = V.bl z from r2]; exact .base (.bl z)
          | int z => cases en; rw [show v = V.int z from r2]; exact .base (.int z)
          | str z => cases en; rw [show v = V.str z from r2]; exact .base (.str z)
          | tup z =>
            cases en
            obtain ⟨a, xs, rfl, hs, _⟩ := r2
            rcases hs.1 with (hs | ⟨o, hs⟩) | ⟨o, its, m, hk, hc, _⟩
            · exact .base (.tup hs)
            · exact .fTuple hs
            · exact .kTuple hk hc
          | ref a =>
            rw [show v = V.ref a from r2]
            simp only [tyNm] at en
            split at en
            · rename_i e; cases en; obtain ⟨u, h1, xs, rfl, _⟩ := rw.vis _ _ e; exact .base (.lst h1)
            · rename_i e; cases en; obtain ⟨u, h1, xs, rfl, _⟩ := rw.vis _ _ e; exact .base (.dK h1)
            · rename_i e; cases en; obtain ⟨u, h1, xs, rfl, _⟩ := rw.vis _ _ e; exact .base (.dT h1)
            · rename_i e; cases en; obtain ⟨u, h1, h2⟩ := rw.vis _ _ e; rw [show u = HO.set _ _ from h2] at h1; exact .set h1
            · cases en
          | ty z => cases en
        · refine kit_ty (isi_kit ?_ eb)
          cases x with
          | ref a =>
            simp only [tyNm] at en
            split at en <;> first | (cases en; simp) | cases en
          | _ => first | (cases en; simp) | cases en
      · exact h.elim
    · exact h.elim
  · exact h.elim
end
end DL

namespace DL
open PySem L2

/-! ### statements -/
def dNext : TSD := fun E δ W => E.nx δ W
def dSeq (t u : TSD) : TSD := fun E δ W => t { E with nx := u E } δ W
def dBreak : TSD := fun E δ W => E.bk δ W
def dCont : TSD := fun E δ W => E.ct δ W
def dDrop (te : TED) : TSD := fun E δ W => te δ W fun _ W1 => E.nx δ W1
def dRet (te : TED) : TSD := fun E δ W => te δ W E.rt
def dRetN : TSD := fun E _ W => E.rt .non W
def dIfS (c : TTD) (t u : TSD) : TSD := fun E δ W => c δ W fun b W1 => if b = true then t E δ W1 else u E δ W1
def dNever : TSD := fun _ _ _ => False
/-- targets: a name, a tuple of names -/
inductive Tg where
  | nm (i : Nat) | tp (is : List Nat)
def gsN : List Nat → TGs
  | [] => gNil
  | i :: is => gCons (gName i) (gsN is)
def tgG (K : PySem.W.Frag) : Tg → TG
  | .nm i => gName i
  | .tp is => gTup K is.length (gsN is)
def setAll {α : Type} : List α → List Nat → List (Option α) → List (Option α)
  | d :: ds, i :: is, δ => setAll ds is (δ.set i (some d))
  | _, _, δ => δ
def tgS : Tg → List Nat
  | .nm i => [i]
  | .tp is => is
def tgD : Tg → D → Sd → Wd → (Sd → Wd → Prop) → Prop
  | .nm i, d, δ, W, q => q (δ.set i (some d)) W
  | .tp is, d, δ, W, q => match d with
    | .tup ds => ds.length = is.length ∧ q (setAll ds is δ) W
    | _ => False
def dAsg (te : TED) (g : Tg) : TSD := fun E δ W => te δ W fun d W1 => tgD g d δ W1 E.nx
theorem gsN_up {K : PySem.W.Frag} {H : Hp} {Q : St → Hp → Prop} : ∀ {ds : List D} {is : List Nat} {xs : List V} {δ : Sd} {σ : St}, repVs K H ds xs → ds.length = is.length → RepS K H δ σ →
    (∀ σ', RepS K H (setAll ds is δ) σ' → (∀ vs : List Nat, (∀ i ∈ is, i ∈ vs) → wipe σ' vs = wipe σ vs) → Q σ' H) → (∀ (i : Nat) (v : V) (τ : St) (vs : List Nat), i ∈ vs → wipe (τ.set i (some v)) vs = wipe τ vs) → gsN is xs σ H Q
  | [], [], xs, δ, σ, r, _, rs, k, w => by
    rw [show xs = [] from r]
    exact ⟨rfl, k σ rs fun _ _ => rfl⟩
  | d :: ds, i :: is, xs, δ, σ, r, hl, rs, k, w => by
    obtain ⟨x, xr, rfl, r1, r2⟩ := r
    refine ⟨x, xr, rfl, ?_⟩
    refine gsN_up r2 (by simpa using hl) (rs.set r1 i) (fun σ' rs' hw => ?_) w
    refine k σ' rs' fun vs hv => ?_
    rw [hw vs fun j hj => hv j (List.mem_cons_of_mem _ hj), w i x σ vs (hv i List.mem_cons_self)]
  | [], _ :: _, _, _, _, _, hl, _, _, _ => by simp at hl
  | _ :: _, [], _, _, _, _, hl, _, _, _ => by simp at hl
theorem wipe_in {σ : St} {i : Nat} : ∀ {vs : List Nat}, i ∈ vs → (wipe σ vs)[i]? = (σ.set i none)[i]?
  | v :: vs, h => by
    unfold wipe
    by_cases e : v = i
    · subst e
      by_cases hl : v < σ.length
      · rw [List.getElem?_set_self (by rw [wipe_length]; exact hl), List.getElem?_set_self hl]
      · rw [List.getElem?_eq_none (by rw [List.length_set, wipe_length]; omega), List.getElem?_eq_none (by rw [List.length_set]; omega)]
    · rw [List.getElem?_set_ne e]
      exact wipe_in ((List.mem_cons.mp h).resolve_left (Ne.symm e))
theorem wipe_set (i : Nat) (v : V) (τ : St) (vs : List Nat) (h : i ∈ vs) : wipe (τ.set i (some v)) vs = wipe τ vs := by
  apply List.ext_getElem?
  intro j
  by_cases hj : j ∈ vs
  · rw [wipe_in hj, wipe_in hj]
    by_cases hl : j < τ.length
    · rw [List.getElem?_set_self (by simpa using hl), List.getElem?_set_self hl]
    · rw [List.getElem?_eq_none (by simp; omega), List.getElem?_eq_none (by simp; omega)]
  · rw [wipe_out hj, wipe_out hj, List.getElem?_set_ne]
    rintro rfl; exact hj h
theorem tg_up {K : PySem.W.Frag} {W : Wd} {H : Hp} {g : Tg} {d : D} {v : V} {δ : Sd} {σ : St} {q : Sd → Wd → Prop} {Q : St → Hp → Prop} (r : repV K H d v) (rs : RepS K H δ σ) (h : tgD g d δ W q)
    (k : ∀ δ' σ', RepS K H δ' σ' → q δ' W → (∀ vs : List Nat, (∀ i ∈ tgS g, i ∈ vs) → wipe σ' vs = wipe σ vs) → Q σ' H) : tgG K g v σ H Q := by
  cases g with
  | nm i => exact k _ _ (rs.set r i) h fun vs hv => wipe_set i v σ vs (hv i List.mem_cons_self)
  | tp is =>
    cases d <;> first | exact h.elim | skip
    obtain ⟨hl, h⟩ := h
    obtain ⟨a, xs, rfl, hs, r⟩ := r
    refine ⟨a, xs, rfl, hs.1, by rw [← repVs_len r]; exact hl, ?_⟩
    exact gsN_up r hl rs (fun σ' rs' hw => k _ σ' rs' h hw) wipe_set
section
variable {X : Cx} {Ed : WXD} {Ex : WX} {e a b c : Expr} {es rest : List Expr} {ta tb tc te : TED} {tA tB tL : TAD} {t1 t2 tt : TTD} {pos p : Pos} {x : Str} {st : Stmt} {sts : List Stmt} {t u : TSD}
theorem dss_nil : PSs X [] (upS X.K Ed Ex dNext) := pss_nil.imp fun D σ H h => by
  obtain ⟨δ, W, P, E, rs, rw, x, h, k⟩ := h
  exact k.nx δ W P σ H .refl rs rw h
theorem up_seq {K : PySem.W.Frag} {D : Ends} {σ : St} {H : Hp} (h : upS K Ed Ex (dSeq t u) D σ H) : tSeq (upS K Ed Ex t) (upS K Ed Ex u) D σ H := by
  obtain ⟨δ, W, P, E, rs, rw, x, h, k⟩ := h
  exact ⟨δ, W, P, _, rs, rw, x, h, fun δ' W' P' σ' H' s rs' rw' h' => ⟨δ', W', P', E, rs', rw', x.after s, h', k.after s⟩, k.bk, k.ct, k.rt⟩
theorem dss_cons (h1 : PS X st (upS X.K Ed Ex t)) (h2 : PSs X sts (upS X.K Ed Ex u)) : PSs X (st :: sts) (upS X.K Ed Ex (dSeq t u)) := (pss_cons h1 h2).imp fun _ _ _ h => up_seq h
theorem dss_one (h1 : PS X st (upS X.K Ed Ex t)) : PSs X [st] (upS X.K Ed Ex t) := pss_one h1
theorem ds_pass : PS X (.Pass pos) (upS X.K Ed Ex dNext) := ps_pass.imp fun D σ H h => by
  obtain ⟨δ, W, P, E, rs, rw, x, h, k⟩ := h
  exact k.nx δ W P σ H .refl rs rw h
theorem ds_break : PS X (.Break pos) (upS X.K Ed Ex dBreak) := ps_break.imp fun D σ H h => by
  obtain ⟨δ, W, P, E, rs, rw, x, h, k⟩ := h
  exact k.bk δ W P σ H .refl rs rw h
theorem ds_cont : PS X (.Continue pos) (upS X.K Ed Ex dCont) := ps_continue.imp fun D σ H h => by
  obtain ⟨δ, W, P, E, rs, rw, x, h, k⟩ := h
  exact k.ct δ W P σ H .refl rs rw h
theorem ds_expr (he : PE X e (upE X.K Ed Ex te)) (hs : swapsWith e none pos.line X.env = pure false := by rfl) : PS X (.Expr e pos) (upS X.K Ed Ex (dDrop te)) := (ps_expr he hs).imp fun D σ H h => by
  obtain ⟨δ, W, P, E, rs, rw, x, h, k⟩ := h
  exact ⟨δ, W, P, _, rs, rw, x, h, fun d W1 P1 v H1 s1 r1 rw1 h1 => k.nx δ W1 P1 σ H1 s1 (rs.step s1) rw1 h1⟩
theorem ds_ret (he : PE X e (upE X.K Ed Ex te)) : PS X (.Return (some e) pos) (upS X.K Ed Ex (dRet te)) := (ps_ret he).imp fun D σ H h => by
  obtain ⟨δ, W, P, E, rs, rw, x, h, k⟩ := h
  exact ⟨δ, W, P, _, rs, rw, x, h, k.rt⟩
theorem ds_retN : PS X (.Return none pos) (upS X.K Ed Ex dRetN) := ps_retN.imp fun D σ H h => by
  obtain ⟨δ, W, P, E, rs, rw, x, h, k⟩ := h
  exact k.rt .non W P .non H .refl rfl rw h
theorem ds_if {cc : Expr} {xs ys : List Stmt} (hc : PT X cc (upT X.K Ed Ex tt)) (ha : PSs X xs (upS X.K Ed Ex t)) (hb : PSs X ys (upS X.K Ed Ex u)) : PS X (.If cc xs ys pos) (upS X.K Ed Ex (dIfS tt t u)) := (ps_if hc ha hb).imp fun D σ H h => by
  obtain ⟨δ, W, P, E, rs, rw, x, h, k⟩ := h
  refine ⟨δ, W, P, _, rs, rw, x, h, fun d W1 P1 H1 s1 rw1 h1 => ?_⟩
  cases d with
  | true => rw [if_pos rfl] at h1; exact iteT ⟨δ, W1, P1, E, rs.step s1, rw1, x.after s1, h1, k.after s1⟩
  | false => rw [if_neg Bool.false_ne_true] at h1; exact iteF ⟨δ, W1, P1, E, rs.step s1, rw1, x.after s1, h1, k.after s1⟩
theorem ds_asg {tg : Expr} {g : Tg} (he : PE X e (upE X.K Ed Ex te)) (hg : PG X tg (tgG X.K g)) (hs : swapsWithSole [tg] e pos.line X.env = pure false := by rfl) (hw : swappedStores [tg] e X.env = pure none := by rfl) (h1 : (assignEach [tg] X.env).map (·.2) = [assign tg X.env] := by rfl) : PS X (.Assign [tg] e pos) (upS X.K Ed Ex (dAsg te g)) := (ps_asg he hg hs hw h1).imp fun D σ H h => by
  obtain ⟨δ, W, P, E, rs, rw, x, h, k⟩ := h
  refine ⟨δ, W, P, _, rs, rw, x, h, fun d W1 P1 v H1 s1 r1 rw1 h1 => ?_⟩
  exact tg_up r1 (rs.step s1) h1 fun δ' σ' rs' h2 _ => k.nx δ' W1 P1 σ' H1 s1 rs' rw1 h2
/-- names = a list: unpacked -/
def dAsgL (te : TED) (is : List Nat) : TSD := fun E δ W => te δ W fun d W1 => lstAt W1 d fun ds => ds.length = is.length ∧ E.nx (setAll ds is δ) W1
theorem ds_asgL {tg : Expr} {is : List Nat} (he : PE X e (upE X.K Ed Ex te)) (hg : PG X tg (gUnl X.K is.length (gsN is))) (hs : swapsWithSole [tg] e pos.line X.env = pure false := by rfl) (hw : swappedStores [tg] e X.env = pure none := by rfl) (h1 : (assignEach [tg] X.env).map (·.2) = [assign tg X.env] := by rfl) : PS X (.Assign [tg] e pos) (upS X.K Ed Ex (dAsgL te is)) := (ps_asg he hg hs hw h1).imp fun D σ H h => by
  obtain ⟨δ, W, P, E, rs, rw, x, h, k⟩ := h
  refine ⟨δ, W, P, _, rs, rw, x, h, fun d W1 P1 v H1 s1 r1 rw1 h1 => ?_⟩
  obtain ⟨a, ds, xs, rfl, rfl, _, g1, g2, hl, h2⟩ := lstAt_rep rw1 r1 h1
  refine ⟨a, xs, rfl, .of g1, by rw [← repVs_len g2]; exact hl, ?_⟩
  exact gsN_up g2 hl (rs.step s1) (fun σ' rs' _ => k.nx _ W1 P1 σ' H1 s1 rs' rw1 h2) wipe_set
/-- o[i] = e, o a list that is seen -/
def dSetL (te to ti : TED) : TSD := fun E δ W => te δ W fun v W1 => to δ W1 fun o W2 => ti δ W2 fun i W3 => match o, i with
  | .ref a, .int k => (match W3.hp a with
    | some (.lst ds) => (match ixN ds.length k with
      | some j => E.nx δ (W3.put a (.lst (ds.set j v)))
      | none => False)
    | _ => False)
  | _, _ => False
theorem ds_setL {o i : Expr} {to ti : TED} {tpos : Pos} (he : PE X e (upE X.K Ed Ex te)) (ho : PE X o (upE X.K Ed Ex to)) (hi : PE X i (upE X.K Ed Ex ti)) (hs : swapsWithSole [.Subscript o i tpos] e pos.line X.env = pure false := by rfl) (hw : swappedStores [.Subscript o i tpos] e X.env = pure none := by rfl) (ha : ∀ v, assign (.Subscript o i tpos) X.env v = (do let ov ← holding [v] (eval o X.env); let iv ← holding [v, ov] (eval i X.env); standAt tpos; holding [v, ov, iv] (setItem ov iv v); release [v, ov, iv] []) := by intro _; rfl) (h1 : (assignEach [.Subscript o i tpos] X.env).map (·.2) = [assign (.Subscript o i tpos) X.env] := by rfl) :
    PS X (.Assign [.Subscript o i tpos] e pos) (upS X.K Ed Ex (dSetL te to ti)) := (ps_asg he (pg_sub ho hi set_list ha) hs hw h1).imp fun D σ H h => by
  obtain ⟨δ, W, P, E, rs, rw, x, h, k⟩ := h
  refine ⟨δ, W, P, _, rs, rw, x, h, fun d W1 P1 v H1 s1 r1 rw1 h1 => ?_⟩
  refine ⟨δ, W1, P1, _, rs.step s1, rw1, x.after s1, h1, fun d2 W2 P2 v2 H2 s2 r2 rw2 h2 => ?_⟩
  refine ⟨δ, W2, P2, _, rs.step (s1.trans s2), rw2, x.after (s1.trans s2), h2, fun d3 W3 P3 v3 H3 s3 r3 rw3 h3 => ?_⟩
  cases d2 with
  | ref a => ?_
  | _ => exact h3.elim
  cases d3 with
  | int kk => ?_
  | _ => exact h3.elim
  simp only at h3
  split at h3
  · rename_i ds eds
    split at h3
    · rename_i j ej
      obtain ⟨u, g1, xs, rfl, g2⟩ := rw3.vis _ _ eds
      have s03 := (s1.trans s2).trans s3
      have sw := Step.write (o := .lst (xs.set j v)) (d := .lst (ds.set j d)) rw3 eds
      refine ⟨a, xs, kk, j, r2, r3, g1, by rw [← repVs_len g2]; exact ej, ?_⟩
      refine k.nx δ _ P3 σ _ (s03.trans sw) ((rs.step s03).step sw) (rw3.write eds ⟨_, rfl, ?_⟩) h3
      exact repVs_set (repV_step r1 ((s2.trans s3).trans sw)) j (repVs_step g2 sw)
    · exact h3.elim
  · exact h3.elim
/-- x op= e -/
def dAug (i : Nat) (r : DR2) (te : TED) : TSD := fun E δ W => match δ[i]? with
  | some (some d) => te δ W fun y W1 => r d y W1 fun z W2 => E.nx (δ.set i (some z)) W2
  | _ => False
def upIp (K : PySem.W.Frag) (r : DR2) : TIp := fun x y H Q => ∃ d e W P q, repV K H d x ∧ repV K H e y ∧ RepW K W P H ∧ r d e W q ∧ Arr K W P H q Q
theorem ds_aug {i : Nat} {y : Str} {op : Operator} {r : DR2} {pos' : Pos} (hN : X.N.Nodup) (hi : X.N[i]? = some y) (hx : Loc X.env.scope y) (he : PE X e (upE X.K Ed Ex te)) (ho : PIp X op (upIp X.K r)) (hf : X.fn y = true ∨ X.env.scope.names.lookup y = some .local := by first | exact .inl rfl | exact .inr rfl | assumption) :
    PS X (.AugAssign (.Name y pos') op e pos) (upS X.K Ed Ex (dAug i r te)) := (ps_aug hN hi hx he ho hf).imp fun D σ H h => by
  obtain ⟨δ, W, P, E, rs, rw, x, h, k⟩ := h
  unfold dAug at h
  split at h
  · rename_i d ed
    obtain ⟨v, h1, h2⟩ := rs.2 i d ed
    refine ⟨v, h1, δ, W, P, _, rs, rw, x, h, fun d1 W1 P1 v1 H1 s1 r1 rw1 g1 => ?_⟩
    refine ⟨d, d1, W1, P1, _, repV_step h2 s1, r1, rw1, g1, fun d2 W2 P2 v2 H2 s2 r2 rw2 g2 => ?_⟩
    exact k.nx _ W2 P2 _ H2 (s1.trans s2) ((rs.step (s1.trans s2)).set r2 i) rw2 g2
  · exact h.elim
theorem PIp_imp {op : Operator} {t t' : TIp} (h : PIp X op t) (i : ∀ x y H Q, t' x y H Q → t x y H Q) : PIp X op t' := fun pins s σ H x y v u Q I rx ry q => h pins s σ H x y v u Q I rx ry (i _ _ _ _ q)
theorem dip_add : PIp X .Add (upIp X.K (dI2' fun i j => .int (i + j))) := PIp_imp ip_add fun x y H Q h => by
  obtain ⟨d, e, W, P, q, r1, r2, rw, h, k⟩ := h
  cases d <;> cases e <;> first | exact h.elim | skip
  exact ⟨_, _, r1, r2, k (.int _) W P _ H .refl rfl rw h⟩
end
end DL

namespace DL
open PySem L2

/-! ### what is walked -/
structure ItD where
  items : List D
  guard : Wd → Prop
def ItRep (K : PySem.W.Frag) (J : It) (it : ItD) (W1 : Wd) (P1 : Addr → Dh) (H1 : Hp) : Prop :=
  ∀ (i : Nat) W P H, Step K W1 P1 H1 W P H → RepW K W P H → it.guard W →
    (∀ d, it.items[i]? = some d → J.go i H ∧ ∀ x H', J.yld i H x H' → Step K W P H W P H' ∧ repV K H' d x ∧ RepW K W P H') ∧ (it.items.length ≤ i → J.stop i H)
theorem ItRep.after {K : PySem.W.Frag} {J : It} {it : ItD} {W1 W2 : Wd} {P1 P2 : Addr → Dh} {H1 H2 : Hp} (r : ItRep K J it W1 P1 H1) (s : Step K W1 P1 H1 W2 P2 H2) : ItRep K J it W2 P2 H2 :=
  fun i W P H s2 => r i W P H (s.trans s2)
abbrev TID := Sd → Wd → (ItD → Wd → Prop) → Prop
def upI (K : PySem.W.Frag) (Ed : WXD) (Ex : WX) (t : TID) : TI := fun σ H R => ∃ δ W P q, RepS K H δ σ ∧ RepW K W P H ∧ XArr K W P H Ed Ex ∧ t δ W q ∧
  ∀ it W' P' J H', Step K W P H W' P' H' → RepW K W' P' H' → ItRep K J it W' P' H' → q it W' → R J H'
theorem _root_.L2.PI.imp {X : Cx} {tg e : Expr} {t t' : TI} (h : PI X tg e t) (i : ∀ σ H Q, t' σ H Q → t σ H Q) : PI X tg e t' := ⟨fun pins s σ H Q I hw => h.run pins s σ H Q I (i _ _ _ hw)⟩
def gTrue : Wd → Prop := fun _ => True
/-- a list that is seen -/
def dItV (ta : TED) : TID := fun δ W q => ta δ W fun d W1 => match d with
  | .ref a => (match W1.hp a with
    | some (.lst ds) => q ⟨ds, fun W => W.hp a = some (.lst ds)⟩ W1
    | _ => False)
  | _ => False
/-- a fresh list -/
def dItL (t : TAD) : TID := fun δ W q => t δ W fun ds W1 => q ⟨ds, gTrue⟩ W1
def dItT (ta : TED) : TID := fun δ W q => ta δ W fun d W1 => match d with
  | .tup ds => q ⟨ds, gTrue⟩ W1
  | _ => False
def signs (z : Str) : List D := z.cps.toList.map fun c => D.str ⟨#[c]⟩
def dItS (ta : TED) : TID := fun δ W q => ta δ W fun d W1 => match d with
  | .str z => q ⟨signs z, gTrue⟩ W1
  | _ => False
def upto (lo : Int) (n : Nat) : List D := (List.range n).map fun i : Nat => D.int (lo + i)
def dItR1 (tA : TAD) : TID := fun δ W q => tA δ W fun ds W1 => match ds with
  | [.int j] => -(2 ^ 62) ≤ j ∧ j < 2 ^ 62 ∧ q ⟨upto 0 j.toNat, gTrue⟩ W1
  | _ => False
def dItR2 (tA : TAD) : TID := fun δ W q => tA δ W fun ds W1 => match ds with
  | [.int i, .int j] => (-(2 ^ 62) ≤ i ∧ i < 2 ^ 62 ∧ -(2 ^ 62) ≤ j ∧ j < 2 ^ 62) ∧ q ⟨upto i (j - i).toNat, gTrue⟩ W1
  | _ => False
section
variable {X : Cx} {Ed : WXD} {Ex : WX} {tg e a b c : Expr} {es rest : List Expr} {ta tb tc te : TED} {tA tB tL : TAD} {t1 t2 tt : TTD} {pos p : Pos} {x : Str} {st : Stmt} {sts : List Stmt} {t u tb' : TSD} {src : TID}
theorem ir_list {K : PySem.W.Frag} {W1 : Wd} {P1 : Addr → Dh} {H1 : Hp} {a : Addr} {ds : List D} : ItRep K (Itl K a) ⟨ds, fun W => W.hp a = some (.lst ds)⟩ W1 P1 H1 := fun i W P H _ rw g => by
  obtain ⟨u, h1, xs, rfl, h2⟩ := rw.vis a _ g
  refine ⟨fun d ed => ?_, fun hl => ⟨xs, .of h1, by rw [← repVs_len h2]; exact hl⟩⟩
  obtain ⟨x, e1, e2⟩ := repVs_get h2 ed
  refine ⟨⟨xs, x, .of h1, e1⟩, fun y H' ⟨eh, hy⟩ => ?_⟩
  subst eh
  have := hy xs (.of h1)
  rw [e1] at this; cases this
  exact ⟨.refl, e2, rw⟩
theorem di_v (ha : PE X a (upE X.K Ed Ex ta)) : PI X tg a (upI X.K Ed Ex (dItV ta)) := (pi_list ha).imp fun _ _ _ h => by
  obtain ⟨δ, W, P, q, rs, rw, x, h, k⟩ := h
  refine ⟨δ, W, P, _, rs, rw, x, h, fun d W1 P1 v H1 s1 r1 rw1 h1 => ?_⟩
  cases d with
  | ref a => ?_
  | _ => exact h1.elim
  simp only at h1
  split at h1
  · rename_i ds eds
    obtain ⟨u, g1, xs, rfl, g2⟩ := rw1.vis _ _ eds
    exact ⟨a, r1, ⟨xs, .of g1⟩, k _ W1 P1 _ H1 s1 rw1 ir_list h1⟩
  · exact h1.elim
theorem di_l (ha : PE X a (upL X.K Ed Ex tA)) : PI X tg a (upI X.K Ed Ex (dItL tA)) := (pi_list ha).imp fun _ _ _ h => by
  obtain ⟨δ, W, P, q, rs, rw, x, h, k⟩ := h
  refine ⟨δ, W, P, _, rs, rw, x, h, fun ds W1 P1 a xs H1 s1 h0 g1 n1 r1 rw1 h1 => ?_⟩
  refine ⟨a, rfl, ⟨xs, .of g1⟩, k _ W1 P1 _ H1 s1 rw1 (fun i W2 P2 H2 s2 rw2 _ => ?_) h1⟩
  have g2 := s2.keep a _ g1 n1
  have r2 := repVs_step r1 s2
  refine ⟨fun d ed => ?_, fun hl => ⟨xs, .of g2, by rw [← repVs_len r2]; exact hl⟩⟩
  obtain ⟨x, e1, e2⟩ := repVs_get r2 ed
  refine ⟨⟨xs, x, .of g2, e1⟩, fun y H' ⟨eh, hy⟩ => ?_⟩
  subst eh
  have := hy xs (.of g2)
  rw [e1] at this; cases this
  exact ⟨.refl, e2, rw2⟩
theorem di_t (ha : PE X a (upE X.K Ed Ex ta)) : PI X tg a (upI X.K Ed Ex (dItT ta)) := (pi_tup ha).imp fun _ _ _ h => by
  obtain ⟨δ, W, P, q, rs, rw, x, h, k⟩ := h
  refine ⟨δ, W, P, _, rs, rw, x, h, fun d W1 P1 v H1 s1 r1 rw1 h1 => ?_⟩
  cases d with
  | tup ds => ?_
  | _ => exact h1.elim
  obtain ⟨a, xs, rfl, hs, r⟩ := r1
  refine ⟨a, rfl, ⟨xs, hs.1⟩, k _ W1 P1 _ H1 s1 rw1 (fun i W2 P2 H2 s2 rw2 _ => ?_) h1⟩
  have g2 := s2.tup.q a xs hs.1
  have r2 := repVs_step r s2
  refine ⟨fun d ed => ?_, fun hl => ⟨xs, g2, by rw [← repVs_len r2]; exact hl⟩⟩
  obtain ⟨x, e1, e2⟩ := repVs_get r2 ed
  refine ⟨⟨xs, x, g2, e1⟩, fun y H' ⟨eh, hy⟩ => ?_⟩
  subst eh
  have := hy xs g2
  rw [e1] at this; cases this
  exact ⟨.refl, e2, rw2⟩
theorem di_s (ha : PE X a (upE X.K Ed Ex ta)) : PI X tg a (upI X.K Ed Ex (dItS ta)) := (pi_str ha).imp fun _ _ _ h => by
  obtain ⟨δ, W, P, q, rs, rw, x, h, k⟩ := h
  refine ⟨δ, W, P, _, rs, rw, x, h, fun d W1 P1 v H1 s1 r1 rw1 h1 => ?_⟩
  cases d with
  | str z => ?_
  | _ => exact h1.elim
  refine ⟨z, r1, k _ W1 P1 _ H1 s1 rw1 (fun i W2 P2 H2 s2 rw2 _ => ?_) h1⟩
  refine ⟨fun d ed => ?_, fun hl => (by have q := hl; simp only [signs, List.length_map, Array.length_toList] at q; exact q)⟩
  simp only [signs, List.getElem?_map, Array.getElem?_toList] at ed
  cases ec : z.cps[i]? with
  | none => rw [ec] at ed; cases ed
  | some c =>
    rw [ec] at ed
    cases ed
    refine ⟨(Array.getElem?_eq_some_iff.mp ec).1, fun y H' ⟨eh, c', e1, e2⟩ => ?_⟩
    subst eh
    rw [ec] at e1; cases e1
    exact ⟨.refl, e2, rw2⟩
theorem ir_range {K : PySem.W.Frag} {W1 : Wd} {P1 : Addr → Dh} {H1 : Hp} {lo : Int} {n : Nat} : ItRep K (Itr lo n) ⟨upto lo n, gTrue⟩ W1 P1 H1 := fun i W P H _ rw _ => by
  refine ⟨fun d ed => ?_, fun hl => (by have q := hl; simp only [upto, List.length_map, List.length_range] at q; exact q)⟩
  simp only [upto, List.getElem?_map] at ed
  by_cases hi : i < n
  · rw [List.getElem?_range hi] at ed
    cases ed
    refine ⟨hi, fun y H' ⟨eh, ey⟩ => ?_⟩
    subst eh
    exact ⟨.refl, ey, rw⟩
  · rw [List.getElem?_eq_none (by simpa using hi)] at ed; cases ed
theorem di_r1 (hg : Gl X "range") (hm : X.mg "range" = none) (ha : PA X [a] (upA X.K Ed Ex tA)) (hs : starEach [a] X.env = [(false, eval a X.env)] := by rfl) : PI X tg (.Call (.Name "range" p) [a] [] pos) (upI X.K Ed Ex (dItR1 tA)) := (pi_range1 hg hm ha hs).imp fun _ _ _ h => by
  obtain ⟨δ, W, P, q, rs, rw, x, h, k⟩ := h
  refine ⟨δ, W, P, _, rs, rw, x, h, fun ds W1 P1 vs H1 s1 r1 rw1 h1 => ?_⟩
  split at h1
  · obtain ⟨v, rfl, r⟩ := rep1 r1
    exact ⟨_, by rw [show v = V.int _ from r], h1.1, h1.2.1, k _ W1 P1 _ H1 s1 rw1 ir_range h1.2.2⟩
  · exact h1.elim
theorem di_r2 (hg : Gl X "range") (hm : X.mg "range" = none) (ha : PA X [a, b] (upA X.K Ed Ex tA)) (hs : starEach [a, b] X.env = [(false, eval a X.env), (false, eval b X.env)] := by rfl) (hs2 : starEach [b] X.env = [(false, eval b X.env)] := by rfl) :
    PI X tg (.Call (.Name "range" p) [a, b] [] pos) (upI X.K Ed Ex (dItR2 tA)) := (pi_range2 hg hm ha hs hs2).imp fun _ _ _ h => by
  obtain ⟨δ, W, P, q, rs, rw, x, h, k⟩ := h
  refine ⟨δ, W, P, _, rs, rw, x, h, fun ds W1 P1 vs H1 s1 r1 rw1 h1 => ?_⟩
  split at h1
  · obtain ⟨v, w, rfl, r, r'⟩ := rep2 r1
    exact ⟨_, _, by rw [show v = V.int _ from r, show w = V.int _ from r'], h1.1, k _ W1 P1 _ H1 s1 rw1 ir_range h1.2⟩
  · exact h1.elim

/-! ### for -/
def WkQ (φ : Wd → Prop) (W : Wd) : Prop := ∃ W', Wk W W' ∧ φ W'
theorem WkQ.here {φ : Wd → Prop} {W : Wd} (h : φ W) : WkQ φ W := ⟨W, .refl, h⟩
def dForGo (guard : Wd → Prop) (g : Tg) (tb : TSD) (E : EndsD) : List D → Sd → Wd → Prop
  | [], δ, W => E.nx δ W
  | x :: r, δ, W => tgD g x δ W fun δ2 W2 => tb { E with nx := fun δ3 W3 => WkQ (fun W4 => guard W4 ∧ dForGo guard g tb E r δ3 W4) W3, ct := fun δ3 W3 => WkQ (fun W4 => guard W4 ∧ dForGo guard g tb E r δ3 W4) W3, bk := E.nx } δ2 W2
def dFor (src : TID) (g : Tg) (tb : TSD) : TSD := fun E δ W => src δ W fun it W1 => it.guard W1 ∧ dForGo it.guard g tb E it.items δ W1
theorem up_for {K : PySem.W.Frag} {g : Tg} {D : Ends} {σ : St} {H : Hp} (h : upS K Ed Ex (dFor src g tb') D σ H) : tFor (upI K Ed Ex src) (tgG K g) (upS K Ed Ex tb') D σ H := by
  obtain ⟨δ, W, P, E, rs, rw, x, h, k⟩ := h
  refine ⟨δ, W, P, _, rs, rw, x, h, fun it W1 P1 J H1 s1 rw1 ir h1 => ?_⟩
  refine ⟨fun i m σ H' => m = it.items.length - i ∧ i ≤ it.items.length ∧ ∃ δ' W' P', RepS K H' δ' σ ∧ RepW K W' P' H' ∧ Step K W1 P1 H1 W' P' H' ∧ it.guard W' ∧ dForGo it.guard g tb' E (it.items.drop i) δ' W',
    ⟨_, rfl, Nat.zero_le _, δ, W1, P1, rs.step s1, rw1, .refl, h1.1, h1.2⟩, ?_⟩
  rintro i m σ2 H2 ⟨rfl, hi, δ2, W2, P2, rs2, rw2, s2, g2, h2⟩
  obtain ⟨ir1, ir2⟩ := ir i W2 P2 H2 s2 rw2 g2
  by_cases hlt : i < it.items.length
  · have hd : it.items.drop i = it.items[i] :: it.items.drop (i + 1) := (List.getElem_cons_drop hlt).symm
    rw [hd] at h2
    obtain ⟨go, yld⟩ := ir1 _ (List.getElem?_eq_getElem hlt)
    refine .inr ⟨go, fun σ' H' => ∃ δ' W' P', RepS K H' δ' σ' ∧ RepW K W' P' H' ∧ Step K W1 P1 H1 W' P' H' ∧ it.guard W' ∧ dForGo it.guard g tb' E (it.items.drop (i + 1)) δ' W', fun σ' H' hn => ⟨it.items.length - (i + 1), by omega, rfl, hlt, hn⟩, fun y H3 hy => ?_⟩
    obtain ⟨s3, r3, rw3⟩ := yld y H3 hy
    refine tg_up r3 (rs2.step s3) h2 fun δ4 σ4 rs4 h4 _ => ?_
    have s13 := s2.trans s3
    have fin : ∀ δ' W' P' σ' H', Step K W2 P2 H3 W' P' H' → RepS K H' δ' σ' → RepW K W' P' H' → WkQ (fun W4 => it.guard W4 ∧ dForGo it.guard g tb' E (it.items.drop (i + 1)) δ' W4) W' →
        ∃ δ' W' P', RepS K H' δ' σ' ∧ RepW K W' P' H' ∧ Step K W1 P1 H1 W' P' H' ∧ it.guard W' ∧ dForGo it.guard g tb' E (it.items.drop (i + 1)) δ' W' := fun δ' W' P' σ' H' s rs' rw' ⟨W5, wk, g5, h5⟩ =>
      ⟨δ', W5, P', rs', rw'.wk wk, (s13.trans s).trans (.wk wk), g5, h5⟩
    exact ⟨δ4, W2, P2, _, rs4, rw3, x.after (s1.trans s13), h4, fin, fun δ' W' P' σ' H' s rs' rw' hb => k.nx δ' W' P' σ' H' ((s1.trans s13).trans s) rs' rw' hb, fin, k.rt.after (s1.trans s13)⟩
  · have e : it.items.drop i = [] := List.drop_eq_nil_of_le (by omega)
    rw [e] at h2
    exact .inl ⟨ir2 (by omega), k.nx δ2 W2 P2 σ2 H2 (s1.trans s2) rs2 rw2 h2⟩
theorem ds_for {body : List Stmt} {g : Tg} (hp : PassesOwn (model X.prog X.w) X.A X.env X.xe) (hc : X.calm = true) (hi : PI X tg a (upI X.K Ed Ex src)) (hg : PG X tg (tgG X.K g)) (hb : PSs X body (upS X.K Ed Ex tb')) (hs : ∀ x, foldedSetIterable a X.env x = pure x := by intro _; rfl) :
    PS X (.For tg a body [] pos) (upS X.K Ed Ex (dFor src g tb')) := (ps_for hp hc hi hg hb hs).imp fun _ _ _ h => up_for h

/-! ### while -/
def dWhile (tt : TTD) (tb : TSD) : TSD := fun E δ W => ∃ I : Nat → Sd → Wd → Prop, (∃ m, I m δ W) ∧ ∀ m δ W, I m δ W → tt δ W fun b W1 => if b = true then tb { E with nx := fun δ2 W2 => WkQ (fun W3 => ∃ m', m' < m ∧ I m' δ2 W3) W2, ct := fun δ2 W2 => WkQ (fun W3 => ∃ m', m' < m ∧ I m' δ2 W3) W2, bk := E.nx } δ W1 else E.nx δ W1
theorem ds_while {cc : Expr} {body : List Stmt} (hp : PassesOwn (model X.prog X.w) X.A X.env X.xe) (hc : PT X cc (upT X.K Ed Ex tt)) (hb : PSs X body (upS X.K Ed Ex tb')) : PS X (.While cc body [] pos) (upS X.K Ed Ex (dWhile tt tb')) := (ps_while hp hc hb).imp fun D σ H h => by
  obtain ⟨δ, W, P, E, rs, rw, x, h, k⟩ := h
  obtain ⟨I, ⟨m, h0⟩, h⟩ := h
  refine ⟨fun m σ' H' => ∃ δ' W' P', RepS X.K H' δ' σ' ∧ RepW X.K W' P' H' ∧ Step X.K W P H W' P' H' ∧ I m δ' W', ⟨m, δ, W, P, rs, rw, .refl, h0⟩, ?_⟩
  rintro m σ2 H2 ⟨δ2, W2, P2, rs2, rw2, s2, i2⟩
  refine ⟨δ2, W2, P2, _, rs2, rw2, x.after s2, h m δ2 W2 i2, fun b W3 P3 H3 s3 rw3 h3 => ?_⟩
  have s23 := s2.trans s3
  cases b with
  | false => rw [if_neg Bool.false_ne_true] at h3; exact k.nx δ2 W3 P3 σ2 H3 s23 (rs2.step s3) rw3 h3
  | true =>
    rw [if_pos rfl] at h3
    refine ⟨fun σ' H' => ∃ m', m' < m ∧ ∃ δ' W' P', RepS X.K H' δ' σ' ∧ RepW X.K W' P' H' ∧ Step X.K W P H W' P' H' ∧ I m' δ' W', fun σ' H' hn => hn, ?_⟩
    have fin : ∀ δ' W' P' σ' H', Step X.K W3 P3 H3 W' P' H' → RepS X.K H' δ' σ' → RepW X.K W' P' H' → WkQ (fun W4 => ∃ m', m' < m ∧ I m' δ' W4) W' → ∃ m', m' < m ∧ ∃ δ' W' P', RepS X.K H' δ' σ' ∧ RepW X.K W' P' H' ∧ Step X.K W P H W' P' H' ∧ I m' δ' W' :=
      fun δ' W' P' σ' H' s rs' rw' ⟨W5, wk, m', hm, h5⟩ => ⟨m', hm, δ', W5, P', rs', rw'.wk wk, (s23.trans s).trans (.wk wk), h5⟩
    exact ⟨δ2, W3, P3, _, rs2.step s3, rw3, x.after s23, h3, fin, fun δ' W' P' σ' H' s rs' rw' hb => k.nx δ' W' P' σ' H' (s23.trans s) rs' rw' hb, fin, k.rt.after s23⟩
end
end DL

namespace DL
open PySem L2

/-! ### comprehensions -/
def wipeD (δ : Sd) : List Nat → Sd
  | [] => δ
  | v :: vs => (wipeD δ vs).set v none
theorem RepS.wipes {K : PySem.W.Frag} {H : Hp} {δ : Sd} {σ : St} (r : RepS K H δ σ) : ∀ vs : List Nat, RepS K H (wipeD δ vs) (L2.wipe σ vs)
  | [] => r
  | v :: vs => (RepS.wipes r vs).wipe v
def dLcGo (guard : Wd → Prop) (g : Tg) (tt : TTD) (te : TED) (δ : Sd) : List D → List D → Wd → (List D → Wd → Prop) → Prop
  | [], acc, W, q => q acc W
  | x :: r, acc, W, q => tgD g x δ W fun δ2 W2 => tt δ2 W2 fun b W3 => if b = true then te δ2 W3 fun d W4 => guard W4 ∧ dLcGo guard g tt te δ r (acc ++ [d]) W4 q else guard W3 ∧ dLcGo guard g tt te δ r acc W3 q
def dLc (src : TID) (g : Tg) (tt : TTD) (te : TED) (vs : List Nat) : TAD := fun δ W q => src δ W fun it W1 => Sz it.items.length ∧ it.guard W1 ∧ dLcGo it.guard g tt te (wipeD δ vs) it.items [] W1 q
theorem Step.priv {K : PySem.W.Frag} {W W' : Wd} {P P' : Addr → Dh} {H H' : Hp} {a : Addr} {xs ys : List V} (s : Step K W P H W' P' H') (h0 : H a = none) (h1 : H' a = some (.lst xs)) : Step K W P H W' P' (upd H' a (.lst ys)) :=
  ⟨s.tup.trans (tupLe_upd (.inr ⟨_, h1, fun _ z => (by cases z), fun _ _ z => (by cases z)⟩)), fun b o h n => by rw [upd_ne (ne_of_none h h0)]; exact s.keep b o h n, s.grow, fun b h => s.stay b (none_of_upd h)⟩
theorem wipe_wipe (σ : St) (vs : List Nat) : wipe (wipe σ vs) vs = wipe σ vs := by
  apply List.ext_getElem?
  intro j
  by_cases hj : j ∈ vs
  · rw [wipe_in hj, wipe_in hj]
    by_cases hl : j < σ.length
    · rw [List.getElem?_set_self (by rw [wipe_length]; exact hl), List.getElem?_set_self hl]
    · rw [List.getElem?_eq_none (by rw [List.length_set, wipe_length]; omega), List.getElem?_eq_none (by rw [List.length_set]; omega)]
  · rw [wipe_out hj]
theorem up_lc {K : PySem.W.Frag} {Ed : WXD} {Ex : WX} {src : TID} {g : Tg} {tt : TTD} {te : TED} {vs : List Nat} (hv : ∀ i ∈ tgS g, i ∈ vs) {σ : St} {H : Hp} {Q : VK} (h : upL K Ed Ex (dLc src g tt te vs) σ H Q) :
    tLc (upI K Ed Ex src) (tgG K g) (upT K X0 Wx0 tt) (upE K X0 Wx0 te) vs σ H Q := by
  obtain ⟨δ, W, P, q, rs, rw, x, h, k⟩ := h
  refine ⟨δ, W, P, _, rs, rw, x, h, fun it W1 P1 J H1 s1 rw1 ir h1 => ?_⟩
  obtain ⟨hz, hg0, h1⟩ := h1
  intro D hD
  have nD1 : ¬ foot W1 P1 D := fun f => rw1.tracked f hD
  refine ⟨fun i m H' => m = it.items.length - i ∧ i ≤ it.items.length ∧ ∃ acc xs W' P', H' D = some (.lst xs) ∧ repVs K H' acc xs ∧ acc.length ≤ i ∧ RepW K W' P' H' ∧ Step K W1 P1 H1 W' P' H' ∧ ¬ foot W' P' D ∧ it.guard W' ∧ dLcGo it.guard g tt te (wipeD δ vs) (it.items.drop i) acc W' q,
    ⟨_, rfl, Nat.zero_le _, [], [], W1, P1, upd_same, rfl, Nat.le_refl _, rw1.new hD, .new hD, nD1, hg0, h1⟩, ?_⟩
  rintro i m H2 ⟨rfl, hi, acc, xs, W2, P2, e2, r2, hl2, rw2, s2, n2, g2, h2⟩
  obtain ⟨ir1, ir2⟩ := ir i W2 P2 H2 s2 rw2 g2
  by_cases hlt : i < it.items.length
  · have hd : it.items.drop i = it.items[i] :: it.items.drop (i + 1) := (List.getElem_cons_drop hlt).symm
    rw [hd] at h2
    obtain ⟨go, yld⟩ := ir1 _ (List.getElem?_eq_getElem hlt)
    refine .inr ⟨go, fun H' => ∃ acc xs W' P', H' D = some (.lst xs) ∧ repVs K H' acc xs ∧ acc.length ≤ i + 1 ∧ RepW K W' P' H' ∧ Step K W1 P1 H1 W' P' H' ∧ ¬ foot W' P' D ∧ it.guard W' ∧ dLcGo it.guard g tt te (wipeD δ vs) (it.items.drop (i + 1)) acc W' q,
      fun H' hn => ⟨it.items.length - (i + 1), by omega, rfl, hlt, hn⟩, fun y H3 hy => ?_⟩
    obtain ⟨s3, r3, rw3⟩ := yld y H3 hy
    have s13 := s2.trans s3
    refine tg_up r3 (((rs.step s1).step s13).wipes vs) h2 fun δ4 σ4 rs4 h4 hw4 => ?_
    refine ⟨(hw4 vs hv).trans (wipe_wipe σ vs), ?_⟩
    refine ⟨δ4, W2, P2, _, rs4, rw3, xarr0, h4, fun b W5 P5 H5 s5 rw5 h5 => ?_⟩
    have e5 := (s3.trans s5).keep D _ e2 n2
    have r5 := repVs_step r2 (s3.trans s5)
    have n5 : ¬ foot W5 P5 D := fun f => by
      rcases (s3.trans s5).grow D f with f | f
      · exact n2 f
      · rw [e2] at f; cases f
    cases b with
    | false =>
      rw [if_neg Bool.false_ne_true] at h5
      exact iteF ⟨acc, xs, W5, P5, e5, r5, by omega, rw5, s13.trans s5, n5, h5.1, h5.2⟩
    | true =>
      rw [if_pos rfl] at h5
      refine iteT ⟨δ4, W5, P5, _, rs4.step s5, rw5, xarr0, h5, fun d W6 P6 v H6 s6 r6 rw6 h6 => ?_⟩
      have e6 := s6.keep D _ e5 n5
      have n6 : ¬ foot W6 P6 D := fun f => by
        rcases s6.grow D f with f | f
        · exact n5 f
        · rw [e5] at f; cases f
      have sall := (s13.trans s5).trans s6
      have rr := repVs_step r5 s6
      refine ⟨xs, e6, ?_, acc ++ [d], xs ++ [v], W6, P6, upd_same, ?_, by rw [List.length_append]; simp; omega, ?_, sall.priv hD e6, n6, h6.1, h6.2⟩
      · rw [← repVs_len rr]; exact Nat.lt_of_lt_of_le (Nat.lt_of_le_of_lt hl2 hlt) hz.le
      · have tu : TupLe K H6 (upd H6 D (.lst (xs ++ [v]))) := tupLe_upd (.inr ⟨_, e6, fun _ z => (by cases z), fun _ _ z => (by cases z)⟩)
        exact repVs_mono tu _ (repVs_append rr (repVs_cons r6 rfl))
      · exact rw6.mono (tupLe_upd (.inr ⟨_, e6, fun _ z => (by cases z), fun _ _ z => (by cases z)⟩)) fun a f => upd_ne fun e => n6 (e ▸ f)
  · have e : it.items.drop i = [] := List.drop_eq_nil_of_le (by omega)
    rw [e] at h2
    exact .inl ⟨ir2 (by omega), k acc W2 P2 D xs H2 (s1.trans s2) (s1.stay D hD) e2 n2 r2 rw2 h2⟩
section
variable {X : Cx} {Ed : WXD} {Ex : WX} {tg elt iter : Expr} {ifs : List Expr} {scope : Scope} {own : List (Str × Nat)} {pos : Pos} {src : TID} {g : Tg} {tt : TTD} {te : TED}
def dYes : TTD := fun _ W q => q true W
theorem dts_nil : PTs X [] (upT X.K X0 Wx0 dYes) := ⟨fun pins s σ H Q I h => by
  obtain ⟨δ, W, P, q, rs, rw, x, h, k⟩ := h
  exact pts_nil.run pins s σ H Q I (k true W P H .refl rw h)⟩
theorem dts_one {c : Expr} (h : PT X c (upT X.K X0 Wx0 tt)) : PTs X [c] (upT X.K X0 Wx0 tt) := pts_one h
theorem dl_lc (hv : ∀ i ∈ tgS g, i ∈ own.map (·.2)) (hc : X.calm = true) (hN : X.N.Nodup) (hi : PI X tg iter (upI X.K Ed Ex src)) (ok : BlkOk X.N X.env.scope scope own)
    (hg : ∀ (s : Shared) (H : Hp) (C : Addr) (cl : List (Str × Addr)) (fp : List Addr), PG (X.blk s H scope (compEnvC scope cl C X.env) fp) tg (tgG X.K g)) (ht : ∀ (s : Shared) (H : Hp) (C : Addr) (cl : List (Str × Addr)) (fp : List Addr), PTs (X.blk s H scope (compEnvC scope cl C X.env) fp) ifs (upT X.K X0 Wx0 tt))
    (he : ∀ (s : Shared) (H : Hp) (C : Addr) (cl : List (Str × Addr)) (fp : List Addr), PE (X.blk s H scope (compEnvC scope cl C X.env) fp) elt (upE X.K X0 Wx0 te)) (hs : ∀ x, foldedSetIterable iter X.env x = pure x := by intro _; rfl) :
    PE X (.ListComp elt [⟨tg, iter, ifs, 0⟩] scope pos) (upL X.K Ed Ex (dLc src g tt te (own.map (·.2)))) := (pe_lc hc hN hi ok hg ht he hs).imp fun _ _ _ h => up_lc hv h
theorem ds_setLc {i : Nat} {y : Str} {py spos : Pos} (hv : ∀ i ∈ tgS g, i ∈ own.map (·.2)) (hc : X.calm = true) (hN : X.N.Nodup) (hy : X.N[i]? = some y) (hyl : X.env.scope.names.lookup y = some .local)
    (hsw : swapsWith (.ListComp elt [⟨tg, iter, ifs, 0⟩] scope pos) (some (.Name y py)) spos.line X.env = pure true) (hi : PI X tg iter (upI X.K Ed Ex src)) (ok : BlkOk X.N X.env.scope scope own)
    (hg : ∀ (s : Shared) (H : Hp) (C : Addr) (cl : List (Str × Addr)) (fp : List Addr), PG (X.blk s H scope (compEnvC scope cl C X.env) fp) tg (tgG X.K g)) (ht : ∀ (s : Shared) (H : Hp) (C : Addr) (cl : List (Str × Addr)) (fp : List Addr), PTs (X.blk s H scope (compEnvC scope cl C X.env) fp) ifs (upT X.K X0 Wx0 tt))
    (he : ∀ (s : Shared) (H : Hp) (C : Addr) (cl : List (Str × Addr)) (fp : List Addr), PE (X.blk s H scope (compEnvC scope cl C X.env) fp) elt (upE X.K X0 Wx0 te)) (hs : ∀ x, foldedSetIterable iter X.env x = pure x := by intro _; rfl) :
    PS X (.Assign [.Name y py] (.ListComp elt [⟨tg, iter, ifs, 0⟩] scope pos) spos) (upS X.K Ed Ex (dAsg (dCell (dLc src g tt te (own.map (·.2)))) (.nm i))) := (ps_setLc hc hN hy hyl hsw hi ok hg ht he hs).imp fun D σ H h => by
  obtain ⟨δ, W, P, E, rs, rw, x, h, k⟩ := h
  refine up_lc hv ⟨δ, W, P, _, rs, rw, x, h, fun ds W1 P1 a xs H1 s1 h0 e1 n1 r1 rw1 h2 => ?_⟩
  obtain ⟨f1, f2⟩ := not_foot rw1 n1
  exact k.nx _ _ P1 _ H1 (s1.show h0) (((rs.step s1)).set (d := .ref a) rfl i) (rw1.show (d := .lst ds) n1 e1 ⟨xs, rfl, r1⟩) (h2 a f1 f2)
end

/-! ### a def -/
def startD (N : List Str) (ds : List D) : Sd := ds.map some ++ List.replicate (N.length - ds.length) none
theorem repS_start {K : PySem.W.Frag} {H : Hp} {N : List Str} {ds : List D} {vs : List V} (r : repVs K H ds vs) : RepS K H (startD N ds) (L2.start N vs) := by
  have hl := repVs_len r
  refine ⟨by simp [startD, L2.start, hl], fun i d e => ?_⟩
  unfold startD at e
  unfold L2.start
  by_cases hi : i < ds.length
  · rw [List.getElem?_append_left (by simpa using hi), List.getElem?_map] at e
    cases q : ds[i]? with
    | none => rw [q] at e; cases e
    | some d' =>
      rw [q] at e
      cases e
      obtain ⟨v, e1, e2⟩ := repVs_get r q
      exact ⟨v, by rw [List.getElem?_append_left (by simpa [← hl] using hi), List.getElem?_map, e1]; rfl, e2⟩
  · rw [List.getElem?_append_right (by simpa using hi), List.getElem?_replicate] at e
    split at e <;> cases e
def endsOf (q : DK) : EndsD := { nx := fun _ W' => WkQ (q .non) W', rt := fun d W' => WkQ (q d) W' }
theorem up_start {K : PySem.W.Frag} {N : List Str} {dsp : DSp} {t : TSD} {Ed : WXD} {Ex : WX} {ds : List D} {W : Wd} {P : Addr → Dh} {q : DK} {vs : List V} {H : Hp} {Q : VK} (r : repVs K H ds vs) (rw : RepW K W P H) (k : Arr K W P H q Q) (x : XArr K W P H Ed Ex)
    (h : t (endsOf q) (startD N ds) W) : upS K Ed Ex t { nx := fun _ H' => Q .non H', rt := Q } (L2.start N vs) H :=
  ⟨startD N ds, W, P, endsOf q, repS_start r, rw, x, h, fun _ W' P' _ H' s _ rw' ⟨W2, wk, h2⟩ => k .non W2 P' .non H' (s.trans (.wk wk)) rfl (rw'.wk wk) h2, fun _ _ _ _ _ _ _ _ z => z, fun _ _ _ _ _ _ _ _ z => z,
    fun d W' P' v H' s r' rw' ⟨W2, wk, h2⟩ => k d W2 P' v H' (s.trans (.wk wk)) r' (rw'.wk wk) h2⟩
section
variable {P : Program} {w : World} {K : PySem.W.Frag} {mg : Str → Option Value} {base : Heap}
theorem okD {x qual : Str} {st : Stmt} {f : Addr} {fd : FuncData} {N ps : List Str} {k : Nat} {dsp : DSp} (F : Fun K x qual st f fd) (S : FnScope N ps (defScope st)) (len : ∀ ds W q E, dsp ds W q E → ds.length = ps.length)
    (hbody : ∀ (cdv : Value) (A : Around) (outer : List Env) (s : Shared) (H : Hp) (E : XK), Room k (A.deeper (PyProof.Rows.envOfC qual (defScope st) s.heap.objs.size f cdv)) →
      ∃ t, PSs (cxOf CX0 P w K mg base N qual (defScope st) f cdv A outer s H E).nox (defBody st) (upS K X0 Wx0 t) ∧ ∀ ds W q Ed, dsp ds W q Ed → t (endsOf q) (startD N ds) W) : FnOk P w K mg base CX0 (k + 1) f fd ps (upSp K dsp) := by
  refine F.ok S (fun vs H Q E h => ?_) (fun cdv A outer s H vs Q E hr h => ?_)
  · obtain ⟨ds, W, P, q, Ed, r, _, h, _⟩ := h
    rw [← repVs_len r]; exact len _ _ _ _ h
  · obtain ⟨ds, W, P, q, Ed, r, rw, h, k1, k2⟩ := h
    obtain ⟨t, ht, hq⟩ := hbody cdv A outer s H E hr
    exact ⟨_, ht, up_start (dsp := dsp) r rw k1 xarr0 (hq ds W q Ed h)⟩
/-- a def that may raise -/
theorem okDX {x qual : Str} {st : Stmt} {f : Addr} {fd : FuncData} {N ps : List Str} {k : Nat} {dsp : DSp} (F : Fun K x qual st f fd) (S : FnScope N ps (defScope st)) (len : ∀ ds W q E, dsp ds W q E → ds.length = ps.length)
    (hbody : ∀ (cdv : Value) (A : Around) (outer : List Env) (s : Shared) (H : Hp) (E : XK), Room k (A.deeper (PyProof.Rows.envOfC qual (defScope st) s.heap.objs.size f cdv)) → ∀ Ed : XDf,
      ∃ t, PSs (cxOf (L2.CX P w) P w K mg base N qual (defScope st) f cdv A outer s H E) (defBody st) (upS K (fun c dx _ W' => WkQ (Ed c dx) W') (fun c dx _ H' => E c dx H') t) ∧ ∀ ds W q, dsp ds W q Ed → t (endsOf q) (startD N ds) W) : FnOk P w K mg base (L2.CX P w) (k + 1) f fd ps (upSp K dsp) := by
  refine F.okX S (fun vs H Q E h => ?_) (fun cdv A outer s H vs Q E hr h => ?_)
  · obtain ⟨ds, W, P, q, Ed, r, _, h, _⟩ := h
    rw [← repVs_len r]; exact len _ _ _ _ h
  · obtain ⟨ds, W, P', q, Ed, r, rw, h, k1, k2⟩ := h
    obtain ⟨t, ht, hq⟩ := hbody cdv A outer s H E hr Ed
    exact ⟨_, ht, up_start (dsp := dsp) r rw k1 (fun c dx _ W' P2 _ H' s _ rw' ⟨W2, wk, h2⟩ => k2 c dx W2 P2 H' (s.trans (.wk wk)) (rw'.wk wk) h2) (hq ds W q h)⟩
end

/-! ### a def that sees a hidden part alone -/
def noHid : Addr → Option HD := fun _ => none
def noP : Addr → Dh := fun _ _ => none
/-- the small world: what is hidden at p, now seen -/
def wdOf (h : Dh) : Wd := ⟨h, noHid⟩
theorem hset_same {h : Addr → Option HD} {a : Addr} {φ : HD} : hset h a φ a = some φ := by unfold hset; rw [if_pos rfl]
theorem hset_ne {h : Addr → Option HD} {a b : Addr} {φ : HD} (n : b ≠ a) : hset h a φ b = h b := by unfold hset; rw [if_neg n]
theorem hset_hset {h : Addr → Option HD} {a : Addr} {φ ψ : HD} : hset (hset h a φ) a ψ = hset h a ψ := by funext b; unfold hset; split <;> rfl
/-- THE FRAME: what a def does to a small world it does to the hidden part -/
theorem hidden {K : PySem.W.Frag} {small : DSp} {ds : List D} {W : Wd} {P : Addr → Dh} {q : DK} {Ed : XDf} {vs : List V} {H : Hp} {Q : VK} {E : XK} {p : Addr} {φ : HD}
    (r : repVs K H ds vs) (rw : RepW K W P H) (k1 : Arr K W P H q Q) (k2 : ArrX K W P H Ed E) (hp : W.hid p = some φ)
    (h : ∀ h : Dh, φ.sem p h → small ds (wdOf h) (fun d W' => ∃ ψ : HD, W'.hid = noHid ∧ ψ.sem p W'.hp ∧ W'.hp p ≠ none ∧ q d (W.hide p ψ)) (fun c dx W' => ∃ ψ : HD, W'.hid = noHid ∧ ψ.sem p W'.hp ∧ W'.hp p ≠ none ∧ Ed c dx (W.hide p ψ))) : upSp K small vs H Q E := by
  have w1 : RepW K (wdOf (P p)) noP H := ⟨fun a o e => rw.prv p a o e, fun _ _ _ e => (by cases e), fun _ _ e => (by cases e), fun _ _ _ => rfl, fun _ _ e => (by cases e), fun _ _ e => absurd rfl e, fun _ _ _ e => absurd rfl e⟩
  have fp : ∀ a, foot (wdOf (P p)) noP a → foot W P a := fun a f => by
    rcases f with f | ⟨_, f⟩
    · exact .inr ⟨p, f⟩
    · exact absurd rfl f
  have key : ∀ (ψ : HD) (W' : Wd) P' H', Step K (wdOf (P p)) noP H W' P' H' → RepW K W' P' H' → W'.hid = noHid → ψ.sem p W'.hp → W'.hp p ≠ none →
      ∃ P2, Step K W P H (W.hide p ψ) P2 H' ∧ RepW K (W.hide p ψ) P2 H' := fun ψ W' P' H' s rw' hn hψ ho => by
    have pe : ∀ k a, P' k a = none := fun k a => rw'.non k (by rw [hn]; rfl) a
    have hnf : ∀ a, foot W' P' a → W'.hp a ≠ none := fun a f => by
      rcases f with f | ⟨k, f⟩
      · exact f
      · exact absurd (pe k a) f
    have st : ∀ a, W.hp a ≠ none → H' a = H a := fun a f => by
      cases e : H a with
      | none => exact absurd e (rw.tracked (.inl f))
      | some o =>
        refine s.keep a o e fun g => ?_
        rcases g with g | ⟨_, g⟩
        · exact f (rw.sep1 p a g)
        · exact g rfl
    have sk : ∀ k a, k ≠ p → P k a ≠ none → H' a = H a := fun k a hk f => by
      cases e : H a with
      | none => exact absurd e (rw.tracked (.inr ⟨k, f⟩))
      | some o =>
        refine s.keep a o e fun g => ?_
        rcases g with g | ⟨_, g⟩
        · exact hk (rw.sep2 k p a f g)
        · exact g rfl
    let P2 : Addr → Dh := fun k => if k = p then W'.hp else P k
    have P2p : P2 p = W'.hp := if_pos rfl
    have P2n : ∀ k, k ≠ p → P2 k = P k := fun k h => if_neg h
    have gr : ∀ a, W'.hp a ≠ none → P p a ≠ none ∨ H a = none := fun a f => by
      rcases s.grow a (.inl f) with (g | ⟨_, g⟩) | g
      · exact .inl g
      · exact absurd rfl g
      · exact .inr g
    refine ⟨P2, ⟨s.tup, fun a o e n => s.keep a o e fun g => n (fp a g), fun a f => ?_, s.stay⟩, ⟨fun a o e => ?_, fun k a o e => ?_, fun k φ' e => ?_, fun k e a => ?_, fun k φ' e => ?_, fun k a f => ?_, fun k j a f g => ?_⟩⟩
    · rcases f with f | ⟨k, f⟩
      · exact .inl (.inl f)
      · by_cases hk : k = p
        · subst hk
          rw [P2p] at f
          rcases gr a f with g | g
          · exact .inl (.inr ⟨_, g⟩)
          · exact .inr g
        · rw [P2n k hk] at f
          exact .inl (.inr ⟨k, f⟩)
    · obtain ⟨u, h1, h2⟩ := rw.vis a o e
      exact ⟨u, by rw [st a (by rw [show W.hp a = some o from e]; simp)]; exact h1, repO_mono s.tup o h2⟩
    · by_cases hk : k = p
      · subst hk
        rw [P2p] at e
        exact rw'.vis a o e
      · rw [P2n k hk] at e
        obtain ⟨u, h1, h2⟩ := rw.prv k a o e
        exact ⟨u, by rw [sk k a hk (by rw [e]; simp)]; exact h1, repO_mono s.tup o h2⟩
    · by_cases hk : k = p
      · subst hk
        rw [show (W.hide k ψ).hid k = some ψ from hset_same] at e
        cases e
        rw [P2p]; exact hψ
      · rw [show (W.hide p ψ).hid k = W.hid k from hset_ne hk] at e
        rw [P2n k hk]; exact rw.hid k φ' e
    · by_cases hk : k = p
      · subst hk
        rw [show (W.hide k ψ).hid k = some ψ from hset_same] at e
        cases e
      · rw [show (W.hide p ψ).hid k = W.hid k from hset_ne hk] at e
        rw [P2n k hk]; exact rw.non k e a
    · by_cases hk : k = p
      · subst hk; rw [P2p]; exact ho
      · rw [show (W.hide p ψ).hid k = W.hid k from hset_ne hk] at e
        rw [P2n k hk]; exact rw.own k φ' e
    · by_cases hk : k = p
      · subst hk
        rw [P2p] at f
        rcases gr a f with g | g
        · exact rw.sep1 k a g
        · exact (rw.fresh g).1
      · rw [P2n k hk] at f
        exact rw.sep1 k a f
    · by_cases hk : k = p
      · by_cases hj : j = p
        · rw [hk, hj]
        · subst hk
          rw [P2p] at f
          rw [P2n j hj] at g
          rcases gr a f with e | e
          · exact rw.sep2 k j a e g
          · exact absurd ((rw.fresh e).2.2 j) g
      · by_cases hj : j = p
        · subst hj
          rw [P2p] at g
          rw [P2n k hk] at f
          rcases gr a g with e | e
          · exact rw.sep2 k j a f e
          · exact absurd ((rw.fresh e).2.2 k) f
        · rw [P2n k hk] at f
          rw [P2n j hj] at g
          exact rw.sep2 k j a f g
  refine ⟨ds, wdOf (P p), noP, _, _, r, w1, h (P p) (rw.hid p φ hp), fun d W' P' v H' s r' rw' ⟨ψ, hn, hψ, ho, hq⟩ => ?_, fun c dx W' P' H' s rw' ⟨ψ, hn, hψ, ho, hq⟩ => ?_⟩
  · obtain ⟨P2, s2, rw2⟩ := key ψ W' P' H' s rw' hn hψ ho
    exact k1 d _ P2 v H' s2 r' rw2 hq
  · obtain ⟨P2, s2, rw2⟩ := key ψ W' P' H' s rw' hn hψ ho
    exact k2 c dx _ P2 H' s2 rw2 hq
end DL

namespace DL
open PySem L2
/-! ### short words -/
theorem bb_int : bootBuiltins "int" = some (.type "int") := by decide +kernel
theorem bb_bool : bootBuiltins "bool" = some (.type "bool") := by decide +kernel
theorem bb_str : bootBuiltins "str" = some (.type "str") := by decide +kernel
theorem bb_tuple : bootBuiltins "tuple" = some (.type "tuple") := by decide +kernel
theorem bb_list : bootBuiltins "list" = some (.type "list") := by decide +kernel
theorem bb_dict : bootBuiltins "dict" = some (.type "dict") := by decide +kernel
theorem bb_set : bootBuiltins "set" = some (.type "set") := by decide +kernel
theorem bb_len : bootBuiltins "len" = some (.builtin "len") := by decide +kernel
theorem bb_abs : bootBuiltins "abs" = some (.builtin "abs") := by decide +kernel
theorem bb_max : bootBuiltins "max" = some (.builtin "max") := by decide +kernel
theorem bb_min : bootBuiltins "min" = some (.builtin "min") := by decide +kernel
theorem bb_isinstance : bootBuiltins "isinstance" = some (.builtin "isinstance") := by decide +kernel
theorem bb_sorted : bootBuiltins "sorted" = some (.builtin "sorted") := by decide +kernel
theorem bb_sum : bootBuiltins "sum" = some (.builtin "sum") := by decide +kernel
theorem bb_ord : bootBuiltins "ord" = some (.builtin "ord") := by decide +kernel
theorem _root_.L2.Room.u65 {k : Nat} {A : Around} (r : Room k A) : A.units + 65 < cLine := by have := r.un; omega
section
variable {X : Cx} {Ed : WXD} {Ex : WX} {e a b c o : Expr} {es rest : List Expr} {ta tb tc te to : TED} {tA tB tL : TAD} {t1 t2 tt : TTD} {pos p apos : Pos} {x : Str}
theorem pgn (i : Nat) {x : Str} (hN : X.N.Nodup) (hi : X.N[i]? = some x := by rfl) (hx : Loc X.env.scope x := by first | exact Or.inl rfl | exact Or.inr rfl) (hf : X.fn x = true ∨ X.env.scope.names.lookup x = some .local := by first | exact .inl rfl | exact .inr rfl | assumption) : PG X (.Name x pos) (gName i) := pg_name hN hi hx hf
theorem loc_of {x : Str} {sc : Scope} (h : sc.names.lookup x = some .local ∨ sc.names.lookup x = some .cell) : Loc sc x := h

/-! ### methods of lists that are seen -/
def MtL (K : PySem.W.Frag) (r : V → List V → Hp → VK → Prop) (rd : Addr → List D → List D → Wd → DK → Prop) : Prop := ∀ l ds vs us W P q H Q, repVs K H ds vs → RepW K W P H → (∃ xs, W.hp l = some (.lst xs) ∧ rd l xs ds W q) → Arr K W P H q Q → us = V.ref l → r us vs H Q
theorem tyV_list {K : PySem.W.Frag} {a : Addr} {xs : List V} {H : Hp} (h : H a = some (.lst xs)) : tyV K "list" (.ref a) H := .inl ⟨rfl, _, SqL.of h⟩
/-- xs.append(e) -/
def dAppend (to te : TED) : TED := fun δ W q => to δ W fun o W1 => lstAt W1 o fun _ => te δ W1 fun d W2 => match o with
  | .ref a => (match W2.hp a with
    | some (.lst ds) => Sz ds.length ∧ q .non (W2.put a (.lst (ds ++ [d])))
    | _ => False)
  | _ => False
theorem de_append {ce : Expr} (h : PE X ce (tBM X.K "list" rAppend (upE X.K Ed Ex to) (tCons (upE X.K Ed Ex te) tNil))) : PE X ce (upE X.K Ed Ex (dAppend to te)) := h.imp fun σ H Q h => by
  obtain ⟨δ, W, P, q, rs, rw, x, h, k⟩ := h
  refine ⟨δ, W, P, _, rs, rw, x, h, fun d W1 P1 v H1 s1 r1 rw1 h1 => ?_⟩
  obtain ⟨a, ds, xs, rfl, rfl, _, g1, g2, h2⟩ := lstAt_rep rw1 r1 h1
  refine ⟨tyV_list g1, δ, W1, P1, _, rs.step s1, rw1, x.after s1, h2, fun d2 W2 P2 v2 H2 s2 r2 rw2 h3 => ?_⟩
  simp only at h3
  split at h3
  · rename_i ds2 eds
    obtain ⟨u, f1, ys, rfl, f2⟩ := rw2.vis _ _ eds
    have sw := Step.write (o := .lst (ys ++ [v2])) (d := .lst (ds2 ++ [d2])) rw2 eds
    refine ⟨a, ys, v2, rfl, rfl, f1, by rw [← repVs_len f2]; exact h3.1.lt, ?_⟩
    exact k .non _ P2 _ _ ((s1.trans s2).trans sw) rfl (rw2.write eds ⟨_, rfl, repVs_append (repVs_step f2 sw) (repVs_cons (repV_step r2 sw) rfl)⟩) h3.2
  · exact h3.elim

/-! ### raise -/
/-- an own class of errors over ValueError, with no __init__ -/
structure ExcT (K : PySem.W.Frag) (mg : Str → Option Value) (x : Str) (C : Addr) : Prop where
  gP : mg x = some (.ref C)
  xP : PySem.W.excIn K C [.type "ValueError", .type "Exception", .type "BaseException", .type "object"] "ValueError.__new__" = true
  kP : PySem.W.keepIn K (.ref C) = true
  bP : PySem.W.subIn K (.ref C) (.type "BaseException") = some true
  tP : PySem.W.typeIn K (.ref C) = some (.type "type")
  iP : PySem.W.isClsIn K C = true
def dRaise (C : Addr) (Ed : WXD) : TSD := fun _ δ W => Ed (.ref C) none δ W
theorem ds_raise1 {C : Addr} {m : Str} {j : Nat} {p2 rpos : Pos} (hc : X.calm = true) (tk : Takes X Ex) (x : Str) (T : ExcT X.K X.mg x C) (hg : Gl X x := by rfl) (hdb : (x == ("__debug__" : Str)) = false := by decide) :
    PS X (.Raise (some (.Call (.Name x p) [.Constant (.str m) j p2] [] pos)) none rpos) (upS X.K Ed Ex (dRaise C Ed)) :=
  (ps_raise hc tk (pmk_own PySem.F.excBase_ValueError T.xP T.gP T.kP (raises_own T.bP T.tP) hg hdb)).imp fun D σ H h => by
  obtain ⟨δ, W, P, E, rs, rw, x, h, k⟩ := h
  exact x _ _ δ W P σ H .refl rs rw h
end
end DL

namespace DL
open PySem L2
/-! ### the law's own state: cells and a turn, hidden -/
theorem LS.mono {p : Addr} {n m : Nat} {h : Dh} (l : LS p n h) (e : n ≤ m) : LS p m h := by
  obtain ⟨c, cells, t, h1, h2, h3, h4, h5, h6⟩ := l
  exact ⟨c, cells, t, h1, h2, h3, h4, by omega, h6⟩
/-- what each pick promises: some number below many; one turn more -/
def sp__law_pick : DSp := fun ds W q _ => match ds with
  | [.ref p, .int m] => (match W.hid p with
    | some (.law n) => n < 2 ^ 62 ∧ 1 ≤ m ∧ m < 2 ^ 64 ∧ ∀ r : Int, 0 ≤ r → r < m → q (.int r) (W.hide p (.law (n + 1)))
    | _ => False)
  | _ => False
def spS__law_pick : DSp := fun ds W q _ => ∃ (p : Addr) (m : Int) (n : Nat) (h : Dh), ds = [.ref p, .int m] ∧ W = wdOf h ∧ LS p n h ∧ n < 2 ^ 62 ∧ 1 ≤ m ∧ m < 2 ^ 64 ∧ ∀ (r : Int) (h' : Dh), 0 ≤ r → r < m → LS p (n + 1) h' → q (.int r) (wdOf h')
theorem pick_up {K : PySem.W.Frag} {vs : List V} {H : Hp} {Q : VK} {E : XK} (h : upSp K sp__law_pick vs H Q E) : upSp K spS__law_pick vs H Q E := by
  obtain ⟨ds, W, P, q, Ed, r, rw, h, k1, k2⟩ := h
  unfold sp__law_pick at h
  split at h
  · rename_i p m
    split at h
    · rename_i n hp
      obtain ⟨hn, h1, h2, k⟩ := h
      refine hidden r rw k1 k2 hp fun g hg => ⟨p, m, n, g, rfl, rfl, hg, hn, h1, h2, fun z h' z0 z1 l => ⟨.law (n + 1), rfl, l, ?_, k z z0 z1⟩⟩
      obtain ⟨c, cells, t, e, _⟩ := l
      rw [show (wdOf h').hp p = h' p from rfl, e]
      simp
    · exact h.elim
  · exact h.elim
/-- law's: a list of at most 63 ints is handed in, True comes out -/
def sp_law (K : PySem.W.Frag) : Sp := fun vs H Q _ => ∃ (a : Addr) (ns : List Int), vs = [.ref a] ∧ SqL K H a (ns.map V.int) ∧ ns.length ≤ 63 ∧ ∀ H', Q (.bl true) H'
def sp__law_begin (K : PySem.W.Frag) : Sp := fun vs H Q _ => ∃ (a : Addr) (ns : List Int), vs = [.ref a] ∧ SqL K H a (ns.map V.int) ∧ ns.length ≤ 63 ∧
  ∀ (p c : Addr) (cells : List Int) (H' : Hp), p ≠ c → H' p = some (.lst [.ref c, .int 0]) → H' c = some (.lst (cells.map V.int)) → cells ≠ [] → cells.length ≤ 64 → Q (.ref p) H'
/-- the world at the law's start -/
def W0 (p : Addr) : Wd := ⟨fun _ => none, hset noHid p (.law 0)⟩
theorem up_law {K : PySem.W.Frag} {t : TSD} {p c : Addr} {cells : List Int} {H : Hp} {σ : St} {δ : Sd} {Dn : Ends} {E : EndsD} (hne : p ≠ c) (h1 : H p = some (.lst [.ref c, .int 0])) (h2 : H c = some (.lst (cells.map V.int))) (h3 : cells ≠ []) (h4 : cells.length ≤ 64)
    (rs : RepS K H δ σ) (h : t E δ (W0 p)) (k1 : E = { nx := fun _ _ => False, rt := fun d _ => d = .bl true }) (k2 : ∀ H', Dn.rt (.bl true) H') : upS K X0 Wx0 t Dn σ H := by
  subst k1
  let g : Dh := dput (dput (fun _ => none) c (.lst (cells.map D.int))) p (.lst [.ref c, .int 0])
  have gp : g p = some (.lst [.ref c, .int 0]) := dput_same
  have gc : g c = some (.lst (cells.map D.int)) := by rw [show g c = _ from dput_ne (Ne.symm hne)]; exact dput_same
  have go : ∀ a o, g a = some o → (a = p ∧ o = .lst [.ref c, .int 0]) ∨ (a = c ∧ o = .lst (cells.map D.int)) := fun a o e => by
    by_cases q : a = p
    · subst q; rw [gp] at e; cases e; exact .inl ⟨rfl, rfl⟩
    · rw [show g a = _ from dput_ne q] at e
      by_cases q2 : a = c
      · subst q2; rw [dput_same] at e; cases e; exact .inr ⟨rfl, rfl⟩
      · rw [dput_ne q2] at e; cases e
  let P : Addr → Dh := fun k => if k = p then g else fun _ => none
  have Pp : P p = g := if_pos rfl
  have Pn : ∀ k, k ≠ p → P k = fun _ => none := fun k h => if_neg h
  have hk : ∀ k φ, (W0 p).hid k = some φ → k = p ∧ φ = .law 0 := fun k φ e => by
    by_cases q : k = p
    · subst q; rw [show (W0 k).hid k = _ from hset_same] at e; cases e; exact ⟨rfl, rfl⟩
    · rw [show (W0 p).hid k = _ from hset_ne q] at e; cases e
  refine ⟨δ, W0 p, P, _, rs, ⟨fun a o e => (by cases e), fun k a o e => ?_, fun k φ e => ?_, fun k e a => ?_, fun k φ e => ?_, fun _ _ _ => rfl, fun k j a e1 e2 => ?_⟩, xarr0, h, ⟨fun _ _ _ _ _ _ _ _ z => z.elim, fun _ _ _ _ _ _ _ _ z => z.elim, fun _ _ _ _ _ _ _ _ z => z.elim, fun d W' P' v H' _ r _ z => ?_⟩⟩
  · by_cases q : k = p
    · subst q
      rw [Pp] at e
      rcases go a o e with ⟨rfl, rfl⟩ | ⟨rfl, rfl⟩
      · exact ⟨_, h1, [.ref c, .int 0], rfl, ⟨_, _, rfl, rfl, ⟨_, _, rfl, rfl, rfl⟩⟩⟩
      · exact ⟨_, h2, _, rfl, repVs_ints cells⟩
    · rw [Pn k q] at e; cases e
  · obtain ⟨rfl, rfl⟩ := hk k φ e
    rw [Pp]
    exact ⟨c, cells, 0, gp, gc, hne, Int.le_refl _, Int.le_refl _, h3, h4⟩
  · by_cases q : k = p
    · subst q; rw [show (W0 k).hid k = _ from hset_same] at e; cases e
    · rw [Pn k q]
  · obtain ⟨rfl, rfl⟩ := hk k φ e
    rw [Pp, gp]; simp
  · by_cases q : k = p
    · by_cases q2 : j = p
      · rw [q, q2]
      · rw [Pn j q2] at e2; exact absurd rfl e2
    · rw [Pn k q] at e1; exact absurd rfl e1
  · have z : d = .bl true := z
    subst z
    rw [show v = V.bl true from r]
    exact k2 H'
end DL

namespace DL
open PySem L2
/-! ### small facts -/
theorem cdiv_of {i j : Int} (h0 : 0 < j) (h1 : j < 2 ^ 64) : CDivW i j := wide_div (b := 64) h0 (by omega) (by decide) (by decide)
theorem mul_l {i j : Int} (h0 : -(2 ^ 64) < i) (h1 : i < 2 ^ 64) : IntMulOk i j := CMul.ok (.inl ⟨h0, h1⟩)
theorem mul_r {i j : Int} (h0 : -(2 ^ 64) < j) (h1 : j < 2 ^ 64) : IntMulOk i j := CMul.ok (.inr ⟨h0, h1⟩)
theorem cpow_of {i j : Int} (h0 : 0 ≤ j) (h1 : j ≤ 1000) (h2 : i.natAbs < 2 ^ 64) : CPow i j := ⟨h0, by omega, h2⟩
theorem cut_take {α : Type} (xs : List α) (n : Nat) : cutD xs none (some (n : Int)) = xs.take n := by
  unfold cutD
  rw [HT.sIx_none, HT.sIx_nat, List.drop_zero, Nat.sub_zero, List.take_eq_take_iff]
  omega
theorem cut_drop {α : Type} (xs : List α) (n : Nat) : cutD xs (some (n : Int)) none = xs.drop n := by
  unfold cutD
  rw [HT.sIx_none, HT.sIx_nat]
  by_cases h : n ≤ xs.length
  · rw [Nat.min_eq_left h, List.take_of_length_le (by rw [List.length_drop]; omega)]
  · rw [Nat.min_eq_right (by omega), List.drop_eq_nil_of_le (by omega), List.drop_eq_nil_of_le (by omega)]; simp
theorem WkQ.mono {φ ψ : Wd → Prop} {W : Wd} (h : WkQ φ W) (k : ∀ W, φ W → ψ W) : WkQ ψ W := let ⟨W', w, h⟩ := h; ⟨W', w, k _ h⟩
/-- a fresh cell forgotten -/
theorem WkQ.put {φ : Wd → Prop} {W : Wd} {a : Addr} {o : DO} (h : W.hp a = none) (k : φ W) : WkQ φ (W.put a o) := ⟨W, .put h, k⟩
theorem atI_cons_zero {α : Type} {d : α} {ds : List α} : atI (d :: ds) 0 = some d := atI_nat (j := 0) rfl
theorem atI_lit {α : Type} {ds : List α} (n : Nat) {d : α} (h : ds[n]? = some d) : atI ds (n : Int) = some d := atI_nat h
/-- an item of a list that is written, at a place that lies in it -/
theorem at_any {ds : List D} {i : Int} {p : D → Prop} (h0 : 0 ≤ i) (h1 : i < ds.length) (h : ∀ d ∈ ds, p d) : (match atI ds i with
    | some d => p d
    | none => False) := by
  obtain ⟨d, e, q⟩ := atI_all h0 h1 h
  rw [e]; exact q
theorem mem_upto {lo : Int} {n : Nat} {d : D} (h : d ∈ upto lo n) : ∃ i : Nat, i < n ∧ d = .int (lo + i) := by
  obtain ⟨i, hi, rfl⟩ := List.mem_map.mp h
  exact ⟨i, List.mem_range.mp hi, rfl⟩
theorem upto_length (lo : Int) (n : Nat) : (upto lo n).length = n := by simp [upto]
theorem upto_succ (lo : Int) (n : Nat) : upto lo (n + 1) = .int lo :: upto (lo + 1) n := by
  unfold upto
  rw [List.range_succ_eq_map, List.map_cons, List.map_map]
  congr 1
  · simp
  · apply List.map_congr_left
    intro i _
    show D.int _ = D.int _
    congr 1
    show lo + ((i + 1 : Nat) : Int) = lo + 1 + (i : Int)
    omega
theorem upto_zero (lo : Int) : upto lo 0 = [] := rfl
/-- a loop by a word of the items left, the slots, the world -/
theorem for_by {guard : Wd → Prop} {g : Tg} {tb : TSD} {E : EndsD} (I : List D → Sd → Wd → Prop) {items : List D} {δ : Sd} {W : Wd} (h0 : I items δ W)
    (hs : ∀ (x : D) (r : List D) δ W (N : Sd → Wd → Prop), I (x :: r) δ W → (∀ δ' W', I r δ' W' → N δ' W') → tgD g x δ W fun δ2 W2 => tb { E with nx := fun δ3 W3 => WkQ (fun W4 => guard W4 ∧ N δ3 W4) W3, ct := fun δ3 W3 => WkQ (fun W4 => guard W4 ∧ N δ3 W4) W3, bk := E.nx } δ2 W2)
    (hd : ∀ δ W, I [] δ W → E.nx δ W) : dForGo guard g tb E items δ W := by
  induction items generalizing δ W with
  | nil => exact hd δ W h0
  | cons x r ih => exact hs x r δ W _ h0 fun δ' W' h => ih h
/-- .. over a range: by the turn -/
theorem for_upto {guard : Wd → Prop} {g : Tg} {tb : TSD} {E : EndsD} (I : Nat → Sd → Wd → Prop) {lo : Int} {n : Nat} {δ : Sd} {W : Wd} (h0 : I 0 δ W)
    (hs : ∀ (i : Nat) δ W (N : Sd → Wd → Prop), i < n → I i δ W → (∀ δ' W', I (i + 1) δ' W' → N δ' W') → tgD g (.int (lo + i)) δ W fun δ2 W2 => tb { E with nx := fun δ3 W3 => WkQ (fun W4 => guard W4 ∧ N δ3 W4) W3, ct := fun δ3 W3 => WkQ (fun W4 => guard W4 ∧ N δ3 W4) W3, bk := E.nx } δ2 W2)
    (hd : ∀ δ W, I n δ W → E.nx δ W) : dForGo guard g tb E (upto lo n) δ W := by
  refine for_by (fun r δ W => ∃ i : Nat, i ≤ n ∧ r = upto (lo + i) (n - i) ∧ I i δ W) ⟨0, Nat.zero_le _, by simp, h0⟩ ?_ ?_
  · rintro x r δ W N ⟨i, hi, e, h⟩ k
    cases m : n - i with
    | zero => rw [m] at e; cases e
    | succ m' =>
      rw [m, upto_succ] at e
      cases e
      refine hs i δ W N (by omega) h fun δ' W' h' => k δ' W' ⟨i + 1, by omega, ?_, h'⟩
      rw [show n - (i + 1) = m' by omega, show lo + ((i + 1 : Nat) : Int) = lo + (i : Int) + 1 by omega]
  · rintro δ W ⟨i, hi, e, h⟩
    have := congrArg List.length e
    rw [upto_length, List.length_nil] at this
    have : i = n := by omega
    subst this
    exact hd δ W h
theorem lc_by {guard : Wd → Prop} {g : Tg} {tt : TTD} {te : TED} {δ : Sd} {q : List D → Wd → Prop} (I : List D → List D → Wd → Prop) {items acc : List D} {W : Wd} (h0 : I items acc W)
    (hs : ∀ (x : D) (r acc : List D) W (N : List D → Wd → Prop), I (x :: r) acc W → (∀ acc' W', I r acc' W' → N acc' W') → tgD g x δ W fun δ2 W2 => tt δ2 W2 fun b W3 => if b = true then te δ2 W3 fun d W4 => guard W4 ∧ N (acc ++ [d]) W4 else guard W3 ∧ N acc W3)
    (hd : ∀ acc W, I [] acc W → q acc W) : dLcGo guard g tt te δ items acc W q := by
  induction items generalizing acc W with
  | nil => exact hd acc W h0
  | cons x r ih => exact hs x r acc W _ h0 fun acc' W' h => ih h
/-- what a pure comprehension gives: kept items' values -/
theorem lc_pure {guard : Wd → Prop} {g : Tg} {tt : TTD} {te : TED} {δ : Sd} {q : List D → Wd → Prop} (c : D → Bool) (f : D → D) {items acc : List D} {W : Wd} (hg : guard W)
    (hs : ∀ (x : D) (N : List D → Wd → Prop), x ∈ items → ∀ acc, (c x = true → N (acc ++ [f x]) W) → (c x = false → N acc W) → tgD g x δ W fun δ2 W2 => tt δ2 W2 fun b W3 => if b = true then te δ2 W3 fun d W4 => guard W4 ∧ N (acc ++ [d]) W4 else guard W3 ∧ N acc W3)
    (hd : q (acc ++ (items.filter c).map f) W) : dLcGo guard g tt te δ items acc W q := by
  refine lc_by (fun r a W' => W' = W ∧ (∀ x ∈ r, x ∈ items) ∧ a ++ (r.filter c).map f = acc ++ (items.filter c).map f) ⟨rfl, fun _ h => h, rfl⟩ ?_ ?_
  · rintro x r a W' N ⟨rfl, hm, e⟩ k
    refine hs x N (hm x List.mem_cons_self) a (fun hc => k _ _ ⟨rfl, fun y hy => hm y (List.mem_cons_of_mem _ hy), ?_⟩) (fun hc => k _ _ ⟨rfl, fun y hy => hm y (List.mem_cons_of_mem _ hy), ?_⟩)
    · rw [← e, List.filter_cons_of_pos hc, List.map_cons, List.append_assoc]; rfl
    · rw [← e, List.filter_cons_of_neg (by rw [hc]; exact Bool.false_ne_true)]
  · rintro a W' ⟨rfl, _, e⟩
    rw [List.filter_nil, List.map_nil, List.append_nil] at e
    rw [e]; exact hd
end DL

namespace DL
open PySem L2
/-! ### the readings, equation by equation (printed by mkrd.py) -/
def onSome {α : Type} (o : Option α) (f : α → Prop) : Prop := match o with
  | some x => f x
  | none => False
def onLst (o : Option DO) (f : List D → Prop) : Prop := match o with
  | some (.lst ds) => f ds
  | _ => False
def onSlot (o : Option (Option D)) (f : D → Prop) : Prop := match o with
  | some (some d) => f d
  | _ => False
def tstB (x : D) (W : Wd) (q : Bool → Wd → Prop) : Prop := match x with
  | .bl k => q k W
  | _ => False
def prtI (x : D) (W : Wd) (q : Option Int → Wd → Prop) : Prop := match x with
  | .int i => q (some i) W
  | _ => False
theorem on_some {α : Type} {x : α} {f : α → Prop} : (onSome (some x) f) = (f x) := rfl
theorem on_lst {ds : List D} {f : List D → Prop} : (onLst (some (.lst ds)) f) = (f ds) := rfl
theorem on_slot {d : D} {f : D → Prop} : (onSlot (some (some d)) f) = (f d) := rfl
theorem tst_bl {k : Bool} {W : Wd} {q : Bool → Wd → Prop} : (tstB (.bl k) W q) = (q k W) := rfl
theorem prt_int {i : Int} {W : Wd} {q : Option Int → Wd → Prop} : (prtI (.int i) W q) = (q (some i) W) := rfl
theorem rd_seq {t u : TSD} {E : EndsD} {δ : Sd} {W : Wd} : (dSeq t u E δ W) = (t ⟨u E, E.rt, E.bk, E.ct⟩ δ W) := rfl
theorem rd_next {E : EndsD} {δ : Sd} {W : Wd} : (dNext E δ W) = (E.nx δ W) := rfl
theorem rd_ret {te : TED} {E : EndsD} {δ : Sd} {W : Wd} : (dRet te E δ W) = (te δ W E.rt) := rfl
theorem rd_retN {E : EndsD} {δ : Sd} {W : Wd} : (dRetN E δ W) = (E.rt .non W) := rfl
theorem rd_brk {E : EndsD} {δ : Sd} {W : Wd} : (dBreak E δ W) = (E.bk δ W) := rfl
theorem rd_cnt {E : EndsD} {δ : Sd} {W : Wd} : (dCont E δ W) = (E.ct δ W) := rfl
theorem rd_drop {te : TED} {E : EndsD} {δ : Sd} {W : Wd} : (dDrop te E δ W) = (te δ W fun _ W1 => E.nx δ W1) := rfl
theorem rd_ifS {c : TTD} {t u : TSD} {E : EndsD} {δ : Sd} {W : Wd} : (dIfS c t u E δ W) = (c δ W fun b W1 => if b = true then t E δ W1 else u E δ W1) := rfl
theorem rd_asg {te : TED} {g : Tg} {E : EndsD} {δ : Sd} {W : Wd} : (dAsg te g E δ W) = (te δ W fun d W1 => tgD g d δ W1 E.nx) := rfl
theorem rd_tnm {i : Nat} {d : D} {δ : Sd} {W : Wd} {q : Sd → Wd → Prop} : (tgD (.nm i) d δ W q) = (q (δ.set i (some d)) W) := rfl
theorem rd_ttp {is : List Nat} {ds : List D} {δ : Sd} {W : Wd} {q : Sd → Wd → Prop} : (tgD (.tp is) (.tup ds) δ W q) = (ds.length = is.length ∧ q (setAll ds is δ) W) := rfl
theorem rd_raise {C : Addr} {Ed : WXD} {E : EndsD} {δ : Sd} {W : Wd} : (dRaise C Ed E δ W) = (Ed (.ref C) none δ W) := rfl
theorem rd_asgL {te : TED} {is : List Nat} {E : EndsD} {δ : Sd} {W : Wd} : dAsgL te is E δ W = te δ W fun d W1 => lstAt W1 d fun ds => ds.length = is.length ∧ E.nx (setAll ds is δ) W1 := rfl
def setLV (v o i : D) (W : Wd) (q : Wd → Prop) : Prop := match o, i with
  | .ref a, .int k => onLst (W.hp a) fun ds => onSome (ixN ds.length k) fun j => q (W.put a (.lst (ds.set j v)))
  | _, _ => False
theorem rd_setL {te to ti : TED} {E : EndsD} {δ : Sd} {W : Wd} : dSetL te to ti E δ W = te δ W fun v W1 => to δ W1 fun o W2 => ti δ W2 fun i W3 => setLV v o i W3 (E.nx δ) := by
  unfold dSetL
  congr 1; funext v W1; congr 1; funext o W2; congr 1; funext i W3
  cases o with
  | ref a => cases i with
    | int k =>
      show (match W3.hp a with | some (.lst ds) => (match ixN ds.length k with | some j => E.nx δ (W3.put a (.lst (ds.set j v))) | none => False) | _ => False) = onLst (W3.hp a) _
      cases W3.hp a with
      | none => rfl
      | some o => cases o with
        | lst ds =>
          show (match ixN ds.length k with | some j => E.nx δ (W3.put a (.lst (ds.set j v))) | none => False) = onSome (ixN ds.length k) _
          cases ixN ds.length k <;> rfl
        | _ => rfl
    | _ => rfl
  | _ => rfl
theorem rd_setLV {v : D} {a : Addr} {k : Int} {W : Wd} {q : Wd → Prop} : setLV v (.ref a) (.int k) W q = onLst (W.hp a) fun ds => onSome (ixN ds.length k) fun j => q (W.put a (.lst (ds.set j v))) := rfl
theorem rd_aug {i : Nat} {r : DR2} {te : TED} {E : EndsD} {δ : Sd} {W : Wd} : dAug i r te E δ W = onSlot δ[i]? fun d => te δ W fun y W1 => r d y W1 fun z W2 => E.nx (δ.set i (some z)) W2 := rfl
theorem rd_var {i : Nat} {δ : Sd} {W : Wd} {q : DK} : dVar i δ W q = onSlot δ[i]? fun d => q d W := rfl
theorem rd_c {d : D} {δ : Sd} {W : Wd} {q : DK} : (dC d δ W q) = (q d W) := rfl
theorem rd_op {r : DR2} {ta tb : TED} {δ : Sd} {W : Wd} {q : DK} : (dOp r ta tb δ W q) = (ta δ W fun x W1 => tb δ W1 fun y W2 => r x y W2 q) := rfl
theorem rd_un {r : DR1} {ta : TED} {δ : Sd} {W : Wd} {q : DK} : (dUn r ta δ W q) = (ta δ W fun x W1 => r x W1 q) := rfl
theorem rd_test {t : TED} {δ : Sd} {W : Wd} {q : Bool → Wd → Prop} : dTest t δ W q = t δ W fun x W1 => tstB x W1 q := rfl
theorem rd_and {t u : TTD} {δ : Sd} {W : Wd} {q : Bool → Wd → Prop} : (dAnd t u δ W q) = (t δ W fun c W1 => if c = true then u δ W1 q else q false W1) := rfl
theorem rd_or {t u : TTD} {δ : Sd} {W : Wd} {q : Bool → Wd → Prop} : (dOr t u δ W q) = (t δ W fun c W1 => if c = true then q true W1 else u δ W1 q) := rfl
theorem rd_not {t : TTD} {δ : Sd} {W : Wd} {q : Bool → Wd → Prop} : (dNot t δ W q) = (t δ W fun c W1 => q (!c) W1) := rfl
theorem rd_yes {δ : Sd} {W : Wd} {q : Bool → Wd → Prop} : (dYes δ W q) = (q true W) := rfl
theorem rd_andV {ta tb : TED} {δ : Sd} {W : Wd} {q : DK} : dAndV ta tb δ W q = ta δ W fun x W1 => tstB x W1 fun c W2 => if c = true then tb δ W2 q else q (.bl false) W2 := by
  unfold dAndV tstB
  congr 1
  funext x W1
  cases x <;> first | rfl | (rename_i b; cases b <;> rfl)
theorem rd_orV {ta tb : TED} {δ : Sd} {W : Wd} {q : DK} : dOrV ta tb δ W q = ta δ W fun x W1 => tstB x W1 fun c W2 => if c = true then q (.bl true) W2 else tb δ W2 q := by
  unfold dOrV tstB
  congr 1
  funext x W1
  cases x <;> first | rfl | (rename_i b; cases b <;> rfl)
theorem rd_notV {ta : TED} {δ : Sd} {W : Wd} {q : DK} : dNotV ta δ W q = ta δ W fun x W1 => tstB x W1 fun c W2 => q (.bl (!c)) W2 := by
  unfold dNotV tstB
  rfl
theorem rd_chain {r r' : DR2} {ta tb tc : TED} {δ : Sd} {W : Wd} {q : DK} : dChain r r' ta tb tc δ W q = ta δ W fun x W1 => tb δ W1 fun y W2 => r x y W2 fun z W3 => tstB z W3 fun c W4 => if c = true then tc δ W4 fun w W5 => r' y w W5 q else q (.bl false) W4 := by
  unfold dChain tstB
  congr 1
  funext x W1
  congr 1
  funext y W2
  congr 1
  funext z W3
  cases z <;> first | rfl | (rename_i b; cases b <;> rfl)
theorem rd_if {t : TTD} {ta tb : TED} {δ : Sd} {W : Wd} {q : DK} : (dIf t ta tb δ W q) = (t δ W fun c W1 => if c = true then ta δ W1 q else tb δ W1 q) := rfl
theorem rd_nil {δ : Sd} {W : Wd} {q : List D → Wd → Prop} : (dNil δ W q) = (q [] W) := rfl
theorem rd_cons {ta : TED} {tr : TAD} {δ : Sd} {W : Wd} {q : List D → Wd → Prop} : (dCons ta tr δ W q) = (ta δ W fun x W1 => tr δ W1 fun xs W2 => q (x :: xs) W2) := rfl
theorem rd_tup {tA : TAD} {δ : Sd} {W : Wd} {q : DK} : (dTup tA δ W q) = (tA δ W fun ds W1 => Sz ds.length ∧ q (.tup ds) W1) := rfl
theorem rd_lst {tA : TAD} {δ : Sd} {W : Wd} {q : List D → Wd → Prop} : (dLst tA δ W q) = (tA δ W fun ds W1 => Sz ds.length ∧ q ds W1) := rfl
theorem rd_cell {tA : TAD} {δ : Sd} {W : Wd} {q : DK} : (dCell tA δ W q) = (tA δ W fun ds W1 => ∀ p, W1.hp p = none → W1.hid p = none → q (.ref p) (W1.put p (.lst ds))) := rfl
theorem rd_seen {ta : TED} {δ : Sd} {W : Wd} {q : List D → Wd → Prop} : (dSeen ta δ W q) = (ta δ W fun d W1 => lstAt W1 d fun ds => q ds W1) := rfl
theorem rd_lstAt {W : Wd} {a : Addr} {q : List D → Prop} : lstAt W (.ref a) q = onLst (W.hp a) q := rfl
theorem rd_opM {β : Type} {r : DRM β} {tl tr : TAD} {δ : Sd} {W : Wd} {q : β → Wd → Prop} : (dOpM r tl tr δ W q) = (tl δ W fun ds W1 => tr δ W1 fun es W2 => r ds es W2 q) := rfl
theorem rd_opV {β : Type} {r : DRM β} {ta : TED} {tr : TAD} {δ : Sd} {W : Wd} {q : β → Wd → Prop} : (dOpV r ta tr δ W q) = (ta δ W fun d W1 => tr δ W1 fun es W2 => lstAt W2 d fun ds => r ds es W2 q) := rfl
theorem rd_op1M {r : D → List D → Wd → DK → Prop} {ta : TED} {tr : TAD} {δ : Sd} {W : Wd} {q : DK} : (dOp1M r ta tr δ W q) = (ta δ W fun d W1 => tr δ W1 fun es W2 => r d es W2 q) := rfl
theorem rd_opM1 {β : Type} {r : List D → D → Wd → (β → Wd → Prop) → Prop} {tl : TAD} {tb : TED} {δ : Sd} {W : Wd} {q : β → Wd → Prop} : (dOpM1 r tl tb δ W q) = (tl δ W fun ds W1 => tb δ W1 fun d W2 => r ds d W2 q) := rfl
theorem rd_call {d : DSp} {tA : TAD} {δ : Sd} {W : Wd} {q : DK} : (dCall d tA δ W q) = (tA δ W fun ds W1 => d ds W1 q E0D) := rfl
theorem rd_callX {d : DSp} {Ed : WXD} {tA : TAD} {δ : Sd} {W : Wd} {q : DK} : (dCallX d Ed tA δ W q) = (tA δ W fun ds W1 => d ds W1 q fun c dx W2 => Ed c dx δ W2) := rfl
theorem rd_cb {r : DCR} {tA : TAD} {δ : Sd} {W : Wd} {q : DK} : (dCB r tA δ W q) = (tA δ W fun ds W1 => r ds W1 q) := rfl
theorem rd_cm {β : Type} {r : List D → Wd → (β → Wd → Prop) → Prop} {tA : TAD} {δ : Sd} {W : Wd} {q : β → Wd → Prop} : (dCM r tA δ W q) = (tA δ W fun ds W1 => r ds W1 q) := rfl
theorem rv_add_int {i j : Int} {W : Wd} {q : DK} : (dAdd (.int i) (.int j) W q) = (q (.int (i + j)) W) := rfl
theorem rv_add_str {a b : Str} {W : Wd} {q : DK} : (dAdd (.str a) (.str b) W q) = (Sz (a.length + b.length) ∧ q (.str (a ++ b)) W) := rfl
theorem rv_add_tup {xs ys : List D} {W : Wd} {q : DK} : (dAdd (.tup xs) (.tup ys) W q) = (Sz (xs.length + ys.length) ∧ q (.tup (xs ++ ys)) W) := rfl
theorem rv_I2 {C : Int → Int → Prop} {g : Int → Int → D} {i j : Int} {W : Wd} {q : DK} : (dI2 C g (.int i) (.int j) W q) = (C i j ∧ q (g i j) W) := rfl
theorem rv_I2' {g : Int → Int → D} {i j : Int} {W : Wd} {q : DK} : (dI2' g (.int i) (.int j) W q) = (q (g i j) W) := rfl
theorem rv_cmp_int {f : Int → Int → Bool} {g : Str → Str → Bool} {i j : Int} {W : Wd} {q : DK} : (dCmpI f g (.int i) (.int j) W q) = (q (.bl (f i j)) W) := rfl
theorem rv_cmp_str {f : Int → Int → Bool} {g : Str → Str → Bool} {i j : Str} {W : Wd} {q : DK} : (dCmpI f g (.str i) (.str j) W q) = (q (.bl (g i j)) W) := rfl
theorem rv_eq_int {i j : Int} {W : Wd} {q : DK} : (dEq (.int i) (.int j) W q) = (q (.bl (decide (i = j))) W) := rfl
theorem rv_eq_str {i j : Str} {W : Wd} {q : DK} : (dEq (.str i) (.str j) W q) = (q (.bl (decide (i = j))) W) := rfl
theorem rv_eq_bl {i j : Bool} {W : Wd} {q : DK} : (dEq (.bl i) (.bl j) W q) = (q (.bl (decide (i = j))) W) := rfl
theorem rv_ne_int {i j : Int} {W : Wd} {q : DK} : (dNe (.int i) (.int j) W q) = (q (.bl (!decide (i = j))) W) := rfl
theorem rv_ne_str {i j : Str} {W : Wd} {q : DK} : (dNe (.str i) (.str j) W q) = (q (.bl (!decide (i = j))) W) := rfl
theorem rv_ne_bl {i j : Bool} {W : Wd} {q : DK} : (dNe (.bl i) (.bl j) W q) = (q (.bl (!decide (i = j))) W) := rfl
theorem rv_is_bl {i j : Bool} {W : Wd} {q : DK} : (dIs (.bl i) (.bl j) W q) = (q (.bl (decide (i = j))) W) := rfl
theorem rv_isnot_bl {i j : Bool} {W : Wd} {q : DK} : (dIsNot (.bl i) (.bl j) W q) = (q (.bl (!decide (i = j))) W) := rfl
theorem rv_is_non_int {i : Int} {W : Wd} {q : DK} : (dIs (.int i) .non W q) = (q (.bl false) W) := rfl
theorem rv_isnot_non_int {i : Int} {W : Wd} {q : DK} : (dIsNot (.int i) .non W q) = (q (.bl true) W) := rfl
theorem rv_is_non_str {i : Str} {W : Wd} {q : DK} : (dIs (.str i) .non W q) = (q (.bl false) W) := rfl
theorem rv_isnot_non_str {i : Str} {W : Wd} {q : DK} : (dIsNot (.str i) .non W q) = (q (.bl true) W) := rfl
theorem rv_is_non_bl {i : Bool} {W : Wd} {q : DK} : (dIs (.bl i) .non W q) = (q (.bl false) W) := rfl
theorem rv_isnot_non_bl {i : Bool} {W : Wd} {q : DK} : (dIsNot (.bl i) .non W q) = (q (.bl true) W) := rfl
theorem rv_is_non_tup {i : List D} {W : Wd} {q : DK} : (dIs (.tup i) .non W q) = (q (.bl false) W) := rfl
theorem rv_isnot_non_tup {i : List D} {W : Wd} {q : DK} : (dIsNot (.tup i) .non W q) = (q (.bl true) W) := rfl
theorem rv_is_non_ref {i : Addr} {W : Wd} {q : DK} : (dIs (.ref i) .non W q) = (q (.bl false) W) := rfl
theorem rv_isnot_non_ref {i : Addr} {W : Wd} {q : DK} : (dIsNot (.ref i) .non W q) = (q (.bl true) W) := rfl
theorem rv_is_non {W : Wd} {q : DK} : (dIs .non .non W q) = (q (.bl true) W) := rfl
theorem rv_isnot_non {W : Wd} {q : DK} : (dIsNot .non .non W q) = (q (.bl false) W) := rfl
theorem rv_in_tup {x : D} {es : List D} {W : Wd} {q : DK} : (dIn x (.tup es) W q) = (flatD x = true ∧ es.all flatD = true ∧ q (.bl (inV (toV x) (es.map toV))) W) := rfl
theorem rv_notIn_tup {x : D} {es : List D} {W : Wd} {q : DK} : (dNotIn x (.tup es) W q) = (flatD x = true ∧ es.all flatD = true ∧ q (.bl (!inV (toV x) (es.map toV))) W) := rfl
theorem rv_ix_tup {ds : List D} {i : Int} {W : Wd} {q : DK} : dIx (.tup ds) (.int i) W q = onSome (atI ds i) fun d => q d W := by
  show (match atI ds i with | some d => q d W | none => False) = _
  cases atI ds i <;> rfl
theorem rv_ix_str {z : Str} {i : Int} {W : Wd} {q : DK} : dIx (.str z) (.int i) W q = (Sz z.length ∧ onSome (atI z.cps.toList i) fun c => q (.str ⟨#[c]⟩) W) := by
  show (Sz z.length ∧ (match atI z.cps.toList i with | some c => q (.str ⟨#[c]⟩) W | none => False)) = _
  cases atI z.cps.toList i <;> rfl
theorem rv_ix_ref {a : Addr} {i : Int} {W : Wd} {q : DK} : dIx (.ref a) (.int i) W q = onLst (W.hp a) fun ds => onSome (atI ds i) fun d => q d W := by
  show (match W.hp a with | some (.lst ds) => (match atI ds i with | some d => q d W | none => False) | _ => False) = _
  cases W.hp a with
  | none => rfl
  | some o =>
    cases o with
    | lst ds => show (match atI ds i with | some d => q d W | none => False) = onSome (atI ds i) fun d => q d W; cases atI ds i <;> rfl
    | _ => rfl
theorem rv_ixL {ds : List D} {i : Int} {W : Wd} {q : DK} : DL.rIxL ds (.int i) W q = onSome (atI ds i) fun d => q d W := by
  show (match atI ds i with | some d => q d W | none => False) = _
  cases atI ds i <;> rfl
theorem rv_catL {ds es : List D} {W : Wd} {q : List D → Wd → Prop} : (rCatL ds es W q) = (Sz (ds.length + es.length) ∧ q (ds ++ es) W) := rfl
theorem rv_repL {ds : List D} {k : Int} {W : Wd} {q : List D → Wd → Prop} : (rRepL ds (.int k) W q) = (-(2 ^ 63) ≤ k ∧ k < 2 ^ 63 ∧ Sz (ds.length * k.toNat) ∧ q (List.replicate k.toNat ds).flatten W) := rfl
theorem rv_inM {x : D} {es : List D} {W : Wd} {q : DK} : rInM x es W q = onSome (memB (rfD W.hp deepN) x es) fun b => q (.bl b) W := by
  unfold rInM onSome
  cases memB (rfD W.hp deepN) x es <;> rfl
theorem rv_notInM {x : D} {es : List D} {W : Wd} {q : DK} : rNotInM x es W q = onSome (memB (rfD W.hp deepN) x es) fun b => q (.bl (!b)) W := by
  unfold rNotInM onSome
  cases memB (rfD W.hp deepN) x es <;> rfl
theorem rv_eqL {ds es : List D} {W : Wd} {q : DK} : rEqL ds es W q = onSome (eqsB (rfD W.hp deepN) ds es) fun b => q (.bl b) W := by
  unfold rEqL onSome
  cases eqsB (rfD W.hp deepN) ds es <;> rfl
theorem rv_neL {ds es : List D} {W : Wd} {q : DK} : rNeL ds es W q = onSome (eqsB (rfD W.hp deepN) ds es) fun b => q (.bl (!b)) W := by
  unfold rNeL onSome
  cases eqsB (rfD W.hp deepN) ds es <;> rfl
theorem rv_len_tup {xs : List D} {W : Wd} {q : DK} : (dLenV [.tup xs] W q) = (q (.int xs.length) W) := rfl
theorem rv_len_str {z : Str} {W : Wd} {q : DK} : (dLenV [.str z] W q) = (Sz z.length ∧ q (.int z.length) W) := rfl
theorem rv_len_ref {a : Addr} {W : Wd} {q : DK} : dLenV [.ref a] W q = onLst (W.hp a) fun xs => q (.int xs.length) W := by
  unfold dLenV onLst
  rfl
theorem rv_lenM {ds : List D} {W : Wd} {q : DK} : (dLenM ds W q) = (q (.int ds.length) W) := rfl
theorem rv_tupM {ds : List D} {W : Wd} {q : DK} : (dTupM ds W q) = (q (.tup ds) W) := rfl
theorem rv_listM {ds : List D} {W : Wd} {q : List D → Wd → Prop} : (dListM ds W q) = (q ds W) := rfl
theorem rv_listT {xs : List D} {W : Wd} {q : List D → Wd → Prop} : (dListT [.tup xs] W q) = (q xs W) := rfl
theorem rv_abs {i : Int} {W : Wd} {q : DK} : (dAbs [.int i] W q) = (q (.int (if i < 0 then -i else i)) W) := rfl
theorem rv_int1 {i : Int} {W : Wd} {q : DK} : (dInt1 [.int i] W q) = (q (.int i) W) := rfl
theorem rv_int1b {b : Bool} {W : Wd} {q : DK} : (dInt1 [.bl b] W q) = (q (.int (if b then 1 else 0)) W) := rfl
def onLaw (o : Option HD) (f : Nat → Prop) : Prop := match o with
  | some (.law n) => f n
  | _ => False
theorem on_law {n : Nat} {f : Nat → Prop} : onLaw (some (.law n)) f = f n := rfl
theorem rd_pick {p : Addr} {m : Int} {W : Wd} {q : DK} {E : XDf} : sp__law_pick [.ref p, .int m] W q E = onLaw (W.hid p) fun n => n < 2 ^ 62 ∧ 1 ≤ m ∧ m < 2 ^ 64 ∧ ∀ r : Int, 0 ≤ r → r < m → q (.int r) (W.hide p (.law (n + 1))) := rfl
/-- an item at an open place: by what holds of each -/
theorem on_any {α : Type} {ds : List α} {i : Int} {f : α → Prop} (φ : α → Prop) (h0 : 0 ≤ i) (h1 : i < ds.length) (h : ∀ d ∈ ds, φ d) (k : ∀ d, φ d → f d) : onSome (atI ds i) f := by
  obtain ⟨d, e, q⟩ := atI_all h0 h1 h
  rw [e]; exact k d q
theorem law_of {o : Option HD} {f : Nat → Prop} (h : onLaw o f) : ∃ n, o = some (.law n) ∧ f n := by
  unfold onLaw at h
  split at h
  · exact ⟨_, rfl, h⟩
  · exact h.elim
theorem rv_mm {f : Int → Int → Int} {i j : Int} {W : Wd} {q : DK} : (dMM f [.int i, .int j] W q) = (q (.int (f i j)) W) := rfl
theorem rv_isi_int_int {i : Int} {W : Wd} {q : DK} : (dIsi [.int i, .ty "int"] W q) = (q (.bl true) W) := rfl
theorem rv_isi_int_bool {i : Int} {W : Wd} {q : DK} : (dIsi [.int i, .ty "bool"] W q) = (q (.bl false) W) := rfl
theorem rv_isi_int_str {i : Int} {W : Wd} {q : DK} : (dIsi [.int i, .ty "str"] W q) = (q (.bl false) W) := rfl
theorem rv_isi_int_tuple {i : Int} {W : Wd} {q : DK} : (dIsi [.int i, .ty "tuple"] W q) = (q (.bl false) W) := rfl
theorem rv_isi_int_list {i : Int} {W : Wd} {q : DK} : (dIsi [.int i, .ty "list"] W q) = (q (.bl false) W) := rfl
theorem rv_isi_str_int {i : Str} {W : Wd} {q : DK} : (dIsi [.str i, .ty "int"] W q) = (q (.bl false) W) := rfl
theorem rv_isi_str_bool {i : Str} {W : Wd} {q : DK} : (dIsi [.str i, .ty "bool"] W q) = (q (.bl false) W) := rfl
theorem rv_isi_str_str {i : Str} {W : Wd} {q : DK} : (dIsi [.str i, .ty "str"] W q) = (q (.bl true) W) := rfl
theorem rv_isi_str_tuple {i : Str} {W : Wd} {q : DK} : (dIsi [.str i, .ty "tuple"] W q) = (q (.bl false) W) := rfl
theorem rv_isi_str_list {i : Str} {W : Wd} {q : DK} : (dIsi [.str i, .ty "list"] W q) = (q (.bl false) W) := rfl
theorem rv_isi_bl_int {i : Bool} {W : Wd} {q : DK} : (dIsi [.bl i, .ty "int"] W q) = (q (.bl true) W) := rfl
theorem rv_isi_bl_bool {i : Bool} {W : Wd} {q : DK} : (dIsi [.bl i, .ty "bool"] W q) = (q (.bl true) W) := rfl
theorem rv_isi_bl_str {i : Bool} {W : Wd} {q : DK} : (dIsi [.bl i, .ty "str"] W q) = (q (.bl false) W) := rfl
theorem rv_isi_bl_tuple {i : Bool} {W : Wd} {q : DK} : (dIsi [.bl i, .ty "tuple"] W q) = (q (.bl false) W) := rfl
theorem rv_isi_bl_list {i : Bool} {W : Wd} {q : DK} : (dIsi [.bl i, .ty "list"] W q) = (q (.bl false) W) := rfl
theorem rv_isi_tup_int {i : List D} {W : Wd} {q : DK} : (dIsi [.tup i, .ty "int"] W q) = (q (.bl false) W) := rfl
theorem rv_isi_tup_bool {i : List D} {W : Wd} {q : DK} : (dIsi [.tup i, .ty "bool"] W q) = (q (.bl false) W) := rfl
theorem rv_isi_tup_str {i : List D} {W : Wd} {q : DK} : (dIsi [.tup i, .ty "str"] W q) = (q (.bl false) W) := rfl
theorem rv_isi_tup_tuple {i : List D} {W : Wd} {q : DK} : (dIsi [.tup i, .ty "tuple"] W q) = (q (.bl true) W) := rfl
theorem rv_isi_tup_list {i : List D} {W : Wd} {q : DK} : (dIsi [.tup i, .ty "list"] W q) = (q (.bl false) W) := rfl
theorem rv_isi_non_int  {W : Wd} {q : DK} : (dIsi [.non, .ty "int"] W q) = (q (.bl false) W) := rfl
theorem rv_isi_non_bool  {W : Wd} {q : DK} : (dIsi [.non, .ty "bool"] W q) = (q (.bl false) W) := rfl
theorem rv_isi_non_str  {W : Wd} {q : DK} : (dIsi [.non, .ty "str"] W q) = (q (.bl false) W) := rfl
theorem rv_isi_non_tuple  {W : Wd} {q : DK} : (dIsi [.non, .ty "tuple"] W q) = (q (.bl false) W) := rfl
theorem rv_isi_non_list  {W : Wd} {q : DK} : (dIsi [.non, .ty "list"] W q) = (q (.bl false) W) := rfl
theorem rd_sl {ta : TED} {tl th : TOD} {δ : Sd} {W : Wd} {q : DK} : (dSl ta tl th δ W q) = (ta δ W fun x W1 => tl δ W1 fun l W2 => th δ W2 fun u W3 => dSlV x l u W3 q) := rfl
theorem rd_slL {ta : TED} {tl th : TOD} {δ : Sd} {W : Wd} {q : List D → Wd → Prop} : (dSlL ta tl th δ W q) = (ta δ W fun x W1 => tl δ W1 fun l W2 => th δ W2 fun u W3 => lstAt W3 x fun ds => q (cutD ds l u) W3) := rfl
theorem rd_noPart {δ : Sd} {W : Wd} {q : Option Int → Wd → Prop} : (dNoPart δ W q) = (q none W) := rfl
theorem rd_part {t : TED} {δ : Sd} {W : Wd} {q : Option Int → Wd → Prop} : dPart t δ W q = t δ W fun x W1 => prtI x W1 q := rfl
theorem rv_sl_tup {ds : List D} {lo hi : Option Int} {W : Wd} {q : DK} : (dSlV (.tup ds) lo hi W q) = (q (.tup (cutD ds lo hi)) W) := rfl
theorem rv_sl_str {z : Str} {lo hi : Option Int} {W : Wd} {q : DK} : (dSlV (.str z) lo hi W q) = (Sz z.length ∧ q (.str (cutS z lo hi)) W) := rfl
def appV (o d : D) (W : Wd) (q : DK) : Prop := match o with
  | .ref a => onLst (W.hp a) fun ds => Sz ds.length ∧ q .non (W.put a (.lst (ds ++ [d])))
  | _ => False
theorem rd_append {to te : TED} {δ : Sd} {W : Wd} {q : DK} : dAppend to te δ W q = to δ W fun o W1 => lstAt W1 o fun _ => te δ W1 fun d W2 => appV o d W2 q := by
  unfold dAppend appV onLst
  rfl
theorem rd_appV {a : Addr} {d : D} {W : Wd} {q : DK} : appV (.ref a) d W q = onLst (W.hp a) fun ds => Sz ds.length ∧ q .non (W.put a (.lst (ds ++ [d]))) := rfl
def itV (d : D) (W : Wd) (q : ItD → Wd → Prop) : Prop := match d with
  | .ref a => onLst (W.hp a) fun ds => q ⟨ds, fun W => W.hp a = some (.lst ds)⟩ W
  | _ => False
theorem rd_itV {ta : TED} {δ : Sd} {W : Wd} {q : ItD → Wd → Prop} : dItV ta δ W q = ta δ W fun d W1 => itV d W1 q := by
  unfold dItV itV onLst
  rfl
theorem rd_itVr {a : Addr} {W : Wd} {q : ItD → Wd → Prop} : itV (.ref a) W q = onLst (W.hp a) fun ds => q ⟨ds, fun W => W.hp a = some (.lst ds)⟩ W := rfl
def itT (d : D) (W : Wd) (q : ItD → Wd → Prop) : Prop := match d with
  | .tup ds => q ⟨ds, gTrue⟩ W
  | _ => False
theorem rd_itT {ta : TED} {δ : Sd} {W : Wd} {q : ItD → Wd → Prop} : dItT ta δ W q = ta δ W fun d W1 => itT d W1 q := rfl
theorem rd_itTt {ds : List D} {W : Wd} {q : ItD → Wd → Prop} : itT (.tup ds) W q = q ⟨ds, gTrue⟩ W := rfl
def itS (d : D) (W : Wd) (q : ItD → Wd → Prop) : Prop := match d with
  | .str z => q ⟨signs z, gTrue⟩ W
  | _ => False
theorem rd_itS {ta : TED} {δ : Sd} {W : Wd} {q : ItD → Wd → Prop} : dItS ta δ W q = ta δ W fun d W1 => itS d W1 q := rfl
theorem rd_itSs {z : Str} {W : Wd} {q : ItD → Wd → Prop} : itS (.str z) W q = q ⟨signs z, gTrue⟩ W := rfl
def itR1 (ds : List D) (W : Wd) (q : ItD → Wd → Prop) : Prop := match ds with
  | [.int j] => -(2 ^ 62) ≤ j ∧ j < 2 ^ 62 ∧ q ⟨upto 0 j.toNat, gTrue⟩ W
  | _ => False
theorem rd_itR1 {tA : TAD} {δ : Sd} {W : Wd} {q : ItD → Wd → Prop} : dItR1 tA δ W q = tA δ W fun ds W1 => itR1 ds W1 q := rfl
theorem rd_itR1j {j : Int} {W : Wd} {q : ItD → Wd → Prop} : itR1 [.int j] W q = (-(2 ^ 62) ≤ j ∧ j < 2 ^ 62 ∧ q ⟨upto 0 j.toNat, gTrue⟩ W) := rfl
def itR2 (ds : List D) (W : Wd) (q : ItD → Wd → Prop) : Prop := match ds with
  | [.int i, .int j] => (-(2 ^ 62) ≤ i ∧ i < 2 ^ 62 ∧ -(2 ^ 62) ≤ j ∧ j < 2 ^ 62) ∧ q ⟨upto i (j - i).toNat, gTrue⟩ W
  | _ => False
theorem rd_itR2 {tA : TAD} {δ : Sd} {W : Wd} {q : ItD → Wd → Prop} : dItR2 tA δ W q = tA δ W fun ds W1 => itR2 ds W1 q := rfl
theorem rd_itR2j {i j : Int} {W : Wd} {q : ItD → Wd → Prop} : itR2 [.int i, .int j] W q = ((-(2 ^ 62) ≤ i ∧ i < 2 ^ 62 ∧ -(2 ^ 62) ≤ j ∧ j < 2 ^ 62) ∧ q ⟨upto i (j - i).toNat, gTrue⟩ W) := rfl
theorem rd_itL {tA : TAD} {δ : Sd} {W : Wd} {q : ItD → Wd → Prop} : (dItL tA δ W q) = (tA δ W fun ds W1 => q ⟨ds, gTrue⟩ W1) := rfl
theorem rd_for {src : TID} {g : Tg} {tb : TSD} {E : EndsD} {δ : Sd} {W : Wd} : (dFor src g tb E δ W) = (src δ W fun it W1 => it.guard W1 ∧ dForGo it.guard g tb E it.items δ W1) := rfl
theorem rd_lc {src : TID} {g : Tg} {tt : TTD} {te : TED} {vs : List Nat} {δ : Sd} {W : Wd} {q : List D → Wd → Prop} : (dLc src g tt te vs δ W q) = (src δ W fun it W1 => Sz it.items.length ∧ it.guard W1 ∧ dLcGo it.guard g tt te (wipeD δ vs) it.items [] W1 q) := rfl
theorem rd_wipe0 {δ : Sd} : (wipeD δ []) = (δ) := rfl
theorem rd_wipe1 {δ : Sd} {v : Nat} {vs : List Nat} : (wipeD δ (v :: vs)) = ((wipeD δ vs).set v none) := rfl
theorem rd_set0 {α : Type} {is : List Nat} {δ : List (Option α)} : (setAll [] is δ) = (δ) := rfl
theorem rd_set1 {α : Type} {d : α} {ds : List α} {i : Nat} {is : List Nat} {δ : List (Option α)} : (setAll (d :: ds) (i :: is) δ) = (setAll ds is (δ.set i (some d))) := rfl
theorem rd_gTrue {W : Wd} : gTrue W = True := rfl
theorem wd_put_hp {W : Wd} {a : Addr} {o : DO} : ((W.put a o).hp) = (dput W.hp a o) := rfl
theorem wd_put_hid {W : Wd} {a : Addr} {o : DO} : ((W.put a o).hid) = (W.hid) := rfl
theorem wd_hide_hp {W : Wd} {a : Addr} {φ : HD} : ((W.hide a φ).hp) = (W.hp) := rfl
theorem wd_hide_hid {W : Wd} {a : Addr} {φ : HD} : ((W.hide a φ).hid) = (hset W.hid a φ) := rfl
theorem wd_of_hp {h : Dh} : ((wdOf h).hp) = (h) := rfl
theorem wd_put_hide {W : Wd} {a p : Addr} {φ : HD} {o : DO} : ((W.hide a φ).put p o) = ((W.put p o).hide a φ) := rfl
theorem wd_hide_hide {W : Wd} {a : Addr} {φ ψ : HD} : (W.hide a φ).hide a ψ = W.hide a ψ := by unfold Wd.hide; simp only [hset_hset]
theorem wd_put_put {W : Wd} {a : Addr} {o u : DO} : (W.put a o).put a u = W.put a u := by unfold Wd.put; simp only [dput_dput]
theorem wd_of_put {h : Dh} {a : Addr} {o : DO} : (wdOf h).put a o = wdOf (dput h a o) := rfl
theorem at_0 {α : Type} {x0 : α} {l : List α} : atI (x0 :: l) 0 = some x0 := atI_nat (j := 0) rfl
theorem at_1 {α : Type} {x0 x1 : α} {l : List α} : atI (x0 :: x1 :: l) 1 = some x1 := atI_nat (j := 1) rfl
theorem at_2 {α : Type} {x0 x1 x2 : α} {l : List α} : atI (x0 :: x1 :: x2 :: l) 2 = some x2 := atI_nat (j := 2) rfl
theorem at_3 {α : Type} {x0 x1 x2 x3 : α} {l : List α} : atI (x0 :: x1 :: x2 :: x3 :: l) 3 = some x3 := atI_nat (j := 3) rfl
theorem at_4 {α : Type} {x0 x1 x2 x3 x4 : α} {l : List α} : atI (x0 :: x1 :: x2 :: x3 :: x4 :: l) 4 = some x4 := atI_nat (j := 4) rfl
theorem at_5 {α : Type} {x0 x1 x2 x3 x4 x5 : α} {l : List α} : atI (x0 :: x1 :: x2 :: x3 :: x4 :: x5 :: l) 5 = some x5 := atI_nat (j := 5) rfl
theorem at_6 {α : Type} {x0 x1 x2 x3 x4 x5 x6 : α} {l : List α} : atI (x0 :: x1 :: x2 :: x3 :: x4 :: x5 :: x6 :: l) 6 = some x6 := atI_nat (j := 6) rfl
theorem at_7 {α : Type} {x0 x1 x2 x3 x4 x5 x6 x7 : α} {l : List α} : atI (x0 :: x1 :: x2 :: x3 :: x4 :: x5 :: x6 :: x7 :: l) 7 = some x7 := atI_nat (j := 7) rfl
theorem at_8 {α : Type} {x0 x1 x2 x3 x4 x5 x6 x7 x8 : α} {l : List α} : atI (x0 :: x1 :: x2 :: x3 :: x4 :: x5 :: x6 :: x7 :: x8 :: l) 8 = some x8 := atI_nat (j := 8) rfl
theorem at_9 {α : Type} {x0 x1 x2 x3 x4 x5 x6 x7 x8 x9 : α} {l : List α} : atI (x0 :: x1 :: x2 :: x3 :: x4 :: x5 :: x6 :: x7 :: x8 :: x9 :: l) 9 = some x9 := atI_nat (j := 9) rfl
theorem at_10 {α : Type} {x0 x1 x2 x3 x4 x5 x6 x7 x8 x9 x10 : α} {l : List α} : atI (x0 :: x1 :: x2 :: x3 :: x4 :: x5 :: x6 :: x7 :: x8 :: x9 :: x10 :: l) 10 = some x10 := atI_nat (j := 10) rfl
theorem at_11 {α : Type} {x0 x1 x2 x3 x4 x5 x6 x7 x8 x9 x10 x11 : α} {l : List α} : atI (x0 :: x1 :: x2 :: x3 :: x4 :: x5 :: x6 :: x7 :: x8 :: x9 :: x10 :: x11 :: l) 11 = some x11 := atI_nat (j := 11) rfl
theorem nabs10 : (10 : Int).natAbs = 10 := rfl
theorem upto_len {lo : Int} {n : Nat} : (upto lo n).length = n := upto_length lo n
theorem signs_len {z : Str} : (signs z).length = z.length := by simp [signs, Str.length]
theorem ends_nx {q : DK} {δ : Sd} {W : Wd} : (endsOf q).nx δ W = WkQ (q .non) W := rfl
theorem ends_rt {q : DK} {d : D} {W : Wd} : (endsOf q).rt d W = WkQ (q d) W := rfl
theorem ends_rt' {q : DK} : (endsOf q).rt = fun d W => WkQ (q d) W := rfl
theorem ends_nx' {q : DK} : (endsOf q).nx = fun _ W => WkQ (q .non) W := rfl
end DL

namespace DL
open PySem L2
theorem calm {X : Cx} {sts : List Stmt} {t : TSD} (h : PSs X sts (upS X.K X0 Wx0 t)) : PSs X sts (upS X.K X0 Wx0 t) := h
theorem rep_law {K : PySem.W.Frag} {H : Hp} {p : Addr} {n : Nat} {σ : St} (h1 : σ[1]? = some (some (.ref p))) (h2 : σ.length = n + 2) : RepS K H (none :: some (.ref p) :: List.replicate n none) σ := by
  refine ⟨by simp [h2], fun i d e => ?_⟩
  match i, e with
  | 0, e => cases e
  | 1, e =>
    cases e
    exact ⟨_, h1, rfl⟩
  | i + 2, e =>
    rw [List.getElem?_cons_succ, List.getElem?_cons_succ, List.getElem?_replicate] at e
    split at e <;> cases e
end DL

namespace DL
open PySem L2
/-! ### == of a plain thing with itself -/
def plainD : Nat → D → Bool
  | n + 1, .tup ds => ds.all (plainD n)
  | 0, .tup _ => false
  | _, .non => true
  | _, .bl _ => true
  | _, .int _ => true
  | _, .str x => PyData.strOk x
  | _, _ => false
theorem plain_int {n : Nat} {i : Int} : plainD n (.int i) = true := by cases n <;> rfl
theorem plain_str {n : Nat} {i : Str} (h : PyData.strOk i = true) : plainD n (.str i) = true := by cases n <;> exact h
theorem plain_bl {n : Nat} {i : Bool} : plainD n (.bl i) = true := by cases n <;> rfl
theorem plain_non {n : Nat} : plainD n .non = true := by cases n <;> rfl
theorem plain_tup {n : Nat} {ds : List D} : plainD (n + 1) (.tup ds) = ds.all (plainD n) := rfl
theorem plain_ints {n : Nat} {ns : List Int} : (ns.map D.int).all (plainD n) = true := by
  rw [List.all_eq_true]; intro d h; obtain ⟨i, _, rfl⟩ := List.mem_map.mp h; exact plain_int
theorem pyIn_plain {rf : Addr → Option PyData} : ∀ (n : Nat) (d : D), plainD n d = true → ∃ p, pyIn rf d = some p ∧ p.canLay0 = true ∧ p.depth ≤ n := by
  intro n
  induction n with
  | zero => intro d h; cases d <;> first | (exact ⟨_, by rw [pyIn], (by first | rfl | exact h), by simp [PyData.depth]⟩) | cases h
  | succ n ih =>
    have go : ∀ ds : List D, ds.all (plainD n) = true → ∃ ps, pyIns rf ds = some ps ∧ PyData.canLayAll0 ps = true ∧ PyData.depthAll ps ≤ n := by
      intro ds
      induction ds with
      | nil => intro _; exact ⟨[], by simp only [pyIns], by simp [PyData.canLayAll0], by simp [PyData.depthAll]⟩
      | cons d ds ih2 =>
        intro h
        rw [List.all_cons, Bool.and_eq_true] at h
        obtain ⟨p, e1, c1, d1⟩ := ih d h.1
        obtain ⟨ps, e2, c2, d2⟩ := ih2 h.2
        refine ⟨p :: ps, by simp only [pyIns, e1, e2], by simp [PyData.canLayAll0, c1, c2], ?_⟩
        simp only [PyData.depthAll]; omega
    intro d h
    cases d with
    | tup ds =>
      obtain ⟨ps, e, c, dd⟩ := go ds h
      refine ⟨.tuple ps, by simp only [pyIn, e], by simp [PyData.canLay0, c], ?_⟩
      simp only [PyData.depth]; omega
    | _ => first | (exact ⟨_, by rw [pyIn], (by first | rfl | exact h), by simp [PyData.depth]⟩) | cases h
theorem eqB_self {rf : Addr → Option PyData} {d : D} (h : plainD 60 d = true) : eqB rf d d = some true := by
  obtain ⟨p, e, c, dd⟩ := pyIn_plain (rf := rf) 60 d h
  have s : SeqAt.shaped p = true := by unfold SeqAt.shaped; rw [c, Bool.true_and, decide_eq_true_eq]; omega
  rw [eqB_of e e s s, SeqAt.eqv_refl p c]
theorem deq_of {x y : D} {W : Wd} {q : DK} (e : x = y) (h : plainD 60 x = true) (k : q (.bl true) W) : dEq x y W q := by
  subst e; unfold dEq; rw [eqB_self h]; exact k
theorem dne_of {x y : D} {W : Wd} {q : DK} (e : x = y) (h : plainD 60 x = true) (k : q (.bl false) W) : dNe x y W q := by
  subst e; unfold dNe; rw [eqB_self h]; exact k
theorem eqsB_self {rf : Addr → Option PyData} {ds : List D} (h : ds.all (plainD 60) = true) : eqsB rf ds ds = some true := by
  obtain ⟨p, e, c, dd⟩ := pyIn_plain (rf := rf) 61 (.tup ds) h
  simp only [pyIn] at e
  split at e
  · rename_i ps q
    cases e
    have s : SeqAt.shaped (.list ps) = true := by
      unfold SeqAt.shaped
      rw [show (PyData.list ps).canLay0 = (PyData.tuple ps).canLay0 by simp only [PyData.canLay0], c, Bool.true_and, decide_eq_true_eq]
      have : (PyData.list ps).depth = (PyData.tuple ps).depth := by simp only [PyData.depth]
      omega
    unfold eqsB
    rw [q]
    simp only [s, Bool.and_self, if_true]
    rw [SeqAt.eqvAll_refl ps (by simpa only [PyData.canLay0] using c)]
  · cases e
/-! ### the law's bare world: its state alone -/
def Wn (p : Addr) (n : Nat) : Wd := ⟨fun _ => none, hset noHid p (.law n)⟩
theorem wn_zero {p : Addr} : W0 p = Wn p 0 := rfl
theorem wn_hid {p : Addr} {n : Nat} : (Wn p n).hid p = some (.law n) := hset_same
theorem wn_hide {p : Addr} {n m : Nat} : (Wn p n).hide p (.law m) = Wn p m := by unfold Wn Wd.hide; simp only [hset_hset]
end DL

namespace DL
open PySem L2
/-! ### smaller heaps -/
theorem dput_none {h : Dh} {a b : Addr} {o : DO} (e : dput h a o b = none) : b ≠ a ∧ h b = none := by
  by_cases q : b = a
  · subst q; rw [dput_same] at e; cases e
  · rw [dput_ne q] at e; exact ⟨q, e⟩
def Sub (h g : Dh) : Prop := ∀ b o, h b = some o → g b = some o
theorem Sub.refl {h : Dh} : Sub h h := fun _ _ e => e
theorem Sub.put {h g : Dh} {a : Addr} {o : DO} (s : Sub h g) : Sub (dput h a o) (dput g a o) := fun b u e => by
  by_cases q : b = a
  · subst q; rw [dput_same] at e ⊢; exact e
  · rw [dput_ne q] at e ⊢; exact s b u e
theorem Sub.skip {h g : Dh} {a : Addr} {o : DO} (n : h a = none) (s : Sub h g) : Sub h (dput g a o) := fun b u e => by
  by_cases q : b = a
  · subst q; rw [n] at e; cases e
  · rw [dput_ne q]; exact s b u e
theorem WkQ.sub {φ : Wd → Prop} {W W' : Wd} (h : φ W') (s : Sub W'.hp W.hp) (e : W'.hid = W.hid) : WkQ φ W := ⟨W', ⟨s, e⟩, h⟩
/-! ### things of any shape, shown -/
def Txt (z : Str) : Prop := z.length ≤ 1000000 ∧ PyData.strOk z = true
def shown (W : Wd) (x : D) : Prop := (∃ n, tyNm W x = some n) ∧ ∀ z, x = .str z → Txt z
def shownN (W : Wd) : Nat → D → Prop
  | 0, x => shown W x
  | n + 1, .tup ds => ∀ d ∈ ds, shownN W n d
  | _, x => shown W x
theorem shown_tup {W : Wd} {ds : List D} : shown W (.tup ds) := ⟨⟨_, rfl⟩, fun _ h => by cases h⟩
theorem shown_str {W : Wd} {z : Str} (h : Txt z) : shown W (.str z) := ⟨⟨_, rfl⟩, fun _ e => by cases e; exact h⟩
theorem shown_int {W : Wd} {z : Int} : shown W (.int z) := ⟨⟨_, rfl⟩, fun _ e => by cases e⟩
theorem shown_bl {W : Wd} {z : Bool} : shown W (.bl z) := ⟨⟨_, rfl⟩, fun _ e => by cases e⟩
theorem shown_non {W : Wd} : shown W .non := ⟨⟨_, rfl⟩, fun _ e => by cases e⟩
theorem shownN.top {W : Wd} {x : D} : ∀ {n : Nat}, shownN W n x → shown W x
  | 0, h => h
  | n + 1, h => by cases x <;> first | exact h | exact shown_tup
def Ext (W W' : Wd) : Prop := ∀ b o, W.hp b = some o → W'.hp b = some o
theorem Ext.refl {W : Wd} : Ext W W := fun _ _ h => h
theorem Ext.trans {W W' W2 : Wd} (h : Ext W W') (k : Ext W' W2) : Ext W W2 := fun b o e => k b o (h b o e)
theorem Ext.put {W : Wd} {a : Addr} {o : DO} (h : W.hp a = none) : Ext W (W.put a o) := fun b u e => by
  have : b ≠ a := by rintro rfl; rw [h] at e; cases e
  rw [show (W.put a o).hp b = dput W.hp a o b from rfl, dput_ne this]; exact e
theorem Ext.hide {W : Wd} {a : Addr} {φ : HD} : Ext W (W.hide a φ) := fun _ _ e => e
theorem shown.mono {W W' : Wd} {x : D} (h : Ext W W') (s : shown W x) : shown W' x := by
  obtain ⟨⟨n, e⟩, k⟩ := s
  refine ⟨?_, k⟩
  cases x with
  | ref a =>
    simp only [tyNm] at e ⊢
    split at e <;> first | (rename_i g; rw [h _ _ g]; exact ⟨_, rfl⟩) | cases e
  | _ => exact ⟨n, e⟩
theorem shownN.mono {W W' : Wd} (h : Ext W W') : ∀ {n : Nat} {x : D}, shownN W n x → shownN W' n x
  | 0, _, s => shown.mono h s
  | n + 1, x, s => by
    cases x with
    | tup ds => exact fun d hd => shownN.mono h (n := n) (s d hd)
    | _ => exact shown.mono h s
theorem iF {b : Bool} {p q : Prop} (h1 : b = false → p) (h2 : b = true → q) : if b = false then p else q := by
  cases b
  · exact h1 rfl
  · exact h2 rfl
theorem iT {b : Bool} {p q : Prop} (h1 : b = true → p) (h2 : b = false → q) : if b = true then p else q := by
  cases b
  · exact h2 rfl
  · exact h1 rfl
theorem isi_is {W : Wd} {x : D} {n T : String} {b : Bool} {q : DK} (h : tyNm W x = some n) (hb : isiB n T = some b) : dIsi [x, .ty T] W q = q (.bl b) W := by
  unfold dIsi; simp only [h, hb]
theorem shown_ref {W : Wd} {a : Addr} (h : shown W (.ref a)) : ∃ n, tyNm W (.ref a) = some n ∧ isiB n "int" = some false ∧ isiB n "bool" = some false ∧ isiB n "str" = some false ∧ isiB n "tuple" = some false := by
  obtain ⟨⟨n, h⟩, _⟩ := h
  refine ⟨n, h, ?_⟩
  simp only [tyNm] at h
  split at h <;> first | (cases h; exact ⟨rfl, rfl, rfl, rfl⟩) | cases h
theorem shown_ty {W : Wd} {t : String} : ¬ shown W (.ty t) := fun ⟨⟨_, h⟩, _⟩ => by cases h
/-- isinstance of a seen object, of a type it isn't -/
theorem isi_ref {W : Wd} {a : Addr} (h : shown W (.ref a)) {T : String} (hT : T = "int" ∨ T = "bool" ∨ T = "str" ∨ T = "tuple") {q : DK} : dIsi [.ref a, .ty T] W q = q (.bl false) W := by
  obtain ⟨n, e, h1, h2, h3, h4⟩ := shown_ref h
  rcases hT with rfl | rfl | rfl | rfl
  · exact isi_is e h1
  · exact isi_is e h2
  · exact isi_is e h3
  · exact isi_is e h4
/-! ### numbers, words -/
def isNumD (x : D) (l m : Int) : Bool := match x with
  | .int i => decide (l ≤ i) && decide (i ≤ m)
  | _ => false
def letB (c : Nat) : Bool := decide (97 ≤ c) && decide (c ≤ 122)
def isLetS (z : Str) (m : Int) : Bool := decide (1 ≤ (z.length : Int)) && decide ((z.length : Int) ≤ m) && z.cps.toList.all letB
def isLetD (x : D) (m : Int) : Bool := match x with
  | .str z => isLetS z m
  | _ => false
/-- a word of 1 to m letters -/
def Word (m : Nat) (z : Str) : Prop := 1 ≤ z.length ∧ z.length ≤ m ∧ z.cps.toList.all letB = true
theorem Word.is {m : Nat} {z : Str} (h : Word m z) {k : Int} (hk : (m : Int) ≤ k) : isLetS z k = true := by
  obtain ⟨h1, h2, h3⟩ := h
  unfold isLetS
  rw [h3, decide_eq_true (by omega), decide_eq_true (by omega)]; rfl
theorem Word.mono {m k : Nat} {z : Str} (h : Word m z) (e : m ≤ k) : Word k z := ⟨h.1, by have := h.2.1; omega, h.2.2⟩
theorem str_len {z : Str} : z.cps.toList.length = z.length := by simp [Str.length]
theorem str_ext {a b : Str} (h : a.cps.toList = b.cps.toList) : a = b := by
  cases a; cases b
  congr
  exact Array.toList_inj.mp h
theorem app_cps {a b : Str} : (a ++ b).cps.toList = a.cps.toList ++ b.cps.toList := by
  show (Str.cps (Str.mk (a.cps ++ b.cps))).toList = _
  simp
theorem app_len {a b : Str} : (a ++ b).length = a.length + b.length := by rw [← str_len, app_cps, List.length_append, str_len, str_len]
theorem one_cps {c : Nat} : (Str.mk #[c]).cps.toList = [c] := rfl
theorem one_len {c : Nat} : (Str.mk #[c]).length = 1 := rfl
theorem strOk_let {z : Str} (h : z.cps.toList.all letB = true) : PyData.strOk z = true := by
  unfold PyData.strOk
  rw [← Array.all_toList, List.all_eq_true]
  intro c hc
  have := List.all_eq_true.mp h c hc
  simp only [letB, Bool.and_eq_true, decide_eq_true_eq] at this
  simp only [decide_eq_true_eq]; omega
theorem signs_eq {z : Str} : signs z = z.cps.toList.map fun c => .str ⟨#[c]⟩ := rfl
theorem cutS_cps {z : Str} {lo hi : Option Int} : (cutS z lo hi).cps.toList = cutD z.cps.toList lo hi := by
  rw [cutS, cutD, str_len]
theorem inV_str {s : Str} {ss : List Str} : inV (.str s) (ss.map V.str) = decide (s ∈ ss) := by
  induction ss with
  | nil => rfl
  | cons z r ih =>
    rw [List.map_cons]
    show (eqV (V.str z) (V.str s) || inV (V.str s) (r.map V.str)) = _
    rw [ih, show eqV (V.str z) (V.str s) = decide (z = s) by show (z == s) = _; rw [Bool.eq_iff_iff, beq_iff_eq, decide_eq_true_eq], Bool.eq_iff_iff]
    simp only [Bool.or_eq_true, decide_eq_true_eq, List.mem_cons]
    exact ⟨fun h => h.imp Eq.symm id, fun h => h.imp Eq.symm id⟩
theorem memB_str {rf : Addr → Option PyData} {s : Str} {ss : List Str} : memB rf (.str s) (ss.map D.str) = some (decide (s ∈ ss)) := by
  unfold memB
  have h : (ss.map D.str).all flatD = true := by rw [List.all_eq_true]; intro d h; obtain ⟨i, _, rfl⟩ := List.mem_map.mp h; rfl
  rw [h, show flatD (.str s) = true from rfl, Bool.and_self, if_pos rfl, List.map_map, show (toV ∘ D.str) = V.str from rfl, show toV (.str s) = V.str s from rfl, inV_str]
/-- words written in letters -/
theorem word_a {n : Nat} (h : n < 8) : Word (n + 1) (cutS "aaaaaaaa" none (some (1 + (n : Int)))) ∧ (cutS "aaaaaaaa" none (some (1 + (n : Int)))).length = n + 1 := by
  have : n = 0 ∨ n = 1 ∨ n = 2 ∨ n = 3 ∨ n = 4 ∨ n = 5 ∨ n = 6 ∨ n = 7 := by omega
  unfold Word
  rcases this with rfl | rfl | rfl | rfl | rfl | rfl | rfl | rfl <;> decide +kernel
/-! ### kinds -/
structure KindR where
  name : Str
  most : Int
  wait : Int
  keep : Int
  tries : Int
def KindR.d (k : KindR) : D := .tup [.str k.name, .int k.most, .int k.wait, .int k.keep, .int k.tries]
def KindR.ok (k : KindR) : Prop := Word 8 k.name ∧ (1 ≤ k.most ∧ k.most ≤ 64) ∧ (0 ≤ k.wait ∧ k.wait ≤ 100) ∧ (0 ≤ k.keep ∧ k.keep ≤ 100) ∧ (0 ≤ k.tries ∧ k.tries ≤ 5)
/-- one to six kinds of unlike names -/
def KindsOk (ks : List KindR) : Prop := 1 ≤ ks.length ∧ ks.length ≤ 6 ∧ (∀ k ∈ ks, k.ok) ∧ (ks.map KindR.name).Nodup
def isKindD (x : D) : Bool := match x with
  | .tup [n, a, b, c, d] => isLetD n 8 && isNumD a 1 64 && isNumD b 0 100 && isNumD c 0 100 && isNumD d 0 5
  | _ => false
/-- what is_kind takes to be one -/
theorem isKindD_iff {x : D} : isKindD x = true ↔ ∃ k : KindR, x = k.d ∧ k.ok := by
  constructor
  · intro h
    unfold isKindD at h
    split at h
    · rename_i n a b c d
      simp only [Bool.and_eq_true] at h
      obtain ⟨⟨⟨⟨h1, h2⟩, h3⟩, h4⟩, h5⟩ := h
      cases n <;> try cases h1
      cases a <;> try cases h2
      cases b <;> try cases h3
      cases c <;> try cases h4
      cases d <;> try cases h5
      rename_i z i j k l
      simp only [isLetD, isLetS, isNumD, Bool.and_eq_true, decide_eq_true_eq] at h1 h2 h3 h4 h5
      exact ⟨⟨z, i, j, k, l⟩, rfl, ⟨show 1 ≤ z.length by omega, show z.length ≤ 8 by omega, h1.2⟩, h2, h3, h4, h5⟩
    · cases h
  · rintro ⟨k, rfl, h1, h2, h3, h4, h5⟩
    unfold isKindD KindR.d
    simp only [isLetD, isNumD, Bool.and_eq_true, decide_eq_true_eq]
    exact ⟨⟨⟨⟨h1.is (by decide), h2⟩, h3⟩, h4⟩, h5⟩
def kindsGo (ns : List Str) : List D → Bool
  | [] => true
  | x :: r => match x with
    | .tup (.str n :: _) => isKindD x && !decide (n ∈ ns) && kindsGo (ns ++ [n]) r
    | _ => false
def areKindsD (x : D) : Bool := match x with
  | .tup ks => decide (1 ≤ ks.length) && decide (ks.length ≤ 6) && kindsGo [] ks
  | _ => false
theorem kindsGo_iff {ns : List Str} {xs : List D} : kindsGo ns xs = true ↔ ∃ ks : List KindR, xs = ks.map KindR.d ∧ (∀ k ∈ ks, k.ok) ∧ (ks.map KindR.name).Nodup ∧ ∀ k ∈ ks, k.name ∉ ns := by
  induction xs generalizing ns with
  | nil => exact ⟨fun _ => ⟨[], rfl, by simp, by simp, by simp⟩, fun _ => rfl⟩
  | cons x r ih =>
    constructor
    · intro h
      unfold kindsGo at h
      split at h
      · rename_i n t
        simp only [Bool.and_eq_true, Bool.not_eq_true', decide_eq_false_iff_not] at h
        obtain ⟨⟨h1, h2⟩, h3⟩ := h
        obtain ⟨k, e, hk⟩ := isKindD_iff.mp h1
        obtain ⟨ks, rfl, a, b, c⟩ := ih.mp h3
        have en : k.name = n := by cases e; rfl
        subst en
        refine ⟨k :: ks, by rw [e, List.map_cons], by simpa using ⟨hk, a⟩, ?_, ?_⟩
        · rw [List.map_cons, List.nodup_cons]
          refine ⟨fun hm => ?_, b⟩
          obtain ⟨j, hj, e2⟩ := List.mem_map.mp hm
          exact c j hj (by rw [e2]; simp)
        · intro j hj
          rcases List.mem_cons.mp hj with rfl | hj
          · exact h2
          · exact fun hm => c j hj (by simp [hm])
      · cases h
    · rintro ⟨ks, e, a, b, c⟩
      cases ks with
      | nil => cases e
      | cons k ks =>
        cases e
        rw [List.map_cons, List.nodup_cons] at b
        show (isKindD k.d && !decide (k.name ∈ ns) && kindsGo (ns ++ [k.name]) (ks.map KindR.d)) = true
        simp only [Bool.and_eq_true, Bool.not_eq_true', decide_eq_false_iff_not]
        refine ⟨⟨isKindD_iff.mpr ⟨k, rfl, a k List.mem_cons_self⟩, c k List.mem_cons_self⟩, ih.mpr ⟨ks, rfl, fun j hj => a j (List.mem_cons_of_mem _ hj), b.2, fun j hj hm => ?_⟩⟩
        rcases List.mem_append.mp hm with hm | hm
        · exact c j (List.mem_cons_of_mem _ hj) hm
        · rw [List.mem_singleton] at hm
          exact b.1 (List.mem_map.mpr ⟨j, hj, hm⟩)
theorem areKindsD_iff {x : D} : areKindsD x = true ↔ ∃ ks : List KindR, x = .tup (ks.map KindR.d) ∧ KindsOk ks := by
  unfold areKindsD
  constructor
  · intro h
    split at h
    · simp only [Bool.and_eq_true, decide_eq_true_eq] at h
      obtain ⟨⟨h1, h2⟩, h3⟩ := h
      obtain ⟨ks, rfl, a, b, _⟩ := kindsGo_iff.mp h3
      rw [List.length_map] at h1 h2
      exact ⟨ks, rfl, h1, h2, a, b⟩
    · cases h
  · rintro ⟨ks, rfl, h1, h2, a, b⟩
    simp only [Bool.and_eq_true, decide_eq_true_eq, List.length_map]
    exact ⟨⟨h1, h2⟩, kindsGo_iff.mpr ⟨ks, rfl, a, b, fun _ _ h => by cases h⟩⟩
theorem KindsOk.sub {ks js : List KindR} (h : KindsOk ks) (s : js.Sublist ks) (n : 1 ≤ js.length) : KindsOk js := by
  refine ⟨n, Nat.le_trans s.length_le h.2.1, fun k hk => h.2.2.1 k (s.subset hk), ?_⟩
  exact (s.map KindR.name).nodup h.2.2.2
theorem Word.txt {m : Nat} {z : Str} (h : Word m z) (e : m ≤ 1000000) : Txt z := ⟨by have := h.2.1; omega, strOk_let h.2.2⟩
theorem shown_kind {W : Wd} {k : KindR} {n : Nat} (h : k.ok) : shownN W (n + 1) k.d := by
  intro d hd
  simp only [List.mem_cons, List.not_mem_nil, or_false] at hd
  rcases hd with rfl | rfl | rfl | rfl | rfl <;> cases n <;> first | exact shown_int | exact shown_str (h.1.txt (by decide))
theorem shown_kinds {W : Wd} {ks : List KindR} {n : Nat} (h : KindsOk ks) : shownN W (n + 2) (.tup (ks.map KindR.d)) := by
  intro d hd
  obtain ⟨k, hk, rfl⟩ := List.mem_map.mp hd
  exact shown_kind (h.2.2.1 k hk)
/-! ### .. == [] -/
theorem eqsB_nil {rf : Addr → Option PyData} {ds : List D} (h : ds.all (plainD 60) = true) : eqsB rf ds [] = some (decide (ds = [])) := by
  obtain ⟨p, e, c, dd⟩ := pyIn_plain (rf := rf) 61 (.tup ds) h
  simp only [pyIn] at e
  split at e
  · rename_i ps q
    cases e
    have s : SeqAt.shaped (.list ps) = true := by
      unfold SeqAt.shaped
      rw [show (PyData.list ps).canLay0 = (PyData.tuple ps).canLay0 by simp only [PyData.canLay0], c, Bool.true_and, decide_eq_true_eq]
      have : (PyData.list ps).depth = (PyData.tuple ps).depth := by simp only [PyData.depth]
      omega
    unfold eqsB
    rw [q]
    simp only [pyIns, s, Bool.true_and, show SeqAt.shaped (.list []) = true from rfl, if_true]
    cases ds with
    | nil => simp only [pyIns] at q; cases q; rfl
    | cons d ds =>
      simp only [pyIns] at q
      split at q
      · cases q; rw [PyData.eqvAll]; simp
      · cases q
  · cases e
theorem plain_signs {z : Str} (h : PyData.strOk z = true) : (signs z).all (plainD 60) = true := by
  rw [List.all_eq_true]
  intro d hd
  obtain ⟨c, hc, rfl⟩ := List.mem_map.mp hd
  refine plain_str ?_
  unfold PyData.strOk at h ⊢
  rw [← Array.all_toList, List.all_eq_true] at h ⊢
  intro x hx
  rw [one_cps, List.mem_singleton] at hx
  subst hx
  exact h _ hc
def signB (d : D) : Bool := match d with
  | .str z => z.cps.toList.all letB
  | _ => false
theorem lt_one {a b : Nat} : ([a] < [b]) ↔ a < b := by
  constructor
  · intro h
    cases h with
    | rel h => exact h
    | cons h => cases h
  · exact fun h => .rel h
end DL

namespace DL
open PySem L2
/-! ### attributes -/
def putD (f : Str) (v : D) : List (Str × D) → List (Str × D)
  | [] => [(f, v)]
  | (g, x) :: r => if g = f then (g, v) :: r else (g, x) :: putD f v r
section
variable {K : PySem.W.Frag} {H : Hp}
theorem repKV_look {f : Str} {d : D} : ∀ {fs : List (Str × D)} {xs : List (Str × V)}, repKV K H fs xs → fs.lookup f = some d → ∃ v, xs.lookup f = some v ∧ repV K H d v
  | [], _, r, e => by cases e
  | (g, y) :: fs, _, r, e => by
    obtain ⟨v, t, rfl, r1, r2⟩ := r
    rw [List.lookup_cons] at e ⊢
    cases q : f == g with
    | true => rw [q] at e; cases e; exact ⟨v, rfl, r1⟩
    | false => rw [q] at e; exact repKV_look r2 e
theorem repKV_none {f : Str} : ∀ {fs : List (Str × D)} {xs : List (Str × V)}, repKV K H fs xs → fs.lookup f = none → xs.lookup f = none
  | [], _, r, e => by rw [show _ = [] from r]; rfl
  | (g, y) :: fs, _, r, e => by
    obtain ⟨v, t, rfl, r1, r2⟩ := r
    rw [List.lookup_cons] at e ⊢
    cases q : f == g with
    | true => rw [q] at e; cases e
    | false => rw [q] at e; exact repKV_none r2 e
theorem repKV_putF {f : Str} {d : D} {v : V} (h : repV K H d v) : ∀ {fs : List (Str × D)} {xs : List (Str × V)}, repKV K H fs xs → repKV K H (putD f d fs) (putF f v xs)
  | [], _, r => by rw [show _ = [] from r]; exact ⟨v, [], rfl, h, rfl⟩
  | (g, y) :: fs, _, r => by
    obtain ⟨u, t, rfl, r1, r2⟩ := r
    unfold putD putF
    by_cases q : g = f
    · rw [if_pos q, if_pos q]; exact ⟨_, _, rfl, h, r2⟩
    · rw [if_neg q, if_neg q]; exact ⟨_, _, rfl, r1, repKV_putF h r2⟩
theorem repKV_len {κ : Type} : ∀ {fs : List (κ × D)} {xs : List (κ × V)}, repKV K H fs xs → fs.length = xs.length
  | [], _, r => by rw [show _ = [] from r]; rfl
  | p :: fs, _, r => by
    obtain ⟨u, t, rfl, r1, r2⟩ := r
    rw [List.length_cons, List.length_cons, repKV_len r2]
end
/-- the instance of the class at C that stands there -/
def insAt (C : Addr) (o : Option DO) (g : List (Str × D) → Prop) : Prop := match o with
  | some (.ins C' fs) => C' = C ∧ g fs
  | _ => False
theorem ins_at {C : Addr} {fs : List (Str × D)} {g : List (Str × D) → Prop} : insAt C (some (.ins C fs)) g = g fs := by simp [insAt]
theorem insAt_inv {C : Addr} {o : Option DO} {g : List (Str × D) → Prop} (h : insAt C o g) : ∃ fs, o = some (.ins C fs) ∧ g fs := by
  unfold insAt at h
  split at h
  · obtain ⟨rfl, h⟩ := h; exact ⟨_, rfl, h⟩
  · exact h.elim
theorem onSome_inv {α : Type} {o : Option α} {f : α → Prop} (h : onSome o f) : ∃ x, o = some x ∧ f x := by
  unfold onSome at h
  split at h
  · exact ⟨_, rfl, h⟩
  · exact h.elim
def fldV (C : Addr) (f : Str) (o : D) (W : Wd) (q : DK) : Prop := match o with
  | .ref a => insAt C (W.hp a) fun fs => onSome (fs.lookup f) fun d => q d W
  | _ => False
def dFld (C : Addr) (f : Str) (ta : TED) : TED := fun δ W q => ta δ W fun o W1 => fldV C f o W1 q
theorem rd_fld {C : Addr} {f : Str} {ta : TED} {δ : Sd} {W : Wd} {q : DK} : dFld C f ta δ W q = ta δ W fun o W1 => fldV C f o W1 q := rfl
theorem rd_fldV {C : Addr} {f : Str} {a : Addr} {W : Wd} {q : DK} : fldV C f (.ref a) W q = insAt C (W.hp a) fun fs => onSome (fs.lookup f) fun d => q d W := rfl
def setFV (C : Addr) (f : Str) (v o : D) (W : Wd) (q : Wd → Prop) : Prop := match o with
  | .ref a => insAt C (W.hp a) fun fs => fs.length < 1000 ∧ q (W.put a (.ins C (putD f v fs)))
  | _ => False
def dSetF (C : Addr) (f : Str) (te to : TED) : TSD := fun E δ W => te δ W fun v W1 => to δ W1 fun o W2 => setFV C f v o W2 (E.nx δ)
theorem rd_setF {C : Addr} {f : Str} {te to : TED} {E : EndsD} {δ : Sd} {W : Wd} : dSetF C f te to E δ W = te δ W fun v W1 => to δ W1 fun o W2 => setFV C f v o W2 (E.nx δ) := rfl
theorem rd_setFV {C : Addr} {f : Str} {v : D} {a : Addr} {W : Wd} {q : Wd → Prop} : setFV C f v (.ref a) W q = insAt C (W.hp a) fun fs => fs.length < 1000 ∧ q (W.put a (.ins C (putD f v fs))) := rfl
section
variable {X : Cx} {Ed : WXD} {Ex : WX} {e o : Expr} {ta te to : TED} {pos pos' apos p : Pos} {f x m : Str} {C : Addr}
theorem de_fld (c : Cls X.K C) (n : NoAttr X.K C f) (he : PE X e (upE X.K Ed Ex ta)) (hb : attributeBase e f X.env (eval e X.env) = eval e X.env := by rfl) : PE X (.Attribute e f pos) (upE X.K Ed Ex (dFld C f ta)) := (pe_fld he hb).imp fun _ _ _ h => by
  obtain ⟨δ, W, P, q, rs, rw, x, h, k⟩ := h
  refine ⟨δ, W, P, _, rs, rw, x, h, fun o W1 P1 v H1 s1 r1 rw1 h1 => ?_⟩
  cases o with
  | ref a => ?_
  | _ => exact h1.elim
  obtain ⟨fs, e1, h2⟩ := insAt_inv h1
  obtain ⟨d, e2, h3⟩ := onSome_inv h2
  obtain ⟨u, g1, dx, xs, rfl, g2⟩ := rw1.vis _ _ e1
  obtain ⟨w, l, rd⟩ := repKV_look g2 e2
  exact ⟨a, C, dx, xs, w, r1, g1, c, n, l, k d W1 P1 w H1 s1 rd rw1 h3⟩
theorem ds_fld (c : Cls X.K C) (n : NoAttr X.K C f) (ho : PE X o (upE X.K Ed Ex to)) (hv : PE X e (upE X.K Ed Ex te)) (hs : swapsWith e (some (.Attribute o f pos')) pos.line X.env = pure false := by rfl) : PS X (.Assign [.Attribute o f pos'] e pos) (upS X.K Ed Ex (dSetF C f te to)) := (ps_fld ho hv hs).imp fun D σ H h => by
  obtain ⟨δ, W, P, E, rs, rw, x, h, k⟩ := h
  refine ⟨δ, W, P, _, rs, rw, x, h, fun d W1 P1 v H1 s1 r1 rw1 h1 => ?_⟩
  refine ⟨δ, W1, P1, _, rs.step s1, rw1, x.after s1, h1, fun d2 W2 P2 v2 H2 s2 r2 rw2 h2 => ?_⟩
  cases d2 with
  | ref a => ?_
  | _ => exact h2.elim
  obtain ⟨fs, e1, hl, h3⟩ := insAt_inv h2
  obtain ⟨u, g1, dx, xs, rfl, g2⟩ := rw2.vis _ _ e1
  have sw := Step.write (o := .ins C dx (putF f v xs)) (d := .ins C (putD f d fs)) rw2 e1
  refine ⟨a, C, dx, xs, r2, g1, c, n, by rw [← repKV_len g2]; exact hl, ?_⟩
  refine k.nx δ _ P2 σ _ ((s1.trans s2).trans sw) (rs.step ((s1.trans s2).trans sw)) (rw2.write e1 ⟨dx, _, rfl, repKV_putF (repV_step r1 (s2.trans sw)) ?_⟩) h3
  exact repKV_mono sw.tup _ g2
/-! ### methods -/
/-- the object has a method of the name, and no attribute -/
def methOk (C : Addr) (m : Str) (o : D) (W : Wd) : Prop := match o with
  | .ref a => (match W.hp a, W.hid a with
    | some (.ins C' fs), _ => C' = C ∧ fs.lookup m = none
    | none, some φ => φ.cls = some C
    | _, _ => False)
  | _ => False
def dMeth (C : Addr) (m : Str) (d : DSp) (ta : TED) (tA : TAD) : TED := fun δ W q => ta δ W fun o W1 => methOk C m o W1 ∧ tA δ W1 fun ds W2 => d (o :: ds) W2 q E0D
theorem rd_meth {C : Addr} {m : Str} {d : DSp} {ta : TED} {tA : TAD} {δ : Sd} {W : Wd} {q : DK} : dMeth C m d ta tA δ W q = ta δ W fun o W1 => methOk C m o W1 ∧ tA δ W1 fun ds W2 => d (o :: ds) W2 q E0D := rfl
def dMethX (C : Addr) (m : Str) (d : DSp) (Ed : WXD) (ta : TED) (tA : TAD) : TED := fun δ W q => ta δ W fun o W1 => methOk C m o W1 ∧ tA δ W1 fun ds W2 => d (o :: ds) W2 q fun c dx W3 => Ed c dx δ W3
theorem rd_methX {C : Addr} {m : Str} {d : DSp} {Ed : WXD} {ta : TED} {tA : TAD} {δ : Sd} {W : Wd} {q : DK} : dMethX C m d Ed ta tA δ W q = ta δ W fun o W1 => methOk C m o W1 ∧ tA δ W1 fun ds W2 => d (o :: ds) W2 q fun c dx W3 => Ed c dx δ W3 := rfl
def objAt (C : Addr) (m : Str) (o : Option DO) (h : Option HD) : Prop := match o, h with
    | some (.ins C' fs), _ => C' = C ∧ fs.lookup m = none
    | none, some φ => φ.cls = some C
    | _, _ => False
theorem rd_methOk {C : Addr} {m : Str} {a : Addr} {W : Wd} : methOk C m (.ref a) W = objAt C m (W.hp a) (W.hid a) := rfl
theorem obj_vis {C : Addr} {m : Str} {fs : List (Str × D)} {h : Option HD} : objAt C m (some (.ins C fs)) h = (fs.lookup m = none) := by unfold objAt; simp
theorem obj_hid {C : Addr} {m : Str} {φ : HD} : objAt C m none (some φ) = (φ.cls = some C) := rfl
theorem methOk_rep {K : PySem.W.Frag} {W : Wd} {P : Addr → Dh} {H : Hp} {o : D} {v : V} (rw : RepW K W P H) (r : repV K H o v) (hm : objNames.contains m = false) (h : methOk C m o W) : ∃ a dx xs, v = .ref a ∧ H a = some (.ins C dx xs) ∧ xs.lookup m = none := by
  cases o with
  | ref a => ?_
  | _ => exact h.elim
  simp only [methOk] at h
  split at h
  · rename_i C' fs e
    obtain ⟨rfl, hl⟩ := h
    obtain ⟨u, g1, dx, xs, rfl, g2⟩ := rw.vis _ _ e
    exact ⟨a, dx, xs, r, g1, repKV_none g2 hl⟩
  · rename_i φ e1 e2
    obtain ⟨fs, e3, hl⟩ := HD.cls_sem h hm (rw.hid _ _ e2)
    obtain ⟨u, g1, dx, xs, rfl, g2⟩ := rw.prv _ _ _ e3
    exact ⟨a, dx, xs, r, g1, repKV_none g2 hl⟩
  · exact h.elim
variable {CX : CXT} {k : Nat} {fn : Addr} {fd : FuncData} {ps : List Str} {d : DSp} {es : List Expr} {tA : TAD} {a : Expr}
theorem de_meth {pl : Sem Bool} (ho : PE X o (upE X.K Ed Ex to)) (c : Cls X.K C) (hm : Meth X.K C m fn) (F : FnOk X.prog X.w X.K X.mg X.base CX k fn fd ps (upSp X.K d)) (hr : Room k X.A) (hb : Binds X.K fd ps []) (hx : Passes CX X E0) (ha : PA X (e :: es) (upA X.K Ed Ex tA))
    (hn : objNames.contains m = false := by decide +kernel) (hst : starEach (e :: es) X.env = (false, eval e X.env) :: starEach es X.env := by rfl) (hpl : (backTo pos (starEach es X.env)).any (·.1) = false := by rfl)
    (ht : eval (.Call (.Attribute o m apos) (e :: es) [] pos) X.env = (do
      let ov ← eval o X.env
      standAt apos.atName
      let (f, first) ← holding [ov] (getMethod ov m pl)
      callWith pos f first (backTo pos (starEach (e :: es) X.env)) (backToKw pos (keywordEach [] X.env))) := by rfl) :
    PE X (.Call (.Attribute o m apos) (e :: es) [] pos) (upE X.K Ed Ex (dMeth C m d to tA)) := (pe_meth ho c hm F hr hb .nil hx ha hst hpl ht).imp fun _ _ _ h => by
  obtain ⟨δ, W, P, q, rs, rw, x, h, k⟩ := h
  refine ⟨δ, W, P, _, rs, rw, x, h, fun ov W1 P1 v H1 s1 r1 rw1 h1 => ?_⟩
  obtain ⟨a, dx, xs, rfl, g1, g2⟩ := methOk_rep rw1 r1 hn h1.1
  refine ⟨a, dx, xs, rfl, g1, g2, δ, W1, P1, _, rs.step s1, rw1, x.after s1, h1.2, fun ds W2 P2 vs H2 s2 r2 rw2 h2 => ?_⟩
  show upSp X.K d (.ref a :: (vs ++ [])) H2 _ E0
  rw [List.append_nil]
  exact ⟨ov :: ds, W2, P2, q, E0D, repVs_cons (repV_step r1 s2) r2, rw2, h2, k.after (s1.trans s2), fun _ _ _ _ _ _ _ z => z⟩
theorem de_meth0 {pl : Sem Bool} (ho : PE X o (upE X.K Ed Ex to)) (c : Cls X.K C) (hm : Meth X.K C m fn) (F : FnOk X.prog X.w X.K X.mg X.base CX k fn fd ps (upSp X.K d)) (hr : Room k X.A) (hb : Binds X.K fd ps []) (hx : Passes CX X E0)
    (hn : objNames.contains m = false := by decide +kernel)
    (ht : eval (.Call (.Attribute o m apos) [] [] pos) X.env = (do
      let ov ← eval o X.env
      standAt apos.atName
      let (f, first) ← holding [ov] (getMethod ov m pl)
      callWith pos f first (backTo pos (starEach [] X.env)) (backToKw pos (keywordEach [] X.env))) := by rfl) :
    PE X (.Call (.Attribute o m apos) [] [] pos) (upE X.K Ed Ex (dMeth C m d to dNil)) := (pe_meth0 ho c hm F hr hb .nil hx ht).imp fun _ _ _ h => by
  obtain ⟨δ, W, P, q, rs, rw, x, h, k⟩ := h
  refine ⟨δ, W, P, _, rs, rw, x, h, fun ov W1 P1 v H1 s1 r1 rw1 h1 => ?_⟩
  obtain ⟨a, dx, xs, rfl, g1, g2⟩ := methOk_rep rw1 r1 hn h1.1
  refine ⟨a, dx, xs, rfl, g1, g2, ?_⟩
  show upSp X.K d [.ref a] H1 _ E0
  exact ⟨[ov], W1, P1, q, E0D, repVs_cons r1 rfl, rw1, h1.2, k.after s1, fun _ _ _ _ _ _ _ z => z⟩
/-! ### making -/
/-- a new instance, seen -/
def dMake (C : Addr) (d : DSp) (tA : TAD) : TED := fun δ W q => tA δ W fun ds W1 => ∀ p, W1.hp p = none → W1.hid p = none → d (.ref p :: ds) (W1.put p (.ins C [])) (fun v W2 => v = .non ∧ q (.ref p) W2) E0D
theorem rd_make {C : Addr} {d : DSp} {tA : TAD} {δ : Sd} {W : Wd} {q : DK} : dMake C d tA δ W q = tA δ W fun ds W1 => ∀ p, W1.hp p = none → W1.hid p = none → d (.ref p :: ds) (W1.put p (.ins C [])) (fun v W2 => v = .non ∧ q (.ref p) W2) E0D := rfl
/-- a new instance, hidden -/
def dMakeH (C : Addr) (d : DSp) (tA : TAD) : TED := fun δ W q => tA δ W fun ds W1 => ∀ p, W1.hp p = none → W1.hid p = none → d (.ref p :: ds) (W1.hide p (.raw C)) (fun v W2 => v = .non ∧ q (.ref p) W2) E0D
theorem rd_makeH {C : Addr} {d : DSp} {tA : TAD} {δ : Sd} {W : Wd} {q : DK} : dMakeH C d tA δ W q = tA δ W fun ds W1 => ∀ p, W1.hp p = none → W1.hid p = none → d (.ref p :: ds) (W1.hide p (.raw C)) (fun v W2 => v = .non ∧ q (.ref p) W2) E0D := rfl
/-- a new hidden cell -/
theorem RepW.putH {K : PySem.W.Frag} {W : Wd} {P : Addr → Dh} {H : Hp} {p : Addr} {o : HO} {d : DO} {φ : HD} (r : RepW K W P H) (hp : H p = none) (ho : repO K (upd H p o) d o) (hφ : φ.sem p (dput (fun _ => none) p d)) :
    RepW K (W.hide p φ) (fun k => if k = p then dput (fun _ => none) p d else P k) (upd H p o) := by
  have r' := r.new (o := o) hp
  obtain ⟨f1, f2, f3⟩ := r.fresh hp
  refine ⟨r'.vis, fun k a u e => ?_, fun k ψ e => ?_, fun k e a => ?_, fun k ψ e => ?_, fun k a h => ?_, fun k j a h g => ?_⟩
  · by_cases q : k = p
    · rw [if_pos q] at e
      by_cases q2 : a = p
      · subst q2; rw [dput_same] at e; cases e; exact ⟨o, upd_same, ho⟩
      · rw [dput_ne q2] at e; cases e
    · rw [if_neg q] at e; exact r'.prv k a u e
  · by_cases q : k = p
    · subst q
      rw [show (W.hide k φ).hid k = _ from hset_same] at e; cases e
      simp only [if_pos]; exact hφ
    · rw [show (W.hide p φ).hid k = _ from hset_ne q] at e
      simp only [if_neg q]; exact r.hid k ψ e
  · by_cases q : k = p
    · subst q; rw [show (W.hide k φ).hid k = _ from hset_same] at e; cases e
    · rw [show (W.hide p φ).hid k = _ from hset_ne q] at e
      simp only [if_neg q]; exact r.non k e a
  · by_cases q : k = p
    · subst q; simp only [if_pos]; rw [dput_same]; simp
    · rw [show (W.hide p φ).hid k = _ from hset_ne q] at e
      simp only [if_neg q]; exact r.own k ψ e
  · by_cases q : k = p
    · simp only [if_pos q] at h
      by_cases q2 : a = p
      · subst q2; exact f1
      · rw [dput_ne q2] at h; exact absurd rfl h
    · simp only [if_neg q] at h; exact r.sep1 k a h
  · by_cases q : k = p
    · by_cases q2 : j = p
      · rw [q, q2]
      · simp only [if_pos q] at h; simp only [if_neg q2] at g
        by_cases q3 : a = p
        · subst q3; exact absurd (f3 j) g
        · rw [dput_ne q3] at h; exact absurd rfl h
    · by_cases q2 : j = p
      · simp only [if_neg q] at h; simp only [if_pos q2] at g
        by_cases q3 : a = p
        · subst q3; exact absurd (f3 k) h
        · rw [dput_ne q3] at g; exact absurd rfl g
      · simp only [if_neg q] at h; simp only [if_neg q2] at g
        exact r.sep2 k j a h g
theorem Step.putH {K : PySem.W.Frag} {W : Wd} {P : Addr → Dh} {H : Hp} {p : Addr} {o : HO} {d : DO} {φ : HD} (hp : H p = none) : Step K W P H (W.hide p φ) (fun k => if k = p then dput (fun _ => none) p d else P k) (upd H p o) :=
  ⟨tupLe_upd (.inl hp), fun a u h _ => by rw [upd_ne (ne_of_none h hp)]; exact h, fun a f => by
    rcases f with f | ⟨k, f⟩
    · exact .inl (.inl f)
    · by_cases q : k = p
      · simp only [if_pos q] at f
        by_cases q2 : a = p
        · subst q2; exact .inr hp
        · rw [dput_ne q2] at f; exact absurd rfl f
      · simp only [if_neg q] at f; exact .inl (.inr ⟨k, f⟩), fun _ h => none_of_upd h⟩
theorem de_make (M : Mk X.K C fn) (F : FnOk X.prog X.w X.K X.mg X.base CX k fn fd ps (upSp X.K d)) (hr : Room (k + 1) X.A) (hg : Gl X x) (hm : X.mg x = some (.ref C)) (hb : Binds X.K fd ps []) (hx : Passes CX X E0) (ha : PA X (e :: es) (upA X.K Ed Ex tA))
    (hdb : (x == ("__debug__" : Str)) = false := by decide) (he : starEach (e :: es) X.env = (false, eval e X.env) :: starEach es X.env := by rfl) (hpl : (backTo pos (starEach es X.env)).any (·.1) = false := by rfl) :
    PE X (.Call (.Name x p) (e :: es) [] pos) (upE X.K Ed Ex (dMake C d tA)) := (pe_make M F hr hg hm hb .nil hx ha hdb he hpl).imp fun _ _ _ h => by
  obtain ⟨δ, W, P, q, rs, rw, x, h, k⟩ := h
  refine ⟨δ, W, P, _, rs, rw, x, h, fun ds W1 P1 vs H1 s1 r1 rw1 h1 y dx hy hdx hne => ?_⟩
  obtain ⟨f1, f2, _⟩ := rw1.fresh hy
  have hy2 : upd H1 dx (.own y) y = none := by rw [upd_ne (Ne.symm hne)]; exact hy
  have s2 : Step X.K W1 P1 H1 (W1.put y (.ins C [])) P1 (upd (upd H1 dx (.own y)) y (.ins C dx [])) := (Step.new hdx).trans (Step.put hy2)
  have rw2 : RepW X.K (W1.put y (.ins C [])) P1 (upd (upd H1 dx (.own y)) y (.ins C dx [])) := (rw1.new hdx).put hy2 ⟨dx, [], rfl, rfl⟩
  show upSp X.K d (.ref y :: (vs ++ [])) _ _ E0
  rw [List.append_nil]
  exact ⟨.ref y :: ds, _, P1, _, E0D, repVs_cons rfl (repVs_mono s2.tup _ r1), rw2, h1 y f1 f2, fun v W3 P3 u H3 s3 r3 rw3 h3 => ⟨by obtain ⟨rfl, _⟩ := h3; exact r3, k (.ref y) W3 P3 (.ref y) H3 ((s1.trans s2).trans s3) rfl rw3 h3.2⟩, fun _ _ _ _ _ _ _ z => z⟩
theorem make_h {K : PySem.W.Frag} {ds : List D} {vs : List V} {W W1 : Wd} {P P1 : Addr → Dh} {H H1 : Hp} {q : DK} {Q : VK} (k : Arr K W P H q Q) (s1 : Step K W P H W1 P1 H1) (r1 : repVs K H1 ds vs) (rw1 : RepW K W1 P1 H1)
    (h1 : ∀ p, W1.hp p = none → W1.hid p = none → d (.ref p :: ds) (W1.hide p (.raw C)) (fun v W2 => v = .non ∧ q (.ref p) W2) E0D) : ∀ y dx, H1 y = none → H1 dx = none → dx ≠ y → upSp K d (.ref y :: (vs ++ [])) (upd (upd H1 dx (.own y)) y (.ins C dx [])) (fun v H2 => v = .non ∧ Q (.ref y) H2) E0 := fun y dx hy hdx hne => by
  obtain ⟨f1, f2, _⟩ := rw1.fresh hy
  have hy2 : upd H1 dx (.own y) y = none := by rw [upd_ne (Ne.symm hne)]; exact hy
  have s2 : Step K W1 P1 H1 (W1.hide y (.raw C)) (fun k => if k = y then dput (fun _ => none) y (.ins C []) else P1 k) (upd (upd H1 dx (.own y)) y (.ins C dx [])) := (Step.new hdx).trans (Step.putH hy2)
  have rw2 : RepW K (W1.hide y (.raw C)) (fun k => if k = y then dput (fun _ => none) y (.ins C []) else P1 k) (upd (upd H1 dx (.own y)) y (.ins C dx [])) := (rw1.new hdx).putH hy2 ⟨dx, [], rfl, rfl⟩ dput_same
  rw [List.append_nil]
  exact ⟨.ref y :: ds, _, _, _, E0D, repVs_cons rfl (repVs_mono s2.tup _ r1), rw2, h1 y f1 f2, fun v W3 P3 u H3 s3 r3 rw3 h3 => ⟨by obtain ⟨rfl, _⟩ := h3; exact r3, k (.ref y) W3 P3 (.ref y) H3 ((s1.trans s2).trans s3) rfl rw3 h3.2⟩, fun _ _ _ _ _ _ _ z => z⟩
theorem de_makeH (M : Mk X.K C fn) (F : FnOk X.prog X.w X.K X.mg X.base CX k fn fd ps (upSp X.K d)) (hr : Room (k + 1) X.A) (hg : Gl X x) (hm : X.mg x = some (.ref C)) (hb : Binds X.K fd ps []) (hx : Passes CX X E0) (ha : PA X (e :: es) (upA X.K Ed Ex tA))
    (hdb : (x == ("__debug__" : Str)) = false := by decide) (he : starEach (e :: es) X.env = (false, eval e X.env) :: starEach es X.env := by rfl) (hpl : (backTo pos (starEach es X.env)).any (·.1) = false := by rfl) :
    PE X (.Call (.Name x p) (e :: es) [] pos) (upE X.K Ed Ex (dMakeH C d tA)) := (pe_make M F hr hg hm hb .nil hx ha hdb he hpl).imp fun _ _ _ h => by
  obtain ⟨δ, W, P, q, rs, rw, x, h, k⟩ := h
  exact ⟨δ, W, P, _, rs, rw, x, h, fun ds W1 P1 vs H1 s1 r1 rw1 h1 => make_h k s1 r1 rw1 h1⟩
end
end DL

namespace DL
open PySem L2
/-! ### dicts -/
section
variable {κ : Type} [DecidableEq κ]
def valD (kvs : List (κ × D)) (k : κ) : Option D := (kvs.find? fun kv => decide (kv.1 = k)).map (·.2)
def setD (kvs : List (κ × D)) (k : κ) (v : D) : List (κ × D) :=
  if (kvs.any fun kv => decide (kv.1 = k)) = true then kvs.map (fun kv => if kv.1 = k then (kv.1, v) else kv) else kvs ++ [(k, v)]
def cutK (kvs : List (κ × D)) (k : κ) : List (κ × D) := kvs.filter fun kv => decide (kv.1 ≠ k)
variable {K : PySem.W.Frag} {H : Hp}
theorem repKV_val {k : κ} : ∀ {kvs : List (κ × D)} {xs : List (κ × V)}, repKV K H kvs xs → (valD kvs k = none ∧ valV xs k = none) ∨ ∃ d v, valD kvs k = some d ∧ valV xs k = some v ∧ repV K H d v
  | [], _, r => by rw [show _ = [] from r]; exact .inl ⟨rfl, rfl⟩
  | p :: kvs, _, r => by
    obtain ⟨v, t, rfl, r1, r2⟩ := r
    unfold valD valV
    rw [List.find?_cons, List.find?_cons]
    by_cases q : p.1 = k
    · rw [decide_eq_true q]; exact .inr ⟨_, _, rfl, rfl, r1⟩
    · rw [decide_eq_false q]; exact repKV_val r2
theorem repKV_any {k : κ} : ∀ {kvs : List (κ × D)} {xs : List (κ × V)}, repKV K H kvs xs → (kvs.any fun kv => decide (kv.1 = k)) = (xs.any fun kv => decide (kv.1 = k))
  | [], _, r => by rw [show _ = [] from r]; rfl
  | p :: kvs, _, r => by
    obtain ⟨v, t, rfl, r1, r2⟩ := r
    rw [List.any_cons, List.any_cons, repKV_any r2]
theorem repKV_app {kvs kws : List (κ × D)} : ∀ {xs ys : List (κ × V)}, repKV K H kvs xs → repKV K H kws ys → repKV K H (kvs ++ kws) (xs ++ ys) := by
  induction kvs with
  | nil => intro xs ys r s; rw [show xs = [] from r]; exact s
  | cons p kvs ih =>
    intro xs ys r s
    obtain ⟨v, t, rfl, r1, r2⟩ := r
    exact ⟨v, _, rfl, r1, ih r2 s⟩
theorem repKV_map {k : κ} {d : D} {v : V} (h : repV K H d v) : ∀ {kvs : List (κ × D)} {xs : List (κ × V)}, repKV K H kvs xs → repKV K H (kvs.map fun kv => if kv.1 = k then (kv.1, d) else kv) (xs.map fun kv => if kv.1 = k then (kv.1, v) else kv)
  | [], _, r => by rw [show _ = [] from r]; rfl
  | p :: kvs, _, r => by
    obtain ⟨u, t, rfl, r1, r2⟩ := r
    rw [List.map_cons, List.map_cons]
    by_cases q : p.1 = k
    · simp only [if_pos q]; exact ⟨_, _, rfl, h, repKV_map h r2⟩
    · simp only [if_neg q]; exact ⟨_, _, rfl, r1, repKV_map h r2⟩
theorem repKV_set {k : κ} {d : D} {v : V} (h : repV K H d v) {kvs : List (κ × D)} {xs : List (κ × V)} (r : repKV K H kvs xs) : repKV K H (setD kvs k d) (putK xs k v) := by
  unfold setD putK
  rw [repKV_any r]
  split
  · exact repKV_map h r
  · exact repKV_app r ⟨_, [], rfl, h, rfl⟩
theorem repKV_cut {k : κ} : ∀ {kvs : List (κ × D)} {xs : List (κ × V)}, repKV K H kvs xs → repKV K H (cutK kvs k) (dropK xs k)
  | [], _, r => by rw [show _ = [] from r]; rfl
  | p :: kvs, _, r => by
    obtain ⟨u, t, rfl, r1, r2⟩ := r
    unfold cutK dropK
    rw [List.filter_cons, List.filter_cons]
    by_cases q : p.1 = k
    · simp only [q, ne_eq, not_true_eq_false, decide_false, Bool.false_eq_true, if_false]; exact repKV_cut r2
    · simp only [q, ne_eq, not_false_eq_true, decide_true, if_true]; exact ⟨_, _, rfl, r1, repKV_cut r2⟩
end
def keyK : D → Option Key
  | .int i => some (.inl i)
  | .str x => some (.inr x)
  | _ => none
def keyT : D → Option (List Key)
  | .tup [.str a, .int b] => some [.inr a, .inl b]
  | _ => none
theorem keyK_rep {K : PySem.W.Frag} {H : Hp} {y : D} {v : V} {k : Key} (r : repV K H y v) (e : keyK y = some k) : v = kV k := by
  cases y <;> first | (cases e; exact r) | cases e
theorem keyT_rep {K : PySem.W.Frag} {H : Hp} {y : D} {v : V} {k : List Key} (r : repV K H y v) (e : keyT y = some k) : ∃ b, v = .ref b ∧ H b = some (.tup (k.map kV)) := by
  unfold keyT at e
  split at e
  · cases e
    obtain ⟨b, xs, rfl, h, r2⟩ := r
    obtain ⟨v1, t1, rfl, e1, v2, t2, rfl, e2, e3⟩ := r2
    refine ⟨b, rfl, ?_⟩
    rw [h.2 rfl, show v1 = V.str _ from e1, show v2 = V.int _ from e2, show t2 = [] from e3]
    rfl
  · cases e
/-- what the dict that stands there holds at y -/
def dictAt (o : Option DO) (y : D) (g : Option D → Prop) : Prop := match o with
  | some (.dK kvs) => onSome (keyK y) fun k => g (valD kvs k)
  | some (.fz _ _ kvs) => onSome (keyK y) fun k => g (valD kvs k)
  | some (.dT kvs) => onSome (keyT y) fun k => g (valD kvs k)
  | _ => False
theorem dict_dK {kvs : List (Key × D)} {y : D} {g : Option D → Prop} : dictAt (some (.dK kvs)) y g = onSome (keyK y) fun k => g (valD kvs k) := rfl
theorem dict_fz {o : Obj} {xs : List (Key × V)} {kvs : List (Key × D)} {y : D} {g : Option D → Prop} : dictAt (some (.fz o xs kvs)) y g = onSome (keyK y) fun k => g (valD kvs k) := rfl
theorem dict_dT {kvs : List (List Key × D)} {y : D} {g : Option D → Prop} : dictAt (some (.dT kvs)) y g = onSome (keyT y) fun k => g (valD kvs k) := rfl
theorem key_int {i : Int} : keyK (.int i) = some (.inl i) := rfl
theorem key_str {i : Str} : keyK (.str i) = some (.inr i) := rfl
theorem key_pair {a : Str} {b : Int} : keyT (.tup [.str a, .int b]) = some [.inr a, .inl b] := rfl
theorem dictAt_rep {K : PySem.W.Frag} {W : Wd} {P : Addr → Dh} {H : Hp} {a : Addr} {y : D} {v : V} {g : Option D → Prop} (rw : RepW K W P H) (r : repV K H y v) (h : dictAt (W.hp a) y g) :
    ∃ o w, g o ∧ DGet H a v w ∧ ((o = none ∧ w = none) ∨ ∃ d u, o = some d ∧ w = some u ∧ repV K H d u) := by
  unfold dictAt at h
  split at h
  · rename_i kvs e
    obtain ⟨k, e2, h⟩ := onSome_inv h
    obtain ⟨u, g1, xs, rfl, g2⟩ := rw.vis _ _ e
    rw [keyK_rep r e2]
    rcases repKV_val (k := k) g2 with ⟨q1, q2⟩ | ⟨d, w, q1, q2, q3⟩
    · exact ⟨none, none, by rw [q1] at h; exact h, by rw [← q2]; exact .k g1, .inl ⟨rfl, rfl⟩⟩
    · exact ⟨some d, some w, by rw [q1] at h; exact h, by rw [← q2]; exact .k g1, .inr ⟨_, _, rfl, rfl, q3⟩⟩
  · rename_i o xs kvs e
    obtain ⟨k, e2, h⟩ := onSome_inv h
    obtain ⟨u, g1, rfl, g2⟩ := rw.vis _ _ e
    rw [keyK_rep r e2]
    rcases repKV_val (k := k) g2 with ⟨q1, q2⟩ | ⟨d, w, q1, q2, q3⟩
    · exact ⟨none, none, by rw [q1] at h; exact h, .inl ⟨xs, k, .inr ⟨_, g1⟩, rfl, q2.symm⟩, .inl ⟨rfl, rfl⟩⟩
    · exact ⟨some d, some w, by rw [q1] at h; exact h, .inl ⟨xs, k, .inr ⟨_, g1⟩, rfl, q2.symm⟩, .inr ⟨_, _, rfl, rfl, q3⟩⟩
  · rename_i kvs e
    obtain ⟨k, e2, h⟩ := onSome_inv h
    obtain ⟨u, g1, xs, rfl, g2⟩ := rw.vis _ _ e
    obtain ⟨b, rfl, g3⟩ := keyT_rep r e2
    rcases repKV_val (k := k) g2 with ⟨q1, q2⟩ | ⟨d, w, q1, q2, q3⟩
    · exact ⟨none, none, by rw [q1] at h; exact h, by rw [← q2]; exact .t g1 g3, .inl ⟨rfl, rfl⟩⟩
    · exact ⟨some d, some w, by rw [q1] at h; exact h, by rw [← q2]; exact .t g1 g3, .inr ⟨_, _, rfl, rfl, q3⟩⟩
  · exact h.elim
def dgV (o y : D) (W : Wd) (g : Option D → Prop) : Prop := match o with
  | .ref a => dictAt (W.hp a) y g
  | _ => False
theorem rd_dgV {a : Addr} {y : D} {W : Wd} {g : Option D → Prop} : dgV (.ref a) y W g = dictAt (W.hp a) y g := rfl
theorem dgV_rep {K : PySem.W.Frag} {W : Wd} {P : Addr → Dh} {H : Hp} {o y : D} {v w : V} {g : Option D → Prop} (rw : RepW K W P H) (ro : repV K H o w) (r : repV K H y v) (h : dgV o y W g) :
    ∃ a o' w', w = .ref a ∧ g o' ∧ DGet H a v w' ∧ ((o' = none ∧ w' = none) ∨ ∃ d u, o' = some d ∧ w' = some u ∧ repV K H d u) := by
  cases o with
  | ref a => ?_
  | _ => exact h.elim
  obtain ⟨o', w', h1, h2, h3⟩ := dictAt_rep rw r h
  exact ⟨a, o', w', ro, h1, h2, h3⟩
def dDGet (td ty : TED) : TED := fun δ W q => td δ W fun o W1 => ty δ W1 fun y W2 => dgV o y W2 fun r => onSome r fun d => q d W2
theorem rd_dget {td ty : TED} {δ : Sd} {W : Wd} {q : DK} : dDGet td ty δ W q = td δ W fun o W1 => ty δ W1 fun y W2 => dgV o y W2 fun r => onSome r fun d => q d W2 := rfl
def dDIn (ty td : TED) : TED := fun δ W q => ty δ W fun y W1 => td δ W1 fun o W2 => dgV o y W2 fun r => q (.bl r.isSome) W2
theorem rd_din {ty td : TED} {δ : Sd} {W : Wd} {q : DK} : dDIn ty td δ W q = ty δ W fun y W1 => td δ W1 fun o W2 => dgV o y W2 fun r => q (.bl r.isSome) W2 := rfl
def dDInN (ty td : TED) : TED := fun δ W q => ty δ W fun y W1 => td δ W1 fun o W2 => dgV o y W2 fun r => q (.bl (!r.isSome)) W2
theorem rd_dinN {ty td : TED} {δ : Sd} {W : Wd} {q : DK} : dDInN ty td δ W q = ty δ W fun y W1 => td δ W1 fun o W2 => dgV o y W2 fun r => q (.bl (!r.isSome)) W2 := rfl
/-- d[y] = v -/
def dpAt (o : Option DO) (y v : D) (g : DO → Prop) : Prop := match o with
  | some (.dK kvs) => onSome (keyK y) fun k => Sz kvs.length ∧ g (.dK (setD kvs k v))
  | some (.dT kvs) => onSome (keyT y) fun k => Sz kvs.length ∧ g (.dT (setD kvs k v))
  | _ => False
theorem dp_dK {kvs : List (Key × D)} {y v : D} {g : DO → Prop} : dpAt (some (.dK kvs)) y v g = onSome (keyK y) fun k => Sz kvs.length ∧ g (.dK (setD kvs k v)) := rfl
theorem dp_dT {kvs : List (List Key × D)} {y v : D} {g : DO → Prop} : dpAt (some (.dT kvs)) y v g = onSome (keyT y) fun k => Sz kvs.length ∧ g (.dT (setD kvs k v)) := rfl
def dpV (o y v : D) (W : Wd) (g : Wd → Prop) : Prop := match o with
  | .ref a => dpAt (W.hp a) y v fun u => g (W.put a u)
  | _ => False
theorem rd_dpV {a : Addr} {y v : D} {W : Wd} {g : Wd → Prop} : dpV (.ref a) y v W g = dpAt (W.hp a) y v fun u => g (W.put a u) := rfl
def dDPut (te td ty : TED) : TSD := fun E δ W => te δ W fun v W1 => td δ W1 fun o W2 => ty δ W2 fun y W3 => dpV o y v W3 (E.nx δ)
theorem rd_dput {te td ty : TED} {E : EndsD} {δ : Sd} {W : Wd} : dDPut te td ty E δ W = te δ W fun v W1 => td δ W1 fun o W2 => ty δ W2 fun y W3 => dpV o y v W3 (E.nx δ) := rfl
def dDNewK : TED := fun _ W q => ∀ p, W.hp p = none → W.hid p = none → q (.ref p) (W.put p (.dK []))
theorem rd_dnewK {δ : Sd} {W : Wd} {q : DK} : dDNewK δ W q = ∀ p, W.hp p = none → W.hid p = none → q (.ref p) (W.put p (.dK [])) := rfl
def dDNewT : TED := fun _ W q => ∀ p, W.hp p = none → W.hid p = none → q (.ref p) (W.put p (.dT []))
theorem rd_dnewT {δ : Sd} {W : Wd} {q : DK} : dDNewT δ W q = ∀ p, W.hp p = none → W.hid p = none → q (.ref p) (W.put p (.dT [])) := rfl
section
variable {X : Cx} {Ed : WXD} {Ex : WX} {o i e c : Expr} {td ty te : TED} {pos pos' apos cpos : Pos}
theorem de_dget (hu : X.A.units + 1 < cLine) (ho : PE X o (upE X.K Ed Ex td)) (hi : PE X i (upE X.K Ed Ex ty)) (hs : NoSl i := by exact fun _ _ => rfl) : PE X (.Subscript o i pos) (upE X.K Ed Ex (dDGet td ty)) := (pe_dget hu ho hi hs).imp fun _ _ _ h => by
  obtain ⟨δ, W, P, q, rs, rw, x, h, k⟩ := h
  refine ⟨δ, W, P, _, rs, rw, x, h, fun o W1 P1 v H1 s1 r1 rw1 h1 => ?_⟩
  refine ⟨δ, W1, P1, _, rs.step s1, rw1, x.after s1, h1, fun y W2 P2 v2 H2 s2 r2 rw2 h2 => ?_⟩
  obtain ⟨a, o', w', rfl, h3, g1, g2⟩ := dgV_rep rw2 (repV_step r1 s2) r2 h2
  obtain ⟨d, rfl, h4⟩ := onSome_inv h3
  rcases g2 with ⟨z, _⟩ | ⟨d', u, z, rfl, r⟩
  · cases z
  · cases z
    exact ⟨a, u, rfl, g1, k d W2 P2 u H2 (s1.trans s2) r rw2 h4⟩
theorem up_din {K : PySem.W.Frag} {σ : St} {H : Hp} {Q : VK} (h : upE K Ed Ex (dDIn ty td) σ H Q) : tDIn (upE K Ed Ex ty) (upE K Ed Ex td) σ H Q := by
  obtain ⟨δ, W, P, q, rs, rw, x, h, k⟩ := h
  refine ⟨δ, W, P, _, rs, rw, x, h, fun y W1 P1 v H1 s1 r1 rw1 h1 => ?_⟩
  refine ⟨δ, W1, P1, _, rs.step s1, rw1, x.after s1, h1, fun o W2 P2 v2 H2 s2 r2 rw2 h2 => ?_⟩
  obtain ⟨a, o', w', rfl, h3, g1, g2⟩ := dgV_rep rw2 r2 (repV_step r1 s2) h2
  refine ⟨a, w', rfl, g1, ?_⟩
  rw [show w'.isSome = o'.isSome by rcases g2 with ⟨rfl, rfl⟩ | ⟨_, _, rfl, rfl, _⟩ <;> rfl]
  exact k (.bl _) W2 P2 _ H2 (s1.trans s2) rfl rw2 h3
theorem de_din (hu : X.A.units + 1 < cLine) (hi : PE X i (upE X.K Ed Ex ty)) (ho : PE X o (upE X.K Ed Ex td)) (hm : behindInMarks .In o = false := by first | exact nomark _ | rfl) : PE X (.Compare i [.In] [o] pos) (upE X.K Ed Ex (dDIn ty td)) := (pe_cmp (pc_din hu hi ho) hm).imp fun _ _ _ h => up_din h
theorem dt_din (hu : X.A.units + 1 < cLine) (hi : PE X i (upE X.K Ed Ex ty)) (ho : PE X o (upE X.K Ed Ex td)) (hm : behindInMarks .In o = false := by first | exact nomark _ | rfl) : PT X (.Compare i [.In] [o] pos) (upT X.K Ed Ex (dTest (dDIn ty td))) := (pt_cmp (pc_din hu hi ho) hm).imp fun _ _ _ h => up_test (fun _ h => up_din h) h
theorem up_dinN {K : PySem.W.Frag} {σ : St} {H : Hp} {Q : VK} (h : upE K Ed Ex (dDInN ty td) σ H Q) : tDNotIn (upE K Ed Ex ty) (upE K Ed Ex td) σ H Q := by
  obtain ⟨δ, W, P, q, rs, rw, x, h, k⟩ := h
  refine ⟨δ, W, P, _, rs, rw, x, h, fun y W1 P1 v H1 s1 r1 rw1 h1 => ?_⟩
  refine ⟨δ, W1, P1, _, rs.step s1, rw1, x.after s1, h1, fun o W2 P2 v2 H2 s2 r2 rw2 h2 => ?_⟩
  obtain ⟨a, o', w', rfl, h3, g1, g2⟩ := dgV_rep rw2 r2 (repV_step r1 s2) h2
  refine ⟨a, w', rfl, g1, ?_⟩
  rw [show w'.isSome = o'.isSome by rcases g2 with ⟨rfl, rfl⟩ | ⟨_, _, rfl, rfl, _⟩ <;> rfl]
  exact k (.bl _) W2 P2 _ H2 (s1.trans s2) rfl rw2 h3
theorem de_dinN (hu : X.A.units + 1 < cLine) (hi : PE X i (upE X.K Ed Ex ty)) (ho : PE X o (upE X.K Ed Ex td)) (hm : behindInMarks .NotIn o = false := by first | exact nomark _ | rfl) : PE X (.Compare i [.NotIn] [o] pos) (upE X.K Ed Ex (dDInN ty td)) := (pe_cmp (pc_dnotin hu hi ho) hm).imp fun _ _ _ h => up_dinN h
theorem dt_dinN (hu : X.A.units + 1 < cLine) (hi : PE X i (upE X.K Ed Ex ty)) (ho : PE X o (upE X.K Ed Ex td)) (hm : behindInMarks .NotIn o = false := by first | exact nomark _ | rfl) : PT X (.Compare i [.NotIn] [o] pos) (upT X.K Ed Ex (dTest (dDInN ty td))) := (pt_cmp (pc_dnotin hu hi ho) hm).imp fun _ _ _ h => up_test (fun _ h => up_dinN h) h
theorem ds_dput (hu : X.A.units + 1 < cLine) (hv : PE X e (upE X.K Ed Ex te)) (ho : PE X o (upE X.K Ed Ex td)) (hi : PE X i (upE X.K Ed Ex ty)) (hs : swapsWith e (some (.Subscript o i pos')) pos.line X.env = pure false := by rfl) :
    PS X (.Assign [.Subscript o i pos'] e pos) (upS X.K Ed Ex (dDPut te td ty)) := (ps_dput hu ho hi hv hs).imp fun D σ H h => by
  obtain ⟨δ, W, P, E, rs, rw, x, h, k⟩ := h
  refine ⟨δ, W, P, _, rs, rw, x, h, fun d W1 P1 v H1 s1 r1 rw1 h1 => ?_⟩
  refine ⟨δ, W1, P1, _, rs.step s1, rw1, x.after s1, h1, fun o W2 P2 v2 H2 s2 r2 rw2 h2 => ?_⟩
  refine ⟨δ, W2, P2, _, rs.step (s1.trans s2), rw2, x.after (s1.trans s2), h2, fun y W3 P3 v3 H3 s3 r3 rw3 h3 => ?_⟩
  cases o with
  | ref a => ?_
  | _ => exact h3.elim
  have r2 : v2 = .ref a := r2
  subst r2
  have rv := repV_step (repV_step r1 s2) s3
  simp only [dpV, dpAt] at h3
  have st := (s1.trans s2).trans s3
  split at h3
  · rename_i kvs e1
    obtain ⟨kk, e2, hz, h4⟩ := onSome_inv h3
    obtain ⟨u, g1, xs, rfl, g2⟩ := rw3.vis _ _ e1
    rw [keyK_rep r3 e2]
    have sw := Step.write (o := .dK (putK xs kk v)) (d := .dK (setD kvs kk d)) rw3 e1
    refine ⟨a, _, rfl, .k g1 (by rw [← repKV_len g2]; exact hz.lt), ?_⟩
    exact k.nx δ _ P3 σ _ (st.trans sw) (rs.step (st.trans sw)) (rw3.write e1 ⟨_, rfl, repKV_set (repV_step rv sw) (repKV_mono sw.tup _ g2)⟩) h4
  · rename_i kvs e1
    obtain ⟨kk, e2, hz, h4⟩ := onSome_inv h3
    obtain ⟨u, g1, xs, rfl, g2⟩ := rw3.vis _ _ e1
    obtain ⟨b, rfl, g3⟩ := keyT_rep r3 e2
    have sw := Step.write (o := .dT (putK xs kk v)) (d := .dT (setD kvs kk d)) rw3 e1
    refine ⟨a, _, rfl, .t g1 g3 (by rw [← repKV_len g2]; exact hz.lt), ?_⟩
    exact k.nx δ _ P3 σ _ (st.trans sw) (rs.step (st.trans sw)) (rw3.write e1 ⟨_, rfl, repKV_set (repV_step rv sw) (repKV_mono sw.tup _ g2)⟩) h4
  · exact h3.elim
theorem de_dnewK : PE X (.Dict [] [] pos) (upE X.K Ed Ex dDNewK) := pe_dnewK.imp fun _ _ _ h p hp => by
  obtain ⟨δ, W, P, q, rs, rw, x, h, k⟩ := h
  obtain ⟨f1, f2, _⟩ := rw.fresh hp
  exact k (.ref p) _ P _ _ (Step.put hp) rfl (rw.put (d := .dK []) hp ⟨[], rfl, rfl⟩) (h p f1 f2)
theorem de_dnewT : PE X (.Dict [] [] pos) (upE X.K Ed Ex dDNewT) := pe_dnewT.imp fun _ _ _ h p hp => by
  obtain ⟨δ, W, P, q, rs, rw, x, h, k⟩ := h
  obtain ⟨f1, f2, _⟩ := rw.fresh hp
  exact k (.ref p) _ P _ _ (Step.put hp) rfl (rw.put (d := .dT []) hp ⟨[], rfl, rfl⟩) (h p f1 f2)
/-! ### a dict that is walked: locked -/
def dLockL (t : TAD) : TAD := fun δ W q => ∃ d kvs, W.hp d = some (.dK kvs) ∧ ∀ o xs, t δ (W.put d (.fz o xs kvs)) fun es W1 => W1.hp d = some (.fz o xs kvs) ∧ q es (W1.put d (.dK kvs))
theorem dl_lock {tL : TAD} (h : PE X e (upL X.K Ed Ex tL)) : PE X e (upL X.K Ed Ex (dLockL tL)) := (pe_lock h).imp fun σ H Q h => by
  obtain ⟨δ, W, P, q, rs, rw, x, ⟨d, kvs, e1, h⟩, k⟩ := h
  obtain ⟨u, g1, xs, rfl, g2⟩ := rw.vis _ _ e1
  refine ⟨d, _, g1, trivial, fun od => ?_⟩
  have sw := Step.write (o := .frz od (.dK xs)) (d := .fz od xs kvs) rw e1
  have rw0 := rw.write (o := .frz od (.dK xs)) (d := .fz od xs kvs) e1 ⟨rfl, repKV_mono sw.tup _ g2⟩
  refine ⟨δ, _, P, _, rs.step sw, rw0, x.after sw, h od xs, fun es W1 P1 a zs H1 s1 h0 h1 n1 r1 rw1 h2 => ?_⟩
  obtain ⟨u, g3, rfl, g4⟩ := rw1.vis _ _ h2.1
  refine ⟨g3, ?_⟩
  have sw2 := Step.write (o := .dK xs) (d := .dK kvs) rw1 h2.1
  have hda : a ≠ d := fun z => n1 (by rw [z]; exact .inl (by rw [h2.1]; simp))
  have st := (sw.trans s1).trans sw2
  refine k es _ P1 a zs _ st (none_of_upd h0) (by rw [upd_ne hda]; exact h1) (fun f => n1 ?_) (repVs_mono sw2.tup _ r1) (rw1.write h2.1 ⟨xs, rfl, repKV_mono sw2.tup _ g4⟩) h2.2
  rcases f with f | f
  · exact .inl (by rw [show (W1.put d (.dK kvs)).hp a = W1.hp a from dput_ne hda] at f; exact f)
  · exact .inr f
def keyOf : Key → D
  | .inl i => .int i
  | .inr x => .str x
/-- the keys of the locked dict -/
def itK (d : D) (W : Wd) (q : ItD → Wd → Prop) : Prop := match d with
  | .ref a => (match W.hp a with
    | some (.fz o xs kvs) => q ⟨kvs.map fun p => keyOf p.1, fun W => W.hp a = some (.fz o xs kvs)⟩ W
    | _ => False)
  | _ => False
def dItK (ta : TED) : TID := fun δ W q => ta δ W fun d W1 => itK d W1 q
theorem rd_itK {ta : TED} {δ : Sd} {W : Wd} {q : ItD → Wd → Prop} : dItK ta δ W q = ta δ W fun d W1 => itK d W1 q := rfl
def onFz (o : Option DO) (g : Obj → List (Key × V) → List (Key × D) → Prop) : Prop := match o with
  | some (.fz o xs kvs) => g o xs kvs
  | _ => False
theorem on_fz {o : Obj} {xs : List (Key × V)} {kvs : List (Key × D)} {g : Obj → List (Key × V) → List (Key × D) → Prop} : onFz (some (.fz o xs kvs)) g = g o xs kvs := rfl
theorem rd_itKr {a : Addr} {W : Wd} {q : ItD → Wd → Prop} : itK (.ref a) W q = onFz (W.hp a) fun o xs kvs => q ⟨kvs.map fun p => keyOf p.1, fun W => W.hp a = some (.fz o xs kvs)⟩ W := rfl
theorem rep_key {K : PySem.W.Frag} {H : Hp} {k : Key} : repV K H (keyOf k) (kV k) := by cases k <;> rfl
theorem repKV_at {K : PySem.W.Frag} {H : Hp} {κ : Type} : ∀ {kvs : List (κ × D)} {xs : List (κ × V)} {i : Nat} {p : κ × D}, repKV K H kvs xs → kvs[i]? = some p → ∃ v, xs[i]? = some (p.1, v) ∧ repV K H p.2 v
  | [], _, i, p, r, e => by simp at e
  | p0 :: kvs, _, 0, p, r, e => by
    obtain ⟨u, t, rfl, r1, r2⟩ := r
    simp at e; subst e
    exact ⟨u, rfl, r1⟩
  | p0 :: kvs, _, i + 1, p, r, e => by
    obtain ⟨u, t, rfl, r1, r2⟩ := r
    obtain ⟨v, e1, e2⟩ := repKV_at (i := i) r2 (by simpa using e)
    exact ⟨v, by simpa using e1, e2⟩
theorem di_keys {tg : Expr} {ta : TED} (ha : PE X e (upE X.K Ed Ex ta)) : PI X tg e (upI X.K Ed Ex (dItK ta)) := (pi_keys ha).imp fun _ _ _ h => by
  obtain ⟨δ, W, P, q, rs, rw, x, h, k⟩ := h
  refine ⟨δ, W, P, _, rs, rw, x, h, fun d W1 P1 v H1 s1 r1 rw1 h1 => ?_⟩
  cases d with
  | ref a => ?_
  | _ => exact h1.elim
  simp only [itK] at h1
  split at h1
  · rename_i o xs kvs e1
    obtain ⟨u, g1, rfl, g2⟩ := rw1.vis _ _ e1
    refine ⟨a, o, r1, .inl ⟨xs, g1, k _ W1 P1 _ H1 s1 rw1 (fun i W2 P2 H2 s2 rw2 hg => ?_) h1⟩⟩
    obtain ⟨u, g3, rfl, g4⟩ := rw2.vis _ _ hg
    refine ⟨fun d ed => ?_, fun hl => ⟨g3, by rw [← repKV_len g4]; simpa using hl⟩⟩
    simp only [List.getElem?_map, Option.map_eq_some_iff] at ed
    obtain ⟨p, ep, rfl⟩ := ed
    obtain ⟨w, e5, _⟩ := repKV_at g4 ep
    have hi : i < xs.length := (List.getElem?_eq_some_iff.mp e5).1
    refine ⟨⟨g3, hi⟩, ?_⟩
    rintro y H' ⟨rfl, k', v', e6, rfl⟩
    rw [e5] at e6; cases e6
    exact ⟨.refl, rep_key, rw2⟩
  · exact h1.elim
end
end DL

namespace DL
open PySem L2
/-! ### zip -/
def pairUp (xs ys : List D) : List D := List.zipWith (fun x y => .tup [x, y]) xs ys
def itZ (ds : List D) (W : Wd) (q : ItD → Wd → Prop) : Prop := match ds with
  | [.tup xs, .tup ys] => q ⟨pairUp xs ys, gTrue⟩ W
  | [.ref a, .ref b] => onLst (W.hp a) fun xs => onLst (W.hp b) fun ys => q ⟨pairUp xs ys, fun W => W.hp a = some (.lst xs) ∧ W.hp b = some (.lst ys)⟩ W
  | _ => False
def dItZ (tA : TAD) : TID := fun δ W q => tA δ W fun ds W1 => itZ ds W1 q
theorem rd_itZ {tA : TAD} {δ : Sd} {W : Wd} {q : ItD → Wd → Prop} : dItZ tA δ W q = tA δ W fun ds W1 => itZ ds W1 q := rfl
theorem rd_itZt {xs ys : List D} {W : Wd} {q : ItD → Wd → Prop} : itZ [.tup xs, .tup ys] W q = q ⟨pairUp xs ys, gTrue⟩ W := rfl
theorem rd_itZr {a b : Addr} {W : Wd} {q : ItD → Wd → Prop} : itZ [.ref a, .ref b] W q = onLst (W.hp a) fun xs => onLst (W.hp b) fun ys => q ⟨pairUp xs ys, fun W => W.hp a = some (.lst xs) ∧ W.hp b = some (.lst ys)⟩ W := rfl
theorem onLst_inv {o : Option DO} {f : List D → Prop} (h : onLst o f) : ∃ ds, o = some (.lst ds) ∧ f ds := by
  unfold onLst at h
  split at h
  · exact ⟨_, rfl, h⟩
  · exact h.elim
theorem pair_rep {K : PySem.W.Frag} {W : Wd} {P : Addr → Dh} {H : Hp} {T : Addr} {d e : D} {x y : V} (rw : RepW K W P H) (hT : H T = none) (r1 : repV K H d x) (r2 : repV K H e y) :
    Step K W P H W P (upd H T (.tup [x, y])) ∧ repV K (upd H T (.tup [x, y])) (.tup [d, e]) (.ref T) ∧ RepW K W P (upd H T (.tup [x, y])) :=
  ⟨Step.new hT, ⟨T, [x, y], rfl, .of upd_same, x, [y], rfl, repV_mono (tupLe_upd (.inl hT)) _ r1, y, [], rfl, repV_mono (tupLe_upd (.inl hT)) _ r2, rfl⟩, rw.new hT⟩
theorem pairUp_at {xs ys : List D} {i : Nat} {d : D} (h : (pairUp xs ys)[i]? = some d) : ∃ x y, xs[i]? = some x ∧ ys[i]? = some y ∧ d = .tup [x, y] := by
  unfold pairUp at h
  rw [List.getElem?_zipWith] at h
  split at h
  · rename_i x y e1 e2
    cases h; exact ⟨x, y, e1, e2, rfl⟩
  · cases h
theorem pairUp_len {xs ys : List D} : (pairUp xs ys).length = min xs.length ys.length := by unfold pairUp; rw [List.length_zipWith]
section
variable {X : Cx} {Ed : WXD} {Ex : WX} {e e2 : Expr} {tA : TAD} {p pos tpos : Pos} {elts : List Expr} {kk : Nat}
theorem di_zip (hg : Gl X "zip") (hm : X.mg "zip" = none) (ha : PA X [e, e2] (upA X.K Ed Ex tA))
    (hs : starEach [e, e2] X.env = (false, eval e X.env) :: starEach [e2] X.env := by rfl) (hpl : (backTo pos (starEach [e2] X.env)).any (·.1) = false := by rfl) :
    PI X (.Tuple elts kk tpos) (.Call (.Name "zip" p) [e, e2] [] pos) (upI X.K Ed Ex (dItZ tA)) := (RZ.pi_zipA hg hm ha hs hpl).imp fun _ _ _ h => by
  obtain ⟨δ, W, P, q, rs, rw, x, h, k⟩ := h
  refine ⟨δ, W, P, _, rs, rw, x, h, fun ds W1 P1 vs H1 s1 r1 rw1 h1 => ?_⟩
  unfold itZ at h1
  split at h1
  · rename_i xs ys
    obtain ⟨v, w, rfl, ⟨a, xv, rfl, ha1, rx⟩, ⟨b, yv, rfl, hb1, ry⟩⟩ := rep2 r1
    refine ⟨a, b, xv, yv, rfl, .inr ⟨ha1.1, hb1.1, k _ W1 P1 _ H1 s1 rw1 (fun i W2 P2 H2 s2 rw2 _ => ?_) h1⟩⟩
    have g1 := s2.tup.q _ _ ha1.1
    have g2 := s2.tup.q _ _ hb1.1
    have rx2 := repVs_step rx s2
    have ry2 := repVs_step ry s2
    refine ⟨fun d ed => ?_, fun hl => ⟨xv, yv, g1, g2, ?_⟩⟩
    · obtain ⟨dx, dy, e1, e2, rfl⟩ := pairUp_at ed
      obtain ⟨u1, e3, r3⟩ := repVs_get rx2 e1
      obtain ⟨u2, e4, r4⟩ := repVs_get ry2 e2
      refine ⟨⟨xv, yv, u1, u2, g1, g2, e3, e4⟩, ?_⟩
      rintro v H' ⟨T, x, y, rfl, hT, rfl, h3, h4⟩
      have h3 := h3 xv g1
      have h4 := h4 yv g2
      rw [e3] at h3; rw [e4] at h4; cases h3; cases h4
      exact pair_rep rw2 hT r3 r4
    · rw [← repVs_len rx2, ← repVs_len ry2]
      rw [pairUp_len] at hl
      omega
  · rename_i a b
    obtain ⟨v, w, rfl, rfl, rfl⟩ := rep2 r1
    obtain ⟨xs, e1, h2⟩ := onLst_inv h1
    obtain ⟨ys, e2, h3⟩ := onLst_inv h2
    obtain ⟨u, g1, xv, rfl, rx⟩ := rw1.vis _ _ e1
    obtain ⟨u, g2, yv, rfl, ry⟩ := rw1.vis _ _ e2
    refine ⟨a, b, xv, yv, rfl, .inl ⟨.of g1, .of g2, k _ W1 P1 _ H1 s1 rw1 (fun i W2 P2 H2 s2 rw2 hg => ?_) h3⟩⟩
    obtain ⟨u, g3, xv2, rfl, rx2⟩ := rw2.vis _ _ hg.1
    obtain ⟨u, g4, yv2, rfl, ry2⟩ := rw2.vis _ _ hg.2
    refine ⟨fun d ed => ?_, fun hl => ⟨xv2, yv2, .of g3, .of g4, ?_⟩⟩
    · obtain ⟨dx, dy, e1, e2, rfl⟩ := pairUp_at ed
      obtain ⟨u1, e3, r3⟩ := repVs_get rx2 e1
      obtain ⟨u2, e4, r4⟩ := repVs_get ry2 e2
      refine ⟨⟨xv2, yv2, u1, u2, .of g3, .of g4, e3, e4⟩, ?_⟩
      rintro v H' ⟨T, x, y, rfl, hT, rfl, h3, h4⟩
      have h3 := h3 xv2 (.of g3)
      have h4 := h4 yv2 (.of g4)
      rw [e3] at h3; rw [e4] at h4; cases h3; cases h4
      exact pair_rep rw2 hT r3 r4
    · rw [← repVs_len rx2, ← repVs_len ry2]
      rw [pairUp_len] at hl
      omega
  · exact h1.elim
end
def dNeg : DR1 := fun x W q => match x with
  | .int i => q (.int (-i)) W
  | _ => False
theorem rv_neg {i : Int} {W : Wd} {q : DK} : dNeg (.int i) W q = q (.int (-i)) W := rfl
theorem dun_neg {X : Cx} : UnR X (unaryOp .USub) (up1 X.K dNeg) := fun pins s σ H x v Q I rx h => un_neg pins s σ H x v Q I rx (by
  obtain ⟨d, W, P, q, r, rw, h, k⟩ := h
  cases d <;> first | exact h.elim | skip
  exact ⟨_, r, k (.int _) W P _ H .refl rfl rw h⟩)
theorem _root_.L2.Room.u1 {k : Nat} {A : Around} (r : Room k A) : A.units + 1 < cLine := by have := r.un; omega
/-! ### a def that calls itself -/
theorem fn_none {P : Program} {w : World} {K : PySem.W.Frag} {mg : Str → Option Value} {base : Heap} {CX : CXT} {k : Nat} {f : Addr} {fd : FuncData} {ps : List Str} : FnOk P w K mg base CX k f fd ps (upSp K fun _ _ _ _ => False) :=
  ⟨fun _ _ _ _ h => by obtain ⟨_, _, _, _, _, _, _, h, _⟩ := h; exact h.elim, fun _ _ _ _ _ _ _ _ _ _ _ _ _ h => by obtain ⟨_, _, _, _, _, _, _, h, _⟩ := h; exact h.elim⟩
end DL

namespace DL
open PySem L2
/-! ### small plain things -/
def smallD : Nat → D → Bool
  | n + 1, .tup ds => decide (ds.length ≤ 1000) && ds.all (smallD n)
  | 0, .tup _ => false
  | _, .non => true
  | _, .bl _ => true
  | _, .int _ => true
  | _, .str x => PyData.strOk x
  | _, _ => false
theorem small_plain : ∀ (n : Nat) (d : D), smallD n d = true → plainD n d = true
  | 0, d, h => by cases d <;> first | exact h | rfl
  | n + 1, d, h => by
    cases d with
    | tup ds =>
      have h : (decide (ds.length ≤ 1000) && ds.all (smallD n)) = true := h
      rw [Bool.and_eq_true, List.all_eq_true] at h
      show ds.all (plainD n) = true
      rw [List.all_eq_true]
      exact fun x hx => small_plain n x (h.2 x hx)
    | _ => first | exact h | rfl
theorem plain_up : ∀ (n : Nat) (d : D), plainD n d = true → plainD (n + 1) d = true
  | 0, d, h => by cases d <;> first | exact h | cases h
  | n + 1, d, h => by
    cases d with
    | tup ds =>
      have h : ds.all (plainD n) = true := h
      rw [List.all_eq_true] at h
      show ds.all (plainD (n + 1)) = true
      rw [List.all_eq_true]
      exact fun x hx => plain_up n x (h x hx)
    | _ => first | exact h | rfl
theorem plain_le {n m : Nat} {d : D} (h : plainD n d = true) (e : n ≤ m) : plainD m d = true := by
  induction m with
  | zero => rw [show n = 0 by omega] at h; exact h
  | succ m ih =>
    by_cases q : n = m + 1
    · subst q; exact h
    · exact plain_up m d (ih (by omega))
theorem last_at {α : Type} {ds : List α} {x : α} : atI (ds ++ [x]) (-1) = some x := by
  unfold atI ixN
  simp only [List.length_append, List.length_singleton]
  rw [if_neg (by omega), if_pos (by omega)]
  show (ds ++ [x])[(-1 + ((ds.length + 1 : Nat) : Int)).toNat]? = some x
  rw [show (-1 + ((ds.length + 1 : Nat) : Int)).toNat = ds.length by omega, List.getElem?_append_right (Nat.le_refl _), Nat.sub_self]
  rfl
theorem nodup_sub {α : Type} [DecidableEq α] : ∀ {xs ys : List α}, xs.Nodup → (∀ x ∈ xs, x ∈ ys) → xs.length ≤ ys.length
  | [], _, _, _ => Nat.zero_le _
  | x :: xs, ys, h, s => by
    rw [List.nodup_cons] at h
    have hx : x ∈ ys := s x List.mem_cons_self
    have := nodup_sub (xs := xs) (ys := ys.erase x) h.2 fun y hy => (List.mem_erase_of_ne (by rintro rfl; exact h.1 hy)).mpr (s y (List.mem_cons_of_mem _ hy))
    rw [List.length_erase_of_mem hx] at this
    have := List.length_pos_of_mem hx
    rw [List.length_cons]; omega
/-! ### Kept -/
abbrev KRow := Int × D × Int
def rowD (e : KRow) : D := .tup [.int e.1, e.2.1, .int e.2.2]
def kLook (kvs : List KRow) (k : Int) : Option (D × Int) := (kvs.find? fun e => decide (e.1 = k)).map (·.2)
def kPut (kvs : List KRow) (k : Int) (t : D) (w : Int) : List KRow :=
  if (kvs.any fun e => decide (e.1 = k)) = true then kvs.map (fun e => if e.1 = k then (k, t, w) else e) else kvs ++ [(k, t, w)]
theorem keptD_put {kvs : List KRow} {k : Int} {t : D} {w : Int} : setD (keptD kvs) (.inl k) (.tup [t, .int w]) = keptD (kPut kvs k t w) := by
  unfold setD kPut keptD
  have e : ((kvs.map fun e => ((.inl e.1 : Key), D.tup [e.2.1, .int e.2.2])).any fun kv => decide (kv.1 = .inl k)) = kvs.any fun e => decide (e.1 = k) := by
    rw [List.any_map]; congr 1; funext e; simp
  rw [e]
  split
  · rw [List.map_map, List.map_map]
    apply List.map_congr_left
    intro e _
    by_cases q : e.1 = k
    · simp [q]
    · simp [q]
  · simp
theorem keptD_val {kvs : List KRow} {k : Int} : valD (keptD kvs) (.inl k) = (kLook kvs k).map fun e => .tup [e.1, .int e.2] := by
  unfold valD keptD kLook
  rw [List.find?_map]
  simp only [Option.map_map]
  have : ((fun kv : Key × D => decide (kv.1 = .inl k)) ∘ fun e : KRow => ((.inl e.1 : Key), D.tup [e.2.1, .int e.2.2])) = fun e => decide (e.1 = k) := by funext e; simp
  rw [this]
  rfl
theorem kLook_put {kvs : List KRow} {k j : Int} {t : D} {w : Int} : kLook (kPut kvs k t w) j = if j = k then some (t, w) else kLook kvs j := by
  unfold kLook kPut
  induction kvs with
  | nil =>
    by_cases q : j = k
    · simp [q]
    · simp [q, Ne.symm q]
  | cons e r ih =>
    by_cases qe : e.1 = k
    · simp only [List.any_cons, qe, decide_true, Bool.true_or, if_true, List.map_cons]
      by_cases q : j = k
      · simp [q]
      · rw [List.find?_cons, decide_eq_false (Ne.symm q), List.find?_cons, show decide (e.1 = j) = false by rw [qe]; exact decide_eq_false (Ne.symm q), if_neg q]
        rw [List.find?_map]
        congr 1
        have : ((fun e : KRow => decide (e.1 = j)) ∘ fun e : KRow => if e.1 = k then (k, t, w) else e) = fun e => decide (e.1 = j) := by
          funext x
          by_cases qx : x.1 = k
          · simp [qx]
          · simp [qx]
        rw [this]
        cases hf : List.find? (fun e : KRow => decide (e.1 = j)) r with
        | none => rfl
        | some x =>
          have hx := List.find?_some hf
          have hx : x.1 = j := by simpa using hx
          simp [hx, q]
    · simp only [List.any_cons, qe, decide_false, Bool.false_or]
      by_cases qa : (r.any fun e => decide (e.1 = k)) = true
      · rw [if_pos qa] at ih ⊢
        rw [List.map_cons, if_neg qe, List.find?_cons, List.find?_cons]
        by_cases q2 : e.1 = j
        · rw [decide_eq_true q2, if_neg (by rintro rfl; exact qe q2)]
        · rw [decide_eq_false q2]; exact ih
      · rw [if_neg qa] at ih ⊢
        rw [List.cons_append, List.find?_cons, List.find?_cons]
        by_cases q2 : e.1 = j
        · rw [decide_eq_true q2, if_neg (by rintro rfl; exact qe q2)]
        · rw [decide_eq_false q2]; exact ih
theorem kPut_keys {kvs : List KRow} {k : Int} {t : D} {w : Int} : (kPut kvs k t w).map (·.1) = if k ∈ kvs.map (·.1) then kvs.map (·.1) else kvs.map (·.1) ++ [k] := by
  unfold kPut
  have e : (kvs.any fun e => decide (e.1 = k)) = decide (k ∈ kvs.map (·.1)) := by
    rw [Bool.eq_iff_iff, List.any_eq_true, decide_eq_true_eq, List.mem_map]
    exact ⟨fun ⟨x, h1, h2⟩ => ⟨x, h1, by simpa using h2⟩, fun ⟨x, h1, h2⟩ => ⟨x, h1, by simpa using h2⟩⟩
  rw [e]
  by_cases q : k ∈ kvs.map (·.1)
  · rw [if_pos (by simpa using q), if_pos q, List.map_map]
    apply List.map_congr_left
    intro x _
    by_cases h : x.1 = k
    · simp [h]
    · simp [h]
  · rw [if_neg (by simpa using q), if_neg q, List.map_append]; rfl
def onKept (C : Addr) (o : Option HD) (f : Int → List KRow → Prop) : Prop := match o with
  | some (.kept C' keep kvs) => C' = C ∧ f keep kvs
  | _ => False
theorem on_kept {C : Addr} {keep : Int} {kvs : List KRow} {f : Int → List KRow → Prop} : onKept C (some (.kept C keep kvs)) f = f keep kvs := by simp [onKept]
theorem onKept_inv {C : Addr} {o : Option HD} {f : Int → List KRow → Prop} (h : onKept C o f) : ∃ keep kvs, o = some (.kept C keep kvs) ∧ f keep kvs := by
  unfold onKept at h
  split at h
  · obtain ⟨rfl, h⟩ := h; exact ⟨_, _, rfl, h⟩
  · exact h.elim
theorem hide_same {W : Wd} {p : Addr} {φ : HD} (h : W.hid p = some φ) : W.hide p φ = W := by
  have : hset W.hid p φ = W.hid := by funext b; unfold hset; split <;> simp_all
  unfold Wd.hide; rw [this]
/-- what was put last for a key -/
def lastPut (puts : List KRow) (k : Int) : Option (D × Int) := ((puts.filter fun e => decide (e.1 = k)).getLast?).map (·.2)
theorem lastPut_snoc {puts : List KRow} {k j : Int} {t : D} {w : Int} : lastPut (puts ++ [(k, t, w)]) j = if j = k then some (t, w) else lastPut puts j := by
  unfold lastPut
  rw [List.filter_append]
  by_cases q : j = k
  · subst q; simp
  · simp [q, Ne.symm q]
def keptAns (keep : Int) (o : Option (D × Int)) (tick : Int) : D := match o with
  | some e => if keep < tick - e.2 then .tup [.bl false, .non] else .tup [.bl true, e.1]
  | none => .tup [.bl false, .non]
def kIs (keep : Int) (o : Option (D × Int)) (tick : Int) : Bool := match o with
  | some e => decide (tick - e.2 ≤ keep)
  | none => false
def kFind (keep : Int) (o : Option (D × Int)) (tick : Int) : D := match o with
  | some e => if tick - e.2 ≤ keep then e.1 else .non
  | none => .non
theorem keptAns_eq {keep : Int} {o : Option (D × Int)} {tick : Int} : keptAns keep o tick = .tup [.bl (kIs keep o tick), kFind keep o tick] := by
  cases o with
  | none => rfl
  | some e =>
    show (if keep < tick - e.2 then D.tup [.bl false, .non] else .tup [.bl true, e.1]) = .tup [.bl (decide (tick - e.2 ≤ keep)), if tick - e.2 ≤ keep then e.1 else .non]
    by_cases c : tick - e.2 ≤ keep
    · rw [if_neg (by omega), decide_eq_true c, if_pos c]
    · rw [if_pos (by omega), decide_eq_false c, if_neg c]
def L7 : List Int := [0, 1, 2, 3, 4, 1000000000000000000, 999999999999999999]
theorem many_eq {kvs : List KRow} {keep tick : Int} (hn : (kvs.map (·.1)).Nodup) (hs : ∀ k ∈ kvs.map (·.1), k ∈ L7) : (kvs.filter fun e => kIs keep (kLook kvs e.1) tick).length = (L7.filter fun k => kIs keep (kLook kvs k) tick).length := by
  have e : (kvs.filter fun e => kIs keep (kLook kvs e.1) tick).length = ((kvs.map (·.1)).filter fun k => kIs keep (kLook kvs k) tick).length := by
    rw [List.filter_map, List.length_map]; rfl
  rw [e]
  apply Nat.le_antisymm
  · refine nodup_sub (List.Pairwise.filter _ hn) fun k hk => ?_
    rw [List.mem_filter] at hk ⊢
    exact ⟨hs k hk.1, hk.2⟩
  · refine nodup_sub (List.Pairwise.filter _ (show L7.Nodup by decide)) fun k hk => ?_
    rw [List.mem_filter] at hk ⊢
    refine ⟨?_, hk.2⟩
    have h := hk.2
    cases q : kLook kvs k with
    | none => rw [q] at h; cases h
    | some x =>
      unfold kLook at q
      rw [Option.map_eq_some_iff] at q
      obtain ⟨y, hy, _⟩ := q
      exact List.mem_map.mpr ⟨y, List.mem_of_find?_eq_some hy, by simpa using List.find?_some hy⟩
/-- what is kept and what was put agree -/
def KeptOk (kvs puts : List KRow) : Prop := (∀ k, kLook kvs k = lastPut puts k) ∧ (kvs.map (·.1)).Nodup ∧ (∀ k ∈ kvs.map (·.1), k ∈ L7) ∧ ∀ e ∈ puts, smallD 3 e.2.1 = true
theorem KeptOk.nil : KeptOk [] [] := ⟨fun _ => rfl, by simp, by simp, by simp⟩
theorem KeptOk.put {kvs puts : List KRow} (h : KeptOk kvs puts) {k : Int} {t : D} {w : Int} (hk : k ∈ L7) (ht : smallD 3 t = true) : KeptOk (kPut kvs k t w) (puts ++ [(k, t, w)]) := by
  refine ⟨fun j => by rw [kLook_put, lastPut_snoc, h.1], ?_, ?_, ?_⟩
  · rw [kPut_keys]
    split
    · exact h.2.1
    · rw [List.nodup_append]
      refine ⟨h.2.1, by simp, fun a ha b hb => ?_⟩
      rw [List.mem_singleton] at hb
      subst hb
      rintro rfl
      contradiction
  · rw [kPut_keys]
    split
    · exact h.2.2.1
    · intro j hj
      rcases List.mem_append.mp hj with hj | hj
      · exact h.2.2.1 j hj
      · rw [List.mem_singleton] at hj; subst hj; exact hk
  · intro e he
    rcases List.mem_append.mp he with he | he
    · exact h.2.2.2 e he
    · rw [List.mem_singleton] at he; subst he; exact ht
theorem kPut_len {kvs : List KRow} {k : Int} {t : D} {w : Int} : (kPut kvs k t w).length ≤ kvs.length + 1 := by
  unfold kPut; split <;> simp
theorem KeptOk.find {kvs puts : List KRow} (h : KeptOk kvs puts) {keep tick k : Int} : smallD 3 (kFind keep (lastPut puts k) tick) = true := by
  unfold kFind lastPut
  cases q : ((puts.filter fun e => decide (e.1 = k)).getLast?) with
  | none => rfl
  | some x =>
    have hx : x ∈ puts := (List.mem_filter.mp (List.mem_of_getLast? q)).1
    simp only [Option.map_some]
    split
    · exact h.2.2.2 x hx
    · rfl
theorem hset_none {h : Addr → Option HD} {a b : Addr} {φ : HD} (e : hset h a φ b = none) : b ≠ a ∧ h b = none := by
  by_cases q : b = a
  · subst q; rw [hset_same] at e; cases e
  · rw [hset_ne q] at e; exact ⟨q, e⟩
end DL

namespace DL
open PySem L2 PySem.Spec PyProof.Rows
/-! ### a caught exception that is held behind its clause -/
theorem excV_ok {P : Program} {w : World} {H : Hp} {h : Heap} {a : Addr} {cls : Value} {oe : Obj} {vs : Array Value} (e : h.get? a = some oe) (z : Zc cls none oe) (d : oe.data = .fields vs) : ObjOk P w H h a (ExcV cls a) :=
  ⟨⟨oe, vs, e, z, d⟩, ⟨oe, e⟩, fun _ _ ⟨o, v, q, r⟩ k => ⟨o, v, k o q, r⟩⟩
section
variable {X : Cx} {pins : List (Addr × Obj)} {σ : L2.St} {H : Hp} {s : Shared} {a : Addr} {oe : Obj} {vs : Array Value} {cls : Value}
theorem inv_hold (I : Inv X pins σ H s) (he : s.heap.get? a = some oe) (hz : Zc cls none oe) (hd : oe.data = .fields vs) (hn : H a = none) (h0 : X.s_0.heap.get? a = none) (nL : a ≠ X.env.locals) (nP : ∀ p ∈ X.pn ++ pins, p.1 ≠ a) :
    Inv X pins σ (upd H a (ExcV cls a)) s := by
  have ne0 : ∀ b o, X.s_0.heap.get? b = some o → b ≠ a := fun b o e z => by rw [z, h0] at e; cases e
  refine ⟨I.ok, I.os, I.bare, ⟨I.base.keep, I.base.slot, fun b o e n x => ?_, I.base.there, fun b xs e => ?_, fun b o u e => ?_, fun b ps e => ?_⟩, I.loc, I.cell, ?_, fun x c e => ?_, fun p hp => ?_, ?_, I.len⟩
  · rw [upd_ne (ne0 b o e)]; exact I.base.free b o e n x
  · have q := I.base.tups b xs e
    rw [upd_ne (ne_of_none q hn)]; exact q
  · have q := I.base.frzs b o u e
    rw [upd_ne (ne_of_none q hn)]; exact q
  · obtain ⟨m, q⟩ := I.base.tbls b ps e
    exact ⟨m, by rw [upd_ne (ne_of_none q hn)]; exact q⟩
  · rw [upd_ne (Ne.symm nL)]; exact I.free
  · obtain ⟨v, hc⟩ := I.cell x c e
    have : c ≠ a := by
      rintro rfl
      obtain ⟨o, h1, h2⟩ : ∃ o, s.heap.get? c = some o ∧ o.data = .cell v := by
        exact hc
      rw [he] at h1; cases h1
      rw [hd] at h2; cases h2
    rw [upd_ne this]; exact I.freeC x c e
  · obtain ⟨h1, h2, h3⟩ := I.pin p hp
    exact ⟨h1, by rw [upd_ne (nP p hp)]; exact h2, h3⟩
  · exact I.hok.laidN (fun _ _ q => q) hn (excV_ok he hz hd)
end
/-- what the clause wishes: the class is caught, the thing is held behind it -/
def wHold (K : PySem.W.Frag) (c : Value) (i : Nat) (ts : Addr → Value → TS) (D : Ends) : WX := fun cls d σ H => d = none ∧ PySem.W.exmOne K cls c = some true ∧
  ∀ a, H a = none → ts a cls ⟨fun σ' H' => H' a = none ∧ D.nx (σ'.set i none) (upd H' a (ExcV cls a)), fun _ _ => False, fun _ _ => False, fun _ _ => False⟩ (σ.set i (some (.ref a))) H
section
variable {X : Cx} {x n : Str} {c : Value} {i : Nat} {body suite : List Stmt} {b₀ : Stmt} {np pos pos' : Pos} {tb : WX → TS} {ts : Addr → Value → TS}
theorem ps_try_hold (hs : X.stack = X.env :: X.outer) (hf : X.env.frame = some X.env.locals) (hN : X.N.Nodup) (hi : X.N[i]? = some n) (hln : X.env.kindOf n = some .local) (hc : Names X x c) (hx : X.ex = [])
    (hb : ∀ (W : WX) (pn : List (Addr × Obj)) (xe : Value → Shared → Prop), Takes (X.tr pn xe) W → PassesOwn (model X.prog X.w) X.A X.env xe → PSs (X.tr pn xe) body (tb W))
    (hsu : ∀ (a : Addr) (oe : Obj) (cls : Value) (pn : List (Addr × Obj)), Zc cls none oe → (∃ vs, oe.data = .fields vs) → PSs (X.suite a ((a, oe) :: pn)) (b₀ :: suite) (ts a cls)) :
    PS X (.Try body [.ExceptHandler (some (.Name x np)) (some n) (b₀ :: suite) pos'] [] [] pos) (fun D σ H => tb (wHold X.K c i ts D) D σ H) := by
  refine ⟨fun pins s σ H D I h => ?_⟩
  have ok := I.ok
  have hfr : X.A.frames = some (X.env :: X.outer) := by rw [ok.frames, hs]
  refine wpAny_Try_except ?_
  refine wpAny_mono ((hb (wHold X.K c i ts D) (X.pn ++ pins) (fun e s₁ => wpAny (model X.prog X.w) X.A (noteFrame e X.env) (fun _ s₂ => wpAny (model X.prog X.w) X.A (setFlight e none) (fun _ s₃ =>
    wpAny (model X.prog X.w) X.A (handleBy e X.env [.ExceptHandler (some (.Name x np)) (some n) (b₀ :: suite) pos']) (SP X pins D) X.xe s₃) X.xe s₂) X.xe s₁) (fun u s' xx => ?_) PassesOwn.looking).run [] s σ H D (I.toTry _) h) (fun f s1 hsp => ?_) (fun e s1 he => he)
  · obtain ⟨a, B, sI, pins', σ', H', cls, d, rfl, J', nb, up, sky, na, os, ag, rfl, hb1, hyes⟩ := xx
    have J : Inv X pins σ' H' sI := J'.ofTry ok
    have sky' : Sky B (X.env :: X.outer) a (Zc cls none) X.env.locals s'.heap := by rw [← hs]; exact sky
    show wpAny (model X.prog X.w) X.A (noteFrame (.ref a) X.env) _ _ _
    refine Sky.land Zc.steady hfr hf sky' fun h3 fl3 up3 => ?_
    have J3 : Inv X pins σ' H' { s' with heap := h3 } := J.landed nb fl3.1 (up.trans up3) os ag
    obtain ⟨oe3, vs3, he3, hz3, hd3⟩ := fl3.there
    have nfr : a ∉ frs (X.env :: X.outer) := fun hm => by
      obtain ⟨_, o', e', hnf⟩ := fl3.2.2.1.mem hm
      rw [he3] at e'; cases e'
      exact hnf _ hd3
    have nL : a ≠ X.env.locals := fun z => nfr (List.mem_filterMap.mpr ⟨X.env, List.mem_cons_self, by rw [hf, z]⟩)
    have nF : a ∉ X.fs := fun hm => by
      obtain ⟨e, he, q⟩ := List.mem_filterMap.mp hm
      exact nfr (List.mem_filterMap.mpr ⟨e, List.mem_cons_of_mem _ he, q⟩)
    have gone : ∀ o, sI.heap.get? a = some o → False := fun o e => by
      have := nb a o e (by rw [hs]; exact nfr)
      rw [fl3.2.1] at this; cases this
    have h0 : X.s_0.heap.get? a = none := by
      cases q : X.s_0.heap.get? a with
      | none => rfl
      | some o =>
        obtain ⟨o', e⟩ := J.base.there a o q (by rw [hx]; exact fun z => nomatch z)
        exact (gone o' e).elim
    have nP : ∀ p ∈ X.pn ++ pins, p.1 ≠ a := fun p hp z => gone p.2 (by rw [← z]; exact (J.pin p hp).1)
    have S3 := J3.suite he3 hd3 na nL nF
    refine wpAny_handleBy_cons (codeAny_handlers_test ?_) (by intro q; cases q)
    have LT : PySem.W.Looks (model X.prog X.w) h3 (typeOf (.ref a)) cls := fun A Q E s k q => wpAny_typeOf_ref (k _ _ he3) (by rw [hz3.1]; exact q)
    have LM := PySem.W.exm_one (M := model X.prog X.w) (J3.kIn) LT hb1
    have test : ∀ {Q : Value → Shared → Prop} {E : Value → Shared → Prop}, Q c { s' with heap := h3 } → wpAny (model X.prog X.w) (X.A.mark (some (.ref a))) (eval (.Name x np) X.env) Q E { s' with heap := h3 } := fun {Q E} q => by
      obtain ⟨hg, hdbg, hm | ⟨hm, hv, hnn⟩⟩ := hc
      · exact ld_glob (X := X.suite a ((a, oe3) :: (X.pn ++ pins))) S3 hg hm q hdbg
      · exact ld_blt (X := X.suite a ((a, oe3) :: (X.pn ++ pins))) S3 hg hm hv q hnn hdbg
    refine test (LM.here ?_)
    refine codeAny_handlers_suite_as ?_
    refine HandSPX.lands_againZ fl3 fun h4 fl4 up4 => ?_
    have J4 : Inv X pins σ' H' { s' with heap := h4 } := J.landed nb fl4.1 ((up.trans up3).trans up4) os ag
    obtain ⟨oe4, vs4, he4, hz4, hd4⟩ := fl4.there
    have S4 := J4.suite he4 hd4 na nL nF
    refine store_ok (X := X.suite a ((a, oe4) :: (X.pn ++ pins))) (v := .ref a) S4 hN hi (.inl hln) rfl (fun s5 S5 => ?_) (.inr hln)
    refine wpAny_mono ((hsu a oe4 cls (X.pn ++ pins) hz4 ⟨_, hd4⟩).run [] s5 _ H' _ S5 (hyes a na)) (fun f s6 hsp => ?_) (fun _ _ z => False.elim z)
    cases f with
    | next =>
      obtain ⟨σ6, H6, S6, q6, q7⟩ := hsp
      refine gone_ok (X := X.suite a ((a, oe4) :: (X.pn ++ pins))) S6 hN hi hln fun s7 S7 => ?_
      have J7 : Inv X pins (σ6.set i none) H6 s7 := S7.unsuite ok
      have he7 := (S7.pin (a, oe4) (List.mem_append_left _ List.mem_cons_self)).1
      exact ⟨_, _, inv_hold J7 he7 hz4 hd4 q6 h0 nL nP, q7⟩
    | brk => obtain ⟨σ6, H6, S6, q6⟩ := hsp; exact q6.elim
    | cont => obtain ⟨σ6, H6, S6, q6⟩ := hsp; exact q6.elim
    | ret u => obtain ⟨v6, σ6, H6, S6, r6, q6⟩ := hsp; exact q6.elim
  · cases f with
    | next =>
      obtain ⟨σ', H', J', q⟩ := hsp
      exact wpAny_execs_nil ⟨σ', H', J'.ofTry ok, q⟩
    | brk =>
      obtain ⟨σ', H', J', q⟩ := hsp
      exact ⟨σ', H', J'.ofTry ok, q⟩
    | cont =>
      obtain ⟨σ', H', J', q⟩ := hsp
      exact ⟨σ', H', J'.ofTry ok, q⟩
    | ret u =>
      obtain ⟨v, σ', H', J', r, q⟩ := hsp
      exact ⟨v, σ', H', J'.ofTry ok, r, q⟩
end
/-! ### isinstance of it -/
section
variable {X : Cx}
def rIsV (K : PySem.W.Frag) (D : Addr) : List V → Hp → VK → Prop := fun xs H Q => ∃ (a : Addr) (c : V) (cv : Value) (b : Bool), xs = [.ref a, c] ∧ H a = some (ExcV (.ref D) a) ∧ (∀ u, RelV c u → u = cv) ∧ PySem.W.kitOne K (.ref D) cv = some b ∧ Q (.bl b) H
theorem call_isV {D : Addr} (C : ExcC X.K D) : CallR X (.builtin "isinstance") (rIsV X.K D) := by
  intro pins s σ H xs us Q I r h
  obtain ⟨a, c, cv, b, rfl, ha, hcv, e, q⟩ := h
  obtain ⟨u1, u2, rfl, r1, r2⟩ := vals2 r
  cases (show u1 = Value.ref a from r1)
  have ec := hcv _ r2
  subst ec
  obtain ⟨⟨oe, vs, he, hz, hv⟩, _⟩ := (show ObjOk X.prog X.w H s.heap a (ExcV (.ref D) a) from I.hok a _ ha)
  have J : PySem.W.InstAt s.heap a oe D none := by
    obtain ⟨oc, od, oda, osl⟩ := oe
    obtain ⟨h1, h2⟩ := hz
    dsimp only at h1 h2 hv
    subst h1 h2 hv
    exact ⟨he, rfl, rfl, trivial⟩
  exact PySem.W.kia_one (PySem.W.handS_kitx_exc C.hg C.hk C.hs C.hd C.ha C.hn C.ht C.hm) I.kIn J e (fun z => nomatch z) fun tk => ⟨.bl b, H, I.kept (t' := tk) fun _ _ z => z, rfl, q⟩
def rIsVT (K : PySem.W.Frag) (D : Addr) : List V → Hp → VK → Prop := fun xs H Q => ∃ (a tp : Addr) (cs : List V) (us : List Value) (b : Bool), xs = [.ref a, .ref tp] ∧ H a = some (ExcV (.ref D) a) ∧ H tp = some (.tup cs) ∧ Paired ClsV cs us ∧ PySem.W.kitAny K (.ref D) us = some b ∧ Q (.bl b) H
theorem call_isVT {D : Addr} (C : ExcC X.K D) : CallR X (.builtin "isinstance") (rIsVT X.K D) := by
  intro pins s σ H xs us Q I r h
  obtain ⟨a, tp, cs, ws, b, rfl, ha, hT, k, e, q⟩ := h
  obtain ⟨u1, u2, rfl, r1, r2⟩ := vals2 r
  cases (show u1 = Value.ref a from r1)
  cases (show u2 = Value.ref tp from r2)
  obtain ⟨⟨oe, vs, he, hz, hv⟩, _⟩ := (show ObjOk X.prog X.w H s.heap a (ExcV (.ref D) a) from I.hok a _ ha)
  have J : PySem.W.InstAt s.heap a oe D none := by
    obtain ⟨oc, od, oda, osl⟩ := oe
    obtain ⟨h1, h2⟩ := hz
    dsimp only at h1 h2 hv
    subst h1 h2 hv
    exact ⟨he, rfl, rfl, trivial⟩
  obtain ⟨_, its, rv, o, h1, h2, n, h3⟩ := (show ObjOk X.prog X.w H s.heap tp (.tup cs) from I.hok tp _ hT)
  have e3 := ClsV.all k rv
  subst e3
  obtain ⟨oc, od, dt, sl⟩ := o
  simp only at h2 h3
  subst h2 h3
  exact PySem.W.kia_tup (PySem.W.handS_kitx_exc C.hg C.hk C.hs C.hd C.ha C.hn C.ht C.hm) I.kIn J h1 e (fun z => nomatch z) fun tk => ⟨.bl b, H, I.tok tk, rfl, q⟩
end
end DL

namespace DL
open PySem L2
/-! ### try: .. except C as n: x = n, where what is raised is caught -/
def dTry (K : PySem.W.Frag) (c : Value) (ie ix : Nat) (tb : WXD → TSD) : TSD := fun E δ W =>
  tb (fun cls d δ' W' => d = none ∧ ie < δ'.length ∧ ∃ C, cls = .ref C ∧ PySem.W.exmOne K cls c = some true ∧ ∀ a, W'.hp a = none → W'.hid a = none → E.nx (((δ'.set ie (some (.ref a))).set ix (some (.ref a))).set ie none) (W'.put a (.exc a C))) E δ W
theorem rd_try {K : PySem.W.Frag} {c : Value} {ie ix : Nat} {tb : WXD → TSD} {E : EndsD} {δ : Sd} {W : Wd} : dTry K c ie ix tb E δ W =
  tb (fun cls d δ' W' => d = none ∧ ie < δ'.length ∧ ∃ C, cls = .ref C ∧ PySem.W.exmOne K cls c = some true ∧ ∀ a, W'.hp a = none → W'.hid a = none → E.nx (((δ'.set ie (some (.ref a))).set ix (some (.ref a))).set ie none) (W'.put a (.exc a C))) E δ W := rfl
section
variable {X : Cx} {Ed : WXD} {Ex : WX} {x n : Str} {c : Value} {ie ix : Nat} {body suite : List Stmt} {b₀ : Stmt} {np pos pos' : Pos} {dtb : WXD → TSD}
theorem ds_try (hs : X.stack = X.env :: X.outer) (hf : X.env.frame = some X.env.locals) (hN : X.N.Nodup) (hi : X.N[ie]? = some n) (hln : X.env.kindOf n = some .local) (hc : Names X x c) (hx : X.ex = [])
    (hb : ∀ (Ed : WXD) (W : WX) (pn : List (Addr × Obj)) (xe : Value → Shared → Prop), Takes (X.tr pn xe) W → PassesOwn (model X.prog X.w) X.A X.env xe → PSs (X.tr pn xe) body (upS X.K Ed W (dtb Ed)))
    (hsu : ∀ (a : Addr) (oe : Obj) (cls : Value) (pn : List (Addr × Obj)), Zc cls none oe → (∃ vs, oe.data = .fields vs) → PSs (X.suite a ((a, oe) :: pn)) (b₀ :: suite) (tAsg (tVar ie) (gName ix))) :
    PS X (.Try body [.ExceptHandler (some (.Name x np)) (some n) (b₀ :: suite) pos'] [] [] pos) (upS X.K Ed Ex (dTry X.K c ie ix dtb)) :=
  (ps_try_hold (tb := fun W D σ H => ∃ Ed, upS X.K Ed W (dtb Ed) D σ H) (ts := fun _ _ => tAsg (tVar ie) (gName ix)) hs hf hN hi hln hc hx
    (fun W pn xe tk po => ⟨fun pins s σ H D I h => by obtain ⟨Ed, h⟩ := h; exact (hb Ed W pn xe tk po).run pins s σ H D I h⟩) hsu).imp fun D σ H h => by
  obtain ⟨δ, W, P, E, rs, rw, xa, h, k⟩ := h
  refine ⟨_, δ, W, P, E, rs, rw, ?_, h, k⟩
  rintro cls d δ' W' P' σ' H' s rs' rw' ⟨rfl, hl, C, rfl, hm, hn⟩
  refine ⟨rfl, hm, fun a ha => ?_⟩
  obtain ⟨f1, f2, _⟩ := rw'.fresh ha
  have hl : ie < σ'.length := by rw [← rs'.1]; exact hl
  refine ⟨.ref a, by rw [List.getElem?_set_self hl], ?_⟩
  refine ⟨ha, ?_⟩
  have sp := Step.put (K := X.K) (W := W') (P := P') (o := ExcV (.ref C) a) (d := .exc a C) ha
  have r1 := ((rs'.set (d := .ref a) (v := .ref a) rfl ie).set (d := .ref a) (v := .ref a) rfl ix).wipe ie
  exact k.nx _ _ P' _ _ (s.trans sp) (r1.step sp) (rw'.put ha rfl) (hn a f1 f2)
end
/-! ### isinstance of what was caught -/
def onExc (o : Option DO) (f : Addr → Addr → Prop) : Prop := match o with
  | some (.exc a C) => f a C
  | _ => False
theorem on_exc {a C : Addr} {f : Addr → Addr → Prop} : onExc (some (.exc a C)) f = f a C := rfl
/-- the class of a thing that isinstance is asked of -/
def clsD : D → Option Value
  | .ref c => some (.ref c)
  | .ty t => some (.type t)
  | _ => none
def clsDs : List D → Option (List Value)
  | [] => some []
  | d :: ds => match clsD d, clsDs ds with
    | some v, some vs => some (v :: vs)
    | _, _ => none
/-- isinstance(x, c), isinstance(x, (c, ..)): by what the text says -/
def isE (K : PySem.W.Frag) : DCR := fun ds W q => match ds with
  | [.ref a, .tup cs] => onExc (W.hp a) fun a' C => a' = a ∧ pairD cs = true ∧ ExcC K C ∧ onSome (clsDs cs) fun us => ∃ b, PySem.W.kitAny K (.ref C) us = some b ∧ q (.bl b) W
  | [.ref a, c] => onExc (W.hp a) fun a' C => a' = a ∧ ExcC K C ∧ onSome (clsD c) fun u => ∃ b, PySem.W.kitOne K (.ref C) u = some b ∧ q (.bl b) W
  | _ => False
theorem onExc_inv {o : Option DO} {f : Addr → Addr → Prop} (h : onExc o f) : ∃ a C, o = some (.exc a C) ∧ f a C := by
  unfold onExc at h
  split at h
  · exact ⟨_, _, rfl, h⟩
  · exact h.elim
theorem clsD_rep {K : PySem.W.Frag} {H : Hp} {d : D} {v : V} {u : Value} (r : repV K H d v) (e : clsD d = some u) : ∀ w, RelV v w → w = u := by
  cases d <;> first | cases e | skip
  · rw [show v = V.ref _ from r]; exact fun w h => h
  · rw [show v = V.ty _ from r]; exact fun w h => h
theorem clsV_rep {K : PySem.W.Frag} {H : Hp} {d : D} {v : V} {u : Value} (r : repV K H d v) (e : clsD d = some u) : ClsV v u := by
  cases d <;> first | cases e | skip
  · rw [show v = V.ref _ from r]; exact .own _
  · rw [show v = V.ty _ from r]; exact .ty _
theorem clsVs_rep {K : PySem.W.Frag} {H : Hp} : ∀ {ds : List D} {vs : List V} {us : List Value}, repVs K H ds vs → clsDs ds = some us → Paired ClsV vs us
  | [], _, _, r, e => by rw [show _ = [] from r]; cases e; exact .nil
  | d :: ds, _, _, r, e => by
    obtain ⟨v, t, rfl, r1, r2⟩ := r
    simp only [clsDs] at e
    split at e
    · rename_i u us e1 e2
      cases e
      exact .cons (clsV_rep r1 e1) (clsVs_rep r2 e2)
    · cases e
theorem dc_isE {X : Cx} : CallR X (.builtin "isinstance") (upC X.K (isE X.K)) := fun pins s σ H xs us Q I r h => by
  obtain ⟨ds, W, P, q, rr, rw, h, k⟩ := h
  unfold isE at h
  split at h
  · rename_i a cs
    obtain ⟨v, w, rfl, r1, tp, ys, rfl, hT, r3⟩ := rep2 rr
    obtain ⟨a', C, e1, rfl, hp, hC, h2⟩ := onExc_inv h
    obtain ⟨us', e2, b, e3, h3⟩ := onSome_inv h2
    obtain ⟨o, g1, rfl⟩ := rw.vis _ _ e1
    exact call_isVT hC pins s σ H _ us Q I r ⟨a', tp, ys, us', b, by rw [show v = V.ref a' from r1], g1, hT.2 hp, clsVs_rep r3 e2, e3, k (.bl b) W P _ H .refl rfl rw h3⟩
  · rename_i a c _
    obtain ⟨v, w, rfl, r1, r2⟩ := rep2 rr
    obtain ⟨a', C, e1, rfl, hC, h2⟩ := onExc_inv h
    obtain ⟨u, e2, b, e3, h3⟩ := onSome_inv h2
    obtain ⟨o, g1, rfl⟩ := rw.vis _ _ e1
    exact call_isV hC pins s σ H _ us Q I r ⟨a', w, u, b, by rw [show v = V.ref a' from r1], g1, clsD_rep r2 e2, e3, k (.bl b) W P _ H .refl rfl rw h3⟩
  · exact h.elim
/-- the clause's class catches the class C -/
theorem exm_by {K : PySem.W.Frag} {C G : Addr} (h1 : PySem.W.subIn K (.ref G) (.type "BaseException") = some true) (h2 : PySem.W.isClsIn K G = true) (h3 : PySem.W.typeIn K (.ref G) = some (.type "type")) (h4 : PySem.W.subIn K (.ref C) (.ref G) = some true) :
    PySem.W.exmOne K (.ref C) (.ref G) = some true := by
  unfold PySem.W.exmOne PySem.W.kitCls
  unfold PySem.W.isClsIn at h2
  simp [h1, h3, h4, h2]
theorem bb_ValueError : bootBuiltins "ValueError" = some (.type "ValueError") := by decide +kernel
end DL

namespace DL
open PySem L2
/-! ### dict displays -/
def dPairs : List (TED × TED) → Sd → Wd → (List (D × D) → Wd → Prop) → Prop
  | [], _, W, q => q [] W
  | (tk, tv) :: r, δ, W, q => tk δ W fun k W1 => tv δ W1 fun v W2 => dPairs r δ W2 fun ps W3 => q ((k, v) :: ps) W3
theorem rd_pairs0 {δ : Sd} {W : Wd} {q : List (D × D) → Wd → Prop} : dPairs [] δ W q = q [] W := rfl
theorem rd_pairs1 {tk tv : TED} {r : List (TED × TED)} {δ : Sd} {W : Wd} {q : List (D × D) → Wd → Prop} : dPairs ((tk, tv) :: r) δ W q = tk δ W fun k W1 => tv δ W1 fun v W2 => dPairs r δ W2 fun ps W3 => q ((k, v) :: ps) W3 := rfl
def keysK : List (D × D) → Option (List (Key × D))
  | [] => some []
  | (k, v) :: r => match keyK k, keysK r with
    | some x, some xs => some ((x, v) :: xs)
    | _, _ => none
def mergeD (kvs more : List (Key × D)) : List (Key × D) := more.foldl (fun acc kv => setD acc kv.1 kv.2) kvs
def dDisp (trs : List (TED × TED)) : TED := fun δ W q => ∀ p, W.hp p = none → W.hid p = none → dPairs trs δ (W.put p (.dK [])) fun ps W2 => W2.hp p = some (.dK []) ∧ onSome (keysK ps) fun kvs => kvs.length ≤ 15 ∧ q (.ref p) (W2.put p (.dK (mergeD [] kvs)))
theorem rd_disp {trs : List (TED × TED)} {δ : Sd} {W : Wd} {q : DK} : dDisp trs δ W q = ∀ p, W.hp p = none → W.hid p = none → dPairs trs δ (W.put p (.dK [])) fun ps W2 => W2.hp p = some (.dK []) ∧ onSome (keysK ps) fun kvs => kvs.length ≤ 15 ∧ q (.ref p) (W2.put p (.dK (mergeD [] kvs))) := rfl
def repPs (K : PySem.W.Frag) (H : Hp) : List (D × D) → List (V × V) → Prop
  | [], vs => vs = []
  | p :: ps, vs => ∃ x y r, vs = (x, y) :: r ∧ repV K H p.1 x ∧ repV K H p.2 y ∧ repPs K H ps r
def PPDs (X : Cx) (Ed : WXD) (Ex : WX) (pos : Pos) (keys : List (Option Expr)) (values : List Expr) (trs : List (TED × TED)) : Prop := PPs X pos keys values (trs.map fun t => (upE X.K Ed Ex t.1, upE X.K Ed Ex t.2))
section
variable {X : Cx} {Ed : WXD} {Ex : WX} {pos : Pos} {keys : List (Option Expr)} {values : List Expr} {trs : List (TED × TED)} {k v : Expr} {tk tv : TED}
theorem dpp_nil : PPDs X Ed Ex pos [] [] [] := pps_nil
theorem dpp_cons (hk : PE X k (upE X.K Ed Ex tk)) (hv : PE X v (upE X.K Ed Ex tv)) (hr : PPDs X Ed Ex pos keys values trs) : PPDs X Ed Ex pos (some k :: keys) (v :: values) ((tk, tv) :: trs) := pps_cons hk hv hr
theorem up_pairs {K : PySem.W.Frag} : ∀ {trs : List (TED × TED)} {σ : St} {H : Hp} {Q : List (V × V) → Hp → Prop} {δ : Sd} {W : Wd} {P : Addr → Dh} {q : List (D × D) → Wd → Prop}, RepS K H δ σ → RepW K W P H → XArr K W P H Ed Ex → dPairs trs δ W q →
    (∀ ps W' P' vs H', Step K W P H W' P' H' → repPs K H' ps vs → RepW K W' P' H' → q ps W' → Q vs H') → tPairs (trs.map fun t => (upE K Ed Ex t.1, upE K Ed Ex t.2)) σ H Q
  | [], _, _, _, _, _, _, _, _, rw, _, h, k => k [] _ _ _ _ .refl rfl rw h
  | (tk, tv) :: r, σ, H, Q, δ, W, P, q, rs, rw, x, h, k => by
    refine ⟨δ, W, P, _, rs, rw, x, h, fun d1 W1 P1 v1 H1 s1 r1 rw1 h1 => ?_⟩
    refine ⟨δ, W1, P1, _, rs.step s1, rw1, x.after s1, h1, fun d2 W2 P2 v2 H2 s2 r2 rw2 h2 => ?_⟩
    refine up_pairs (rs.step (s1.trans s2)) rw2 (x.after (s1.trans s2)) h2 fun ps W3 P3 vs H3 s3 r3 rw3 h3 => ?_
    exact k ((d1, d2) :: ps) W3 P3 _ H3 ((s1.trans s2).trans s3) ⟨_, _, _, rfl, repV_step (repV_step r1 s2) s3, repV_step r2 s3, r3⟩ rw3 h3
theorem keysK_rep {K : PySem.W.Frag} {H : Hp} : ∀ {ps : List (D × D)} {vs : List (V × V)} {kvs : List (Key × D)}, repPs K H ps vs → keysK ps = some kvs → ∃ xs : List (Key × V), repKV K H kvs xs ∧ vs = xs.map fun kv => (kV kv.1, kv.2)
  | [], _, _, r, e => by cases e; exact ⟨[], rfl, r⟩
  | p :: ps, _, _, r, e => by
    obtain ⟨x, y, t, rfl, r1, r2, r3⟩ := r
    simp only [keysK] at e
    split at e
    · rename_i k ks e1 e2
      cases e
      obtain ⟨xs, q1, rfl⟩ := keysK_rep r3 e2
      exact ⟨(k, y) :: xs, ⟨_, _, rfl, r2, q1⟩, by rw [keyK_rep r1 e1]; rfl⟩
    · cases e
theorem repKV_merge {K : PySem.W.Frag} {H : Hp} : ∀ {more : List (Key × D)} {xs : List (Key × V)} {kvs : List (Key × D)} {ys : List (Key × V)}, repKV K H more xs → repKV K H kvs ys → repKV K H (mergeD kvs more) (mergeK ys xs)
  | [], _, _, _, r, s => by rw [show _ = [] from r]; exact s
  | p :: more, _, kvs, ys, r, s => by
    obtain ⟨v, t, rfl, r1, r2⟩ := r
    have := repKV_merge (more := more) (xs := t) (kvs := setD kvs p.1 p.2) r2 (repKV_set (k := p.1) r1 s)
    exact this
theorem de_disp (h : PPDs X Ed Ex pos keys values trs) (hall : keys.all (·.isSome) = true := by rfl) (hl : keys.length = values.length := by rfl) (h0 : keys ≠ [] := by intro z; cases z) (h15 : keys.length ≤ 15 := by decide) : PE X (.Dict keys values pos) (upE X.K Ed Ex (dDisp trs)) :=
  (pe_disp h hall hl h0 h15).imp fun σ H Q h p hp => by
  obtain ⟨δ, W, P, q, rs, rw, x, h, k⟩ := h
  obtain ⟨f1, f2, _⟩ := rw.fresh hp
  have sp := Step.put (K := X.K) (W := W) (P := P) (o := .dK []) (d := .dK []) hp
  refine up_pairs (rs.step sp) (rw.put (d := .dK []) hp ⟨[], rfl, rfl⟩) (x.after sp) (h p f1 f2) fun ps W2 P2 vs H2 s2 r2 rw2 h2 => ?_
  obtain ⟨e1, h3⟩ := h2
  obtain ⟨kvs, e2, hz, h4⟩ := onSome_inv h3
  obtain ⟨u, g1, xs, rfl, g2⟩ := rw2.vis _ _ e1
  rw [show xs = [] from g2] at g1
  obtain ⟨ys, q1, rfl⟩ := keysK_rep r2 e2
  have sw := Step.write (K := X.K) (o := .dK (mergeK [] ys)) (d := .dK (mergeD [] kvs)) rw2 e1
  refine ⟨g1, ys, rfl, by rw [← repKV_len q1]; exact hz, ?_⟩
  exact k (.ref p) _ P2 _ _ ((sp.trans s2).trans sw) rfl (rw2.write e1 ⟨_, rfl, repKV_mono sw.tup _ (repKV_merge (kvs := []) (ys := []) q1 rfl)⟩) h4
end
end DL

namespace DL
open PySem L2
/-! ### equations: classes asked of what was caught, dict displays -/
def kStep (o x : Option Bool) : Option Bool := match o with
  | some true => some true
  | some false => x
  | none => none
variable {K : PySem.W.Frag} {t c : Value} {r : List Value} {x : Option Bool}
theorem kAny_nil : PySem.W.kitAny K t [] = some false := rfl
theorem kAny_cons : PySem.W.kitAny K t (c :: r) = kStep (PySem.W.kitOne K t c) (PySem.W.kitAny K t r) := rfl
theorem kStep_t : kStep (some true) x = some true := rfl
theorem kStep_f : kStep (some false) x = x := rfl
def cCons (v : Value) (o : Option (List Value)) : Option (List Value) := match o with
  | some vs => some (v :: vs)
  | none => none
theorem clsDs_nil : clsDs [] = some [] := rfl
theorem clsDs_ref {a : Addr} {ds : List D} : clsDs (.ref a :: ds) = cCons (.ref a) (clsDs ds) := by
  show (match clsD (.ref a), clsDs ds with | some v, some vs => some (v :: vs) | _, _ => none) = _
  cases clsDs ds <;> rfl
theorem clsDs_ty {a : String} {ds : List D} : clsDs (.ty a :: ds) = cCons (.type a) (clsDs ds) := by
  show (match clsD (.ty a), clsDs ds with | some v, some vs => some (v :: vs) | _, _ => none) = _
  cases clsDs ds <;> rfl
theorem cCons_some {v : Value} {vs : List Value} : cCons v (some vs) = some (v :: vs) := rfl
theorem rd_isE1 {a b : Addr} {W : Wd} {q : DK} : isE K [.ref a, .ref b] W q = onExc (W.hp a) fun a' C => a' = a ∧ ExcC K C ∧ ∃ z, PySem.W.kitOne K (.ref C) (.ref b) = some z ∧ q (.bl z) W := rfl
theorem rd_isE2 {a : Addr} {b : String} {W : Wd} {q : DK} : isE K [.ref a, .ty b] W q = onExc (W.hp a) fun a' C => a' = a ∧ ExcC K C ∧ ∃ z, PySem.W.kitOne K (.ref C) (.type b) = some z ∧ q (.bl z) W := rfl
theorem rd_isE3 {a : Addr} {cs : List D} {W : Wd} {q : DK} : isE K [.ref a, .tup cs] W q = onExc (W.hp a) fun a' C => a' = a ∧ pairD cs = true ∧ ExcC K C ∧ onSome (clsDs cs) fun us => ∃ z, PySem.W.kitAny K (.ref C) us = some z ∧ q (.bl z) W := rfl
theorem pairD_ref {a : Addr} {ds : List D} : pairD (.ref a :: ds) = ds.all isRefD := rfl
def kCons (k : Key) (v : D) (o : Option (List (Key × D))) : Option (List (Key × D)) := match o with
  | some xs => some ((k, v) :: xs)
  | none => none
theorem keysK_nil : keysK [] = some [] := rfl
theorem keysK_int {i : Int} {v : D} {r : List (D × D)} : keysK ((.int i, v) :: r) = kCons (.inl i) v (keysK r) := by
  show (match keyK (.int i), keysK r with | some x, some xs => some ((x, v) :: xs) | _, _ => none) = _
  cases keysK r <;> rfl
theorem keysK_str {i : Str} {v : D} {r : List (D × D)} : keysK ((.str i, v) :: r) = kCons (.inr i) v (keysK r) := by
  show (match keyK (.str i), keysK r with | some x, some xs => some ((x, v) :: xs) | _, _ => none) = _
  cases keysK r <;> rfl
theorem kCons_some {k : Key} {v : D} {xs : List (Key × D)} : kCons k v (some xs) = some ((k, v) :: xs) := rfl
theorem mergeD_one {k : Key} {v : D} : mergeD [] [(k, v)] = [(k, v)] := rfl
theorem cx_K {CX : CXT} {P : Program} {w : World} {K : PySem.W.Frag} {mg : Str → Option Value} {base : Heap} {N : List Str} {qual : Str} {sc : Scope} {f : Addr} {cdv : Value} {A : Around} {outer : List Env} {s : Shared} {H : Hp} {E : XK} :
    (cxOf CX P w K mg base N qual sc f cdv A outer s H E).K = K := rfl
/-! ### things of any depth -/
def shownA (W : Wd) (x : D) : Prop := ∀ n, shownN W n x
theorem shownA.mono {W W' : Wd} {x : D} (h : shownA W x) (e : Ext W W') : shownA W' x := fun n => (h n).mono e
theorem shownA.tup {W : Wd} {ds : List D} (h : ∀ d ∈ ds, shownA W d) : shownA W (.tup ds) := fun n => match n with
  | 0 => shown_tup
  | n + 1 => fun d hd => h d hd n
theorem shownA.flat {W : Wd} {x : D} (hx : ∀ ds, x ≠ .tup ds) (h : shown W x) : shownA W x := fun n => by
  cases n with
  | zero => exact h
  | succ n => cases x with
    | tup ds => exact absurd rfl (hx ds)
    | _ => exact h
theorem shownA.int {W : Wd} {i : Int} : shownA W (.int i) := .flat (fun _ h => nomatch h) shown_int
theorem shownA.bl {W : Wd} {i : Bool} : shownA W (.bl i) := .flat (fun _ h => nomatch h) shown_bl
theorem shownA.non {W : Wd} : shownA W .non := .flat (fun _ h => nomatch h) shown_non
theorem shownA.str {W : Wd} {z : Str} (h : Txt z) : shownA W (.str z) := .flat (fun _ h => nomatch h) (shown_str h)
theorem shownA.lst {W : Wd} {a : Addr} {ds : List D} (h : W.hp a = some (.lst ds)) : shownA W (.ref a) := .flat (fun _ h => nomatch h) ⟨⟨"list", by simp [tyNm, h]⟩, fun _ z => nomatch z⟩
theorem shownA.dK {W : Wd} {a : Addr} {ds : List (Key × D)} (h : W.hp a = some (.dK ds)) : shownA W (.ref a) := .flat (fun _ h => nomatch h) ⟨⟨"dict", by simp [tyNm, h]⟩, fun _ z => nomatch z⟩
/-- more cells, nothing else -/
structure Gr (W W' : Wd) : Prop where
  hp : Ext W W'
  hid : W'.hid = W.hid
theorem Gr.refl {W : Wd} : Gr W W := ⟨.refl, rfl⟩
theorem Gr.trans {W W1 W2 : Wd} (a : Gr W W1) (b : Gr W1 W2) : Gr W W2 := ⟨a.hp.trans b.hp, b.hid.trans a.hid⟩
theorem Gr.put {W W1 : Wd} {a : Addr} {o : DO} (g : Gr W W1) (h : W1.hp a = none) : Gr W (W1.put a o) := ⟨g.hp.trans (.put h), g.hid⟩
theorem hset_none_iff {h : Addr → Option HD} {a b : Addr} {φ : HD} : hset h a φ b = none ↔ b ≠ a ∧ h b = none := ⟨hset_none, fun ⟨n, e⟩ => by rw [hset_ne n]; exact e⟩
theorem Gr.hide {W W1 : Wd} {p : Addr} {φ : HD} (g : Gr W W1) : Gr (W.hide p φ) (W1.hide p φ) := ⟨g.hp, by show hset W1.hid p φ = hset W.hid p φ; rw [g.hid]⟩
theorem Gr.sub {W W' : Wd} (g : Gr W W') {φ : Wd → Prop} (h : φ W) : WkQ φ W' := .sub (W' := W) h (fun b o e => g.hp b o e) g.hid.symm
theorem cutD_len {α : Type} {xs : List α} {lo hi : Option Int} : (cutD xs lo hi).length ≤ xs.length := by
  unfold cutD
  rw [List.length_take, List.length_drop]
  omega
theorem cutS_len {z : Str} {lo hi : Option Int} : (cutS z lo hi).length ≤ z.length := by
  rw [← str_len, ← str_len, cutS_cps]
  exact cutD_len
theorem strOk_iff {z : Str} : PyData.strOk z = true ↔ ∀ c ∈ z.cps.toList, PyData.strOk ⟨#[c]⟩ = true := by
  unfold PyData.strOk
  rw [← Array.all_toList, List.all_eq_true]
  constructor
  · intro h c hc
    simpa using h c hc
  · intro h c hc
    simpa using h c hc
theorem strOk_app {a b : Str} (ha : PyData.strOk a = true) (hb : PyData.strOk b = true) : PyData.strOk (a ++ b) = true := by
  rw [strOk_iff] at *
  intro c hc
  rw [app_cps, List.mem_append] at hc
  exact hc.elim (ha c) (hb c)
theorem strOk_cut {z : Str} (h : PyData.strOk z = true) {lo hi : Option Int} : PyData.strOk (cutS z lo hi) = true := by
  rw [strOk_iff] at *
  intro c hc
  rw [cutS_cps, cutD] at hc
  exact h c (List.mem_of_mem_drop (List.mem_of_mem_take hc))
theorem strOk_one {c : Nat} (h : c < 128) : PyData.strOk ⟨#[c]⟩ = true := by
  unfold PyData.strOk
  rw [← Array.all_toList]
  simp
  omega
theorem Word.ok {m : Nat} {z : Str} (h : Word m z) : PyData.strOk z = true := strOk_let h.2.2
theorem txt_lit {z : Str} (h : (decide (z.length ≤ 1000000) && PyData.strOk z) = true) : Txt z := by
  rw [Bool.and_eq_true, decide_eq_true_eq] at h; exact h
end DL

namespace DL
open PySem L2
/-! ### text * int, tuple * int -/
variable {X : Cx}
def dRepS : DR2 := fun x y W q => match x, y with
  | .str a, .int k => a.length ≤ 1000 ∧ 0 ≤ k ∧ k ≤ 1000 ∧ q (.str (Txt.mul a k)) W
  | _, _ => False
theorem mul_ok {a : Str} {k : Int} (h : a.length ≤ 1000) (h0 : 0 ≤ k) (h1 : k ≤ 1000) : MulOk a k := by
  refine ⟨by simp; omega, fun h2 _ => ?_, fun _ _ => ?_⟩
  · have : (1000 : Int) ≤ (2 ^ 63 - 1) / k := by
      rw [Int.le_ediv_iff_mul_le (by omega)]
      have : 1000 * k ≤ 1000 * 1000 := Int.mul_le_mul_of_nonneg_left h1 (by omega)
      omega
    omega
  · have : a.length * k.toNat ≤ 1000 * 1000 := Nat.mul_le_mul h (by omega)
    have hz : (1000000 : Nat) ≤ sizeLine := by decide
    show decide (_ > sizeLine) = false
    rw [decide_eq_false_iff_not]
    omega
theorem dop_repS : DOp X (binaryOp .Mult) dRepS := by
  intro pins s σ H x y v u Q I rx ry h
  obtain ⟨d, e, W, P, q, r1, r2, rw, h, k⟩ := h
  cases d with
  | str a => cases e with
    | int i =>
      obtain ⟨h1, h2, h3, h⟩ := h
      simp only [repV] at r1 r2
      subst r1 r2
      obtain ⟨t, rfl⟩ := rx
      obtain ⟨t', rfl⟩ := ry
      exact SB.mul (mul_ok h1 h2 h3) fun t' tk => ⟨.str (Txt.mul a i), H, I.tok _, ⟨_, rfl⟩, k (.str (Txt.mul a i)) _ _ _ _ .refl rfl rw h⟩
    | _ => exact h.elim
  | _ => cases e <;> exact h.elim
def dRepT : DR2 := fun x y W q => match x, y with
  | .tup ds, .int k => ds ≠ [] ∧ 2 ≤ k ∧ k ≤ 1000 ∧ ds.length ≤ 1000 ∧ q (.tup (List.replicate k.toNat ds).flatten) W
  | _, _ => False
theorem dop_repT : DOp X (binaryOp .Mult) dRepT := op_repT.imp fun x y H Q h => by
  obtain ⟨d, e, W, P, q, r1, r2, rw, h, k⟩ := h
  cases d with
  | tup ds => cases e with
    | int i =>
      obtain ⟨h1, h2, h3, h4, h⟩ := h
      simp only [repV] at r2
      subst r2
      obtain ⟨a, xs, rfl, s, r⟩ := r1
      refine ⟨a, i, xs, rfl, rfl, s.1, ?_, h2, h3, by rw [← repVs_len r]; exact h4, arr_newTup k (repVs_rep r _) rw h⟩
      rintro rfl
      exact h1 (List.length_eq_zero_iff.mp (repVs_len r))
    | _ => exact h.elim
  | _ => cases e <;> exact h.elim
theorem mem_cut {α : Type} {xs : List α} {lo hi : Option Int} {d : α} (h : d ∈ cutD xs lo hi) : d ∈ xs := List.mem_of_mem_drop (List.mem_of_mem_take h)
theorem kd_inj {k j : KindR} (h : k.d = j.d) : k = j := by
  obtain ⟨a, b, c, d, e⟩ := k
  obtain ⟨a', b', c', d', e'⟩ := j
  simp only [KindR.d, D.tup.injEq, List.cons.injEq, D.str.injEq, D.int.injEq] at h
  obtain ⟨rfl, rfl, rfl, rfl, rfl, _⟩ := h
  rfl
theorem kds_inj : ∀ {ks js : List KindR}, ks.map KindR.d = js.map KindR.d → ks = js
  | [], [], _ => rfl
  | [], _ :: _, h => by cases h
  | _ :: _, [], h => by cases h
  | k :: ks, j :: js, h => by
    rw [List.map_cons, List.map_cons, List.cons.injEq] at h
    rw [kd_inj h.1, kds_inj h.2]
theorem rv_repS {a : Str} {k : Int} {W : Wd} {q : DK} : dRepS (.str a) (.int k) W q = (a.length ≤ 1000 ∧ 0 ≤ k ∧ k ≤ 1000 ∧ q (.str (Txt.mul a k)) W) := rfl
theorem rv_repT {ds : List D} {k : Int} {W : Wd} {q : DK} : dRepT (.tup ds) (.int k) W q = (ds ≠ [] ∧ 2 ≤ k ∧ k ≤ 1000 ∧ ds.length ≤ 1000 ∧ q (.tup (List.replicate k.toNat ds).flatten) W) := rfl
end DL

namespace DL
open PySem L2
section
open PySem.SeqAt PySem.AutoSeq1
/-! ### a dict == a text; .. == [] -/
theorem str_eq_declines_dict (b : Str) (u : Tok) (l : Addr) (c : Value) (es : Array DictEntry) (n : Nat) (dd : Option Addr) (sl : Array (Option Value)) :
    Meets (Builtin.«str.__eq__» ⟨[.str b u, .ref l], []⟩) (fun _ R s => s.heap.get? l = some { cls := c, dict := dd, data := .dict es n, slots := sl } ∧ R (.ok (.ret .notImplemented)) s) :=
  .of_wp fun prog w A R s h => by obtain ⟨hp, g, d, tk, os⟩ := s; obtain ⟨hl, h⟩ := h; wp_walk using wpAny_loadPart' hl, wpAny_load hl; exact ⟨_, rfl, h⟩
theorem rcAt_dict_str {A : Around} {s : Shared} {a : Addr} {es : Array DictEntry} {n : Nat} {sl : Array (Option Value)} {dd : Option Addr} (y : Str) (u : Tok) (ho : s.heap.get? a = some { cls := .type "dict", dict := dd, data := .dict es n, slots := sl }) (hu : A.units < cLine) : RcAt A s (.ref a) (.str y u) false := fun prog w E Q h => by
  have ti : s.TypeIs (.ref a) "dict" := ⟨_, ho, rfl⟩
  refine rc_eq_decline_or (k := false) ti (typeIs_str s y u) (by decide) F.sub_str_dict F.slot_dict_eq F.slot_str_eq_refl
    (fun _ hq => ?_) (fun _ hq => call_meets F.slot_str_eq_refl (typeIs_str s y u) F.entry_str_eq (F.args_str_eq_2 _ _) (str_eq_declines_dict y u a (.type "dict") es n dd sl) ⟨ho, hq⟩)
    (fun _ hq => wpAny_of_eq (rfl : isSame (.ref a) (.str y u) = pure false) hq) (.inr hu) h
  refine wpAny_call_entry PySem.F.slot_dict_eq ti PySem.F.entry_dict_eq ?_ (PySem.F.args_dict_eq_2 _ _)
  show wpAny _ _ (Builtin.Dict.dictSlotArgs "__eq__" ⟨[.ref a, .str y u], []⟩ >>= _) _ _ s
  refine wpAny_bind ?_
  unfold Builtin.Dict.dictSlotArgs
  refine wpAny_bind (wpAny_notOrdered_dict ti ?_)
  show wpAny _ _ (pure (Value.ref a, Value.str y u)) _ _ s
  refine wpAny_pure ?_
  refine wpAny_bind (wpAny_isInstance (T := "str") (typeIs_str s y u) PySem.F.sub_str_dict ?_)
  show wpAny _ _ (if (!false) = true then _ else _) _ _ _
  rw [if_pos (by decide)]
  refine wpAny_bind (wpAny_rule ?_)
  show wpAny _ _ (pure _) _ _ _
  exact wpAny_pure ⟨_, rfl, hq⟩
end
variable {X : Cx}
def rEqNil : DRM D := fun ds es W q => es = [] ∧ q (.bl (decide (ds = []))) W
def rNeNil : DRM D := fun ds es W q => es = [] ∧ q (.bl (!decide (ds = []))) W
theorem dop_eqNil (hu : X.A.units + 64 < cLine) : OpR X (compareOp .Eq) (upMM X.K rEqNil) := by
  intro pins s σ H x y v u Q I rx ry h
  obtain ⟨a, c, xs, ys, ds, es, W, P, q, rfl, rfl, ha, hc, r1, r2, rw, ⟨rfl, h⟩, k⟩ := h
  cases rx
  cases ry
  rw [show ys = [] from r2] at hc
  obtain ⟨z, its, n, r, hl, e⟩ := I.lstM ha
  obtain ⟨z2, its2, n2, rr, hl2, e2⟩ := I.lstM hc
  have l3 := repVs_len r1
  have fin : EP X pins σ Q (.bool (decide (ds = []))) s := ⟨.bl _, H, I, rfl, k (.bl _) _ _ _ _ .refl rfl rw h⟩
  have e0 : its2 = [] := List.length_eq_zero_iff.mp hl2.symm
  subst e0
  cases its with
  | nil =>
    have : ds = [] := List.length_eq_zero_iff.mp (by rw [l3, hl]; rfl)
    rw [decide_eq_true this] at fin
    exact SeqAt.RcAt.lists (e := fun _ => true) ⟨_, e, rfl, _, rfl⟩ ⟨_, e2, rfl, _, rfl⟩ rfl (by omega) (fun j h1 _ => absurd h1 (by simp)) _ _ _ _ fin
  | cons z its =>
    have : ds ≠ [] := by rintro rfl; rw [hl] at l3; cases l3
    rw [decide_eq_false this] at fin
    exact SeqAt.RcAt.lists_lengths ⟨_, e, rfl, _, rfl⟩ ⟨_, e2, rfl, _, rfl⟩ (by simp) (by omega) _ _ _ _ fin
theorem dop_neNil (hu : X.A.units + 64 < cLine) : OpR X (compareOp .NotEq) (upMM X.K rNeNil) := by
  intro pins s σ H x y v u Q I rx ry h
  obtain ⟨a, c, xs, ys, ds, es, W, P, q, rfl, rfl, ha, hc, r1, r2, rw, ⟨rfl, h⟩, k⟩ := h
  cases rx
  cases ry
  rw [show ys = [] from r2] at hc
  obtain ⟨z, its, n, r, hl, e⟩ := I.lstM ha
  obtain ⟨z2, its2, n2, rr, hl2, e2⟩ := I.lstM hc
  have l3 := repVs_len r1
  have fin : EP X pins σ Q (.bool (!decide (ds = []))) s := ⟨.bl _, H, I, rfl, k (.bl _) _ _ _ _ .refl rfl rw h⟩
  have e0 : its2 = [] := List.length_eq_zero_iff.mp hl2.symm
  subst e0
  cases its with
  | nil =>
    have : ds = [] := List.length_eq_zero_iff.mp (by rw [l3, hl]; rfl)
    rw [decide_eq_true this] at fin
    exact SeqAt.RcNeAt.lists (e := fun _ => true) ⟨_, e, rfl, _, rfl⟩ ⟨_, e2, rfl, _, rfl⟩ rfl (by omega) (fun j h1 _ => absurd h1 (by simp)) _ _ _ _ fin
  | cons z its =>
    have : ds ≠ [] := by rintro rfl; rw [hl] at l3; cases l3
    rw [decide_eq_false this] at fin
    exact SeqAt.RcNeAt.lists_lengths ⟨_, e, rfl, _, rfl⟩ ⟨_, e2, rfl, _, rfl⟩ (by simp) (by omega) _ _ _ _ fin
theorem rv_eqNil {ds : List D} {W : Wd} {q : DK} : rEqNil ds [] W q = q (.bl (decide (ds = []))) W := by simp [rEqNil]
theorem rv_neNil {ds : List D} {W : Wd} {q : DK} : rNeNil ds [] W q = q (.bl (!decide (ds = []))) W := by simp [rNeNil]
/-- == where a dict may stand at the left, a text at the right -/
def isDk : Option DO → Bool
  | some (.dK _) => true
  | _ => false
def dEqX : DR2 := fun x y W q => match x, y with
  | .ref a, .str _ => isDk (W.hp a) = true ∧ q (.bl false) W
  | x, y => dEq x y W q
theorem dop_eqX (hu : X.A.units + 64 < cLine) : DOp X (compareOp .Eq) dEqX := by
  intro pins s σ H x y v u Q I rx ry h
  obtain ⟨d, e, W, P, q, r1, r2, rw, h, k⟩ := h
  by_cases c : ∃ a z, d = .ref a ∧ e = .str z
  · obtain ⟨a, z, rfl, rfl⟩ := c
    obtain ⟨h1, h⟩ := h
    simp only [repV] at r1 r2
    subst r1 r2
    cases rx
    obtain ⟨t, rfl⟩ := ry
    have fin : EP X pins σ Q (.bool false) s := ⟨.bl _, H, I, rfl, k (.bl _) _ _ _ _ .refl rfl rw h⟩
    cases ed : W.hp a with
    | none => rw [ed] at h1; cases h1
    | some o => cases o with
      | dK kvs =>
        obtain ⟨_, e1, xs, rfl, _⟩ := rw.vis _ _ ed
        obtain ⟨_, _, vs, _, ⟨cls, dd, data, sl⟩, es, ep, ho, ⟨hx1, _, _⟩, hdt, _⟩ := dk_rd I.hok (.inl e1)
        simp only at hx1 hdt
        subst hx1 hdt
        exact rcAt_dict_str z t ho (by omega) _ _ _ _ fin
      | _ => rw [ed] at h1; cases h1
  · exact dop_eq hu pins s σ H x y v u Q I rx ry ⟨d, e, W, P, q, r1, r2, rw, by
      cases d with
      | ref a => cases e with
        | str z => exact absurd ⟨a, z, rfl, rfl⟩ c
        | _ => exact h
      | _ => exact h, k⟩
/-- things that may be compared with a text -/
def cmpE (W : Wd) (x : D) : Prop := plainD 60 x = true ∨ ∃ a kvs, x = .ref a ∧ W.hp a = some (.dK kvs)
def isS (x : D) (z : Str) : Bool := match x with
  | .str y => decide (y = z)
  | _ => false
theorem rv_eqX {x : D} {z : Str} {W : Wd} {q : DK} (h : cmpE W x) (hz : PyData.strOk z = true) (k : q (.bl (isS x z)) W) : dEqX x (.str z) W q := by
  rcases h with h | ⟨a, kvs, rfl, e⟩
  · cases x with
    | ref a => cases h
    | ty t => cases h
    | str y => exact k
    | tup ds =>
      show dEq _ _ _ _
      obtain ⟨p, e1, c1, c2⟩ := pyIn_plain (rf := rfD W.hp deepN) 60 _ h
      have e2 : pyIn (rfD W.hp deepN) (.str z) = some (.str z) := rfl
      have s1 : SeqAt.shaped p = true := by unfold SeqAt.shaped; rw [c1]; simp; omega
      have s2 : SeqAt.shaped (.str z) = true := by unfold SeqAt.shaped PyData.canLay0 PyData.depth; rw [hz]; decide
      unfold dEq
      rw [eqB_of e1 e2 s1 s2]
      have : ∃ ps, p = .tuple ps := by
        simp only [pyIn] at e1
        split at e1
        · cases e1; exact ⟨_, rfl⟩
        · cases e1
      obtain ⟨ps, rfl⟩ := this
      exact k
    | non =>
      show dEq _ _ _ _
      unfold dEq
      rw [eqB_of (p := .none) (e := .str z) rfl rfl (by decide) (by unfold SeqAt.shaped PyData.canLay0 PyData.depth; rw [hz]; decide)]
      exact k
    | bl b =>
      show dEq _ _ _ _
      unfold dEq
      rw [eqB_of (p := .bool b) (e := .str z) rfl rfl rfl (by unfold SeqAt.shaped PyData.canLay0 PyData.depth; rw [hz]; decide)]
      exact k
    | int i =>
      show dEq _ _ _ _
      unfold dEq
      rw [eqB_of (p := .int i) (e := .str z) rfl rfl rfl (by unfold SeqAt.shaped PyData.canLay0 PyData.depth; rw [hz]; decide)]
      exact k
  · exact ⟨by rw [e]; rfl, k⟩
end DL

namespace DL
open PySem L2
/-! ### results, answers -/
def isResD (x : D) : Bool := match x with
  | .tup [h] => isS h "again"
  | .tup [h, v] => if isS h "value" = true then isNumD v (-4000000000000000000) 4000000000000000000 else isS h "fault" && isLetD v 12
  | _ => false
def areResD (many : Int) (x : D) : Bool := match x with
  | .tup ds => decide ((ds.length : Int) = many) && ds.all isResD
  | _ => false
def isAnsD (many : Int) (x : D) : Bool := match x with
  | .tup [h] => isS h "full"
  | .tup [h, v] => if isS h "list" = true then areResD many v else isS h "whole" && isLetD v 12
  | _ => false
/-- things that may be asked whether they are answers -/
def goodN (W : Wd) : Nat → D → Prop
  | n + 1, .tup ds => (n ≠ 1 → ∀ d, ds.head? = some d → cmpE W d) ∧ ds.length ≤ 1000 ∧ ∀ d ∈ ds, goodN W n d
  | _, x => shown W x
theorem goodN.top {W : Wd} {x : D} : ∀ {n : Nat}, goodN W n x → shown W x
  | 0, h => h
  | n + 1, h => by
    cases x with
    | tup ds => exact shown_tup
    | _ => exact h
theorem cmpE.mono {W W' : Wd} {x : D} (h : cmpE W x) (e : Ext W W') : cmpE W' x := by
  rcases h with h | ⟨a, kvs, rfl, h⟩
  · exact .inl h
  · exact .inr ⟨a, kvs, rfl, e _ _ h⟩
theorem goodN.mono {W W' : Wd} (e : Ext W W') : ∀ {n : Nat} {x : D}, goodN W n x → goodN W' n x
  | 0, x, h => shown.mono e h
  | n + 1, x, h => by
    cases x with
    | tup ds => exact ⟨fun c d hd => (h.1 c d hd).mono e, h.2.1, fun d hd => goodN.mono e (h.2.2 d hd)⟩
    | _ => exact shown.mono e h
end DL

namespace DL
open PySem L2
/-- more cells, the law's state anew -/
theorem Gr.re {W W1 : Wd} {p : Addr} {φ ψ : HD} (g : Gr (W.hide p φ) W1) : Gr (W.hide p ψ) (W1.hide p ψ) := ⟨g.hp, by show hset W1.hid p ψ = hset W.hid p ψ; rw [g.hid]; exact hset_hset⟩
theorem isRes1 {h : D} : isResD (.tup [h]) = isS h "again" := rfl
theorem isRes2 {h v : D} : isResD (.tup [h, v]) = if isS h "value" = true then isNumD v (-4000000000000000000) 4000000000000000000 else isS h "fault" && isLetD v 12 := rfl
theorem isRes3 {a b c : D} {r : List D} : isResD (.tup (a :: b :: c :: r)) = false := rfl
theorem isAns1 {m : Int} {h : D} : isAnsD m (.tup [h]) = isS h "full" := rfl
theorem isAns2 {m : Int} {h v : D} : isAnsD m (.tup [h, v]) = if isS h "list" = true then areResD m v else isS h "whole" && isLetD v 12 := rfl
theorem isAns3 {m : Int} {a b c : D} {r : List D} : isAnsD m (.tup (a :: b :: c :: r)) = false := rfl
theorem isS_str {z y : Str} : isS (.str z) y = decide (z = y) := rfl
/-- results, answers as a doer gives them -/
def ResOk (x : D) : Prop := x = .tup [.str "again"] ∨ (∃ z, Word 12 z ∧ x = .tup [.str "fault", .str z]) ∨ ∃ i : Int, -4000000000000000000 ≤ i ∧ i ≤ 4000000000000000000 ∧ x = .tup [.str "value", .int i]
def AnsOk (m : Nat) (x : D) : Prop := x = .tup [.str "full"] ∨ (∃ z, Word 12 z ∧ x = .tup [.str "whole", .str z]) ∨ ∃ rs : List D, (∀ r ∈ rs, ResOk r) ∧ rs.length = m ∧ x = .tup [.str "list", .tup rs]
theorem wordLet {m : Nat} {z : Str} (h : Word m z) {k : Int} (hk : (m : Int) ≤ k) : isLetD (.str z) k = true := h.is hk
theorem resOk_iff {x : D} : isResD x = true ↔ ResOk x := by
  constructor
  · intro h
    unfold isResD at h
    split at h
    · rename_i a
      cases a <;> simp [isS] at h
      subst h
      exact .inl rfl
    · rename_i a v
      cases a <;> simp [isS] at h
      split at h
      · rename_i e
        subst e
        cases v <;> simp [isNumD] at h
        exact .inr (.inr ⟨_, h.1, h.2, rfl⟩)
      · obtain ⟨rfl, h⟩ := h
        cases v <;> simp only [isLetD] at h
        all_goals first | (exact absurd h (by decide)) | skip
        simp only [isLetS, Bool.and_eq_true, decide_eq_true_eq] at h
        exact .inr (.inl ⟨_, ⟨by omega, by omega, h.2⟩, rfl⟩)
    · cases h
  · rintro (rfl | ⟨z, hz, rfl⟩ | ⟨i, h1, h2, rfl⟩)
    · rfl
    · rw [isRes2, isS_str, isS_str, decide_eq_false (by decide), decide_eq_true rfl, wordLet hz (by decide)]; rfl
    · rw [isRes2, isS_str, decide_eq_true rfl]
      simp [isNumD, h1, h2]
theorem ansOk_iff {m : Nat} {x : D} : isAnsD m x = true ↔ AnsOk m x := by
  constructor
  · intro h
    unfold isAnsD at h
    split at h
    · rename_i a
      cases a <;> simp [isS] at h
      subst h
      exact .inl rfl
    · rename_i a v
      cases a <;> simp [isS] at h
      split at h
      · rename_i e
        subst e
        cases v <;> simp [areResD] at h
        exact .inr (.inr ⟨_, fun r hr => resOk_iff.mp (h.2 r hr), by omega, rfl⟩)
      · obtain ⟨rfl, h⟩ := h
        cases v <;> simp only [isLetD] at h
        all_goals first | (exact absurd h (by decide)) | skip
        simp only [isLetS, Bool.and_eq_true, decide_eq_true_eq] at h
        exact .inr (.inl ⟨_, ⟨by omega, by omega, h.2⟩, rfl⟩)
    · cases h
  · rintro (rfl | ⟨z, hz, rfl⟩ | ⟨rs, h1, h2, rfl⟩)
    · rfl
    · rw [isAns2, isS_str, isS_str, decide_eq_false (by decide), decide_eq_true rfl, wordLet hz (by decide)]; rfl
    · rw [isAns2, isS_str, decide_eq_true rfl, if_pos rfl, areResD, h2, decide_eq_true rfl, Bool.true_and, List.all_eq_true]
      exact fun r hr => resOk_iff.mpr (h1 r hr)
theorem good0 {W : Wd} {x : D} : goodN W 0 x = shown W x := by cases x <;> rfl
theorem good_flat {W : Wd} {n : Nat} {x : D} (hx : ∀ ds, x ≠ .tup ds) (h : shown W x) : goodN W n x := by
  cases n with
  | zero => rw [good0]; exact h
  | succ n => cases x with
    | tup ds => exact absurd rfl (hx ds)
    | _ => exact h
theorem good_str {W : Wd} {n : Nat} {z : Str} (h : Txt z) : goodN W n (.str z) := good_flat (fun _ h => nomatch h) (shown_str h)
theorem good_int {W : Wd} {n : Nat} {i : Int} : goodN W n (.int i) := good_flat (fun _ h => nomatch h) shown_int
theorem good_bl {W : Wd} {n : Nat} {i : Bool} : goodN W n (.bl i) := good_flat (fun _ h => nomatch h) shown_bl
theorem good_non {W : Wd} {n : Nat} : goodN W n .non := good_flat (fun _ h => nomatch h) shown_non
theorem good_nil {W : Wd} {n : Nat} : goodN W n (.tup []) := by
  cases n with
  | zero => rw [good0]; exact shown_tup
  | succ n => exact ⟨(fun _ _ h => nomatch h), (by simp), (fun _ h => nomatch h)⟩
theorem good_cons {W : Wd} {n : Nat} {d : D} {ds : List D} (h : cmpE W d) (hl : ds.length ≤ 999) (h0 : goodN W n d) (h1 : ∀ e ∈ ds, goodN W n e) : goodN W (n + 1) (.tup (d :: ds)) :=
  ⟨fun _ _ e => (by cases e; exact h), (by rw [List.length_cons]; omega), List.forall_mem_cons.mpr ⟨h0, h1⟩⟩
theorem good_two {W : Wd} {ds : List D} (h : ∀ d ∈ ds, goodN W 1 d) (hl : ds.length ≤ 1000) : goodN W 2 (.tup ds) := ⟨fun c => absurd rfl c, hl, h⟩
theorem good_odd {W : Wd} {n : Nat} {x : D} (h : shownA W x) (ho : (∀ ds, x ≠ .tup ds) ∨ x = .tup [] ∨ x = .tup [.tup []] ∨ x = .tup [.non] ∨ ∃ a, x = .tup [.ref a]) (hd : ∀ a, x = .tup [.ref a] → ∃ kvs, W.hp a = some (.dK kvs)) : goodN W n x := by
  cases n with
  | zero => rw [good0]; exact h 0
  | succ n =>
    rcases ho with ho | rfl | rfl | rfl | ⟨a, rfl⟩
    · exact good_flat ho (h 0)
    · exact good_nil
    · exact good_cons (.inl rfl) (by simp) good_nil (fun _ h => nomatch h)
    · exact good_cons (.inl rfl) (by simp) good_non (fun _ h => nomatch h)
    · obtain ⟨kvs, e⟩ := hd a rfl
      exact good_cons (.inr ⟨a, kvs, rfl, e⟩) (by simp) (good_flat (fun _ h => nomatch h) (h 1 _ (by simp))) (fun _ h => nomatch h)
theorem cmp_str {W : Wd} {z : Str} (h : PyData.strOk z = true) : cmpE W (.str z) := .inl (plain_str h)
theorem ResOk.plain {x : D} (h : ResOk x) : plainD 60 x = true := by
  rcases h with rfl | ⟨z, hz, rfl⟩ | ⟨i, _, _, rfl⟩
  · decide +kernel
  · rw [plain_tup, List.all_cons, List.all_cons, plain_str (by decide +kernel), plain_str hz.ok]; rfl
  · rw [plain_tup, List.all_cons, List.all_cons, plain_str (by decide +kernel), plain_int]; rfl
theorem ResOk.good {W : Wd} {x : D} (h : ResOk x) {n : Nat} : goodN W n x := by
  cases n with
  | zero => rw [good0]; rcases h with rfl | ⟨z, hz, rfl⟩ | ⟨i, _, _, rfl⟩ <;> exact shown_tup
  | succ n =>
    rcases h with rfl | ⟨z, hz, rfl⟩ | ⟨i, _, _, rfl⟩
    · exact good_cons (cmp_str (by decide +kernel)) (by simp) (good_str (txt_lit (by decide +kernel))) (fun _ h => nomatch h)
    · exact good_cons (cmp_str (by decide +kernel)) (by simp) (good_str (txt_lit (by decide +kernel))) (by simp [good_str (hz.txt (by decide))])
    · exact good_cons (cmp_str (by decide +kernel)) (by simp) (good_str (txt_lit (by decide +kernel))) (by simp [good_int])
theorem ress_good {W : Wd} {rs : List D} {n : Nat} (h : ∀ r ∈ rs, ResOk r) (hl : rs.length ≤ 1000) : goodN W n (.tup rs) := by
  cases n with
  | zero => rw [good0]; exact shown_tup
  | succ n => exact ⟨fun _ d hd => .inl (h d (List.mem_of_mem_head? hd)).plain, hl, fun d hd => (h d hd).good⟩
theorem AnsOk.good {W : Wd} {x : D} {m : Nat} (h : AnsOk m x) (hm : m ≤ 1000) {n : Nat} : goodN W n x := by
  cases n with
  | zero => rw [good0]; rcases h with rfl | ⟨z, hz, rfl⟩ | ⟨i, _, _, rfl⟩ <;> exact shown_tup
  | succ n =>
    rcases h with rfl | ⟨z, hz, rfl⟩ | ⟨rs, h1, h2, rfl⟩
    · exact good_cons (cmp_str (by decide +kernel)) (by simp) (good_str (txt_lit (by decide +kernel))) (fun _ h => nomatch h)
    · exact good_cons (cmp_str (by decide +kernel)) (by simp) (good_str (txt_lit (by decide +kernel))) (by simp [good_str (hz.txt (by decide))])
    · exact good_cons (cmp_str (by decide +kernel)) (by simp) (good_str (txt_lit (by decide +kernel))) (by intro e he; rw [List.mem_singleton] at he; subst he; exact ress_good h1 (by omega))
theorem AnsOk.tup {x : D} {m : Nat} (h : AnsOk m x) : ∃ es, x = .tup es ∧ es.all (plainD 60) = true := by
  rcases h with rfl | ⟨z, hz, rfl⟩ | ⟨rs, h1, h2, rfl⟩
  · exact ⟨_, rfl, by decide +kernel⟩
  · exact ⟨_, rfl, by rw [List.all_cons, List.all_cons, plain_str (by decide +kernel), plain_str hz.ok]; rfl⟩
  · refine ⟨_, rfl, ?_⟩
    rw [List.all_cons, List.all_cons, plain_str (by decide +kernel), plain_tup, List.all_nil, Bool.true_and, Bool.and_true, List.all_eq_true]
    intro d hd
    rcases h1 d hd with rfl | ⟨z, hz, rfl⟩ | ⟨i, _, _, rfl⟩
    · decide +kernel
    · rw [plain_tup, List.all_cons, List.all_cons, plain_str (by decide +kernel), plain_str hz.ok]; rfl
    · rw [plain_tup, List.all_cons, List.all_cons, plain_str (by decide +kernel), plain_int]; rfl
end DL

namespace DL
open PySem L2 PySem.Spec PyProof.Rows SrtO
/-! ### rows of ints by their order -/
def lexI : List Int → List Int → Bool
  | [], [] => false
  | [], _ :: _ => true
  | _ :: _, [] => false
  | x :: xs, y :: ys => if x = y then lexI xs ys else decide (x < y)
theorem lexI_self : ∀ a : List Int, lexI a a = false
  | [] => rfl
  | x :: a => by rw [lexI, if_pos rfl]; exact lexI_self a
theorem lexI_asym : ∀ a b : List Int, lexI a b = true → lexI b a = false
  | [], [], h => by cases h
  | [], _ :: _, _ => rfl
  | _ :: _, [], h => by cases h
  | x :: a, y :: b, h => by
    rw [lexI] at h ⊢
    split at h
    · rename_i e
      rw [if_pos e.symm]
      exact lexI_asym a b h
    · rename_i e
      rw [if_neg (Ne.symm e)]
      rw [decide_eq_true_eq] at h
      rw [decide_eq_false_iff_not]
      omega
theorem lexI_tr : ∀ x y z : List Int, lexI y x = false → lexI z y = false → lexI z x = false
  | [], _, [], _, _ => rfl
  | [], _, _ :: _, _, _ => rfl
  | _ :: _, [], _, h, _ => by cases h
  | _ :: _, _ :: _, [], _, h => by cases h
  | a :: x, b :: y, c :: z, h1, h2 => by
    rw [lexI] at h1 h2 ⊢
    split at h1
    · rename_i e1
      subst e1
      split at h2
      · rename_i e2
        subst e2
        rw [if_pos rfl]
        exact lexI_tr x y z h1 h2
      · rename_i e2
        rw [if_neg e2]
        exact h2
    · rename_i e1
      rw [decide_eq_false_iff_not] at h1
      split at h2
      · rename_i e2
        subst e2
        rw [if_neg e1, decide_eq_false_iff_not]
        exact h1
      · rename_i e2
        rw [decide_eq_false_iff_not] at h2
        have e3 : ¬ c = a := by omega
        rw [if_neg e3, decide_eq_false_iff_not]
        omega
theorem lexI_eq : ∀ a b : List Int, lexI a b = false → lexI b a = false → a = b
  | [], [], _, _ => rfl
  | [], _ :: _, h, _ => by cases h
  | _ :: _, [], _, h => by cases h
  | x :: a, y :: b, h1, h2 => by
    rw [lexI] at h1 h2
    split at h1
    · rename_i e
      subst e
      rw [if_pos rfl] at h2
      rw [lexI_eq a b h1 h2]
    · rename_i e
      rw [if_neg (Ne.symm e)] at h2
      rw [decide_eq_false_iff_not] at h1 h2
      omega
theorem swo_lexI {α : Type} (k : α → List Int) : Swo fun p q : α => lexI (k p) (k q) := ⟨fun x y => lexI_asym _ _, fun x y z => lexI_tr _ _ _⟩
/-! ### tuples that begin with ints -/
def Pre (h : Heap) (v : Value) (ns : List Int) : Prop := ∃ a o its n vs rest, v = .ref a ∧ h.get? a = some o ∧ o.cls = .type "tuple" ∧ o.data = .seq its n ∧ its.toList = vs ++ rest ∧ IntsAre vs ns
section
variable {prog : Program} {w : World} {A : Around} {s : Shared} {vs : List Value}
theorem lex_same {fin : Bool} {Q : Bool → Shared → Prop} (h : Q fin s) : ∀ (l : List Value) (i : Nat), PySem.W.KatLex prog w A true fin Q (l.zip l) i s
  | [], _ => PySem.W.kat_nil h
  | v :: l, i => PySem.W.kat_cons ((SeqAt.EqAt.same v) prog w _ _ (PySem.W.kat_yes (lex_same h l (i + 1))))
theorem lex_pre {fin : Bool} {Q : Bool → Shared → Prop} {r1 r2 : List Value} : ∀ {v1 v2 : List Value} {n1 n2 : List Int} (i : Nat), IntsAre v1 n1 → IntsAre v2 n2 → n1.length = n2.length → n1 ≠ n2 → Q (lexI n1 n2) s → PySem.W.KatLex prog w A true fin Q ((v1 ++ r1).zip (v2 ++ r2)) i s
  | _, _, _, _, _, .nil, .nil, _, ne, _ => absurd rfl ne
  | _, _, _, _, _, .nil, .cons _ _ _, e, _, _ => by cases e
  | _, _, _, _, _, .cons _ _ _, .nil, e, _, _ => by cases e
  | _, _, _, _, i, .cons x t h1, .cons y u h2, e, ne, q => by
    refine PySem.W.kat_cons (SeqAt.EqAt.int_int x t y u prog w _ _ ?_)
    rw [lexI] at q
    refine PySem.W.kat_go (fun e1 => ?_) (fun e1 => ?_)
    · have ex : x = y := by simpa using e1
      rw [if_pos ex] at q
      refine PySem.W.kat_yes (lex_pre (i + 1) h1 h2 (by simpa using e) (fun z => ne (by rw [ex, z])) q)
    · have ex : ¬ x = y := by simpa using e1
      rw [if_neg ex] at q
      exact PySem.W.kat_no (TS.oneLt_ints _ q)
/-- .. of just these ints -/
def PreX (h : Heap) (v : Value) (ns : List Int) : Prop := ∃ a o its n, v = .ref a ∧ h.get? a = some o ∧ o.cls = .type "tuple" ∧ o.data = .seq its n ∧ IntsAre its.toList ns
theorem lex_eqi {fin : Bool} {Q : Bool → Shared → Prop} (h : Q fin s) : ∀ {v1 v2 : List Value} {n : List Int} (i : Nat), IntsAre v1 n → IntsAre v2 n → PySem.W.KatLex prog w A true fin Q (v1.zip v2) i s
  | _, _, _, _, .nil, .nil => PySem.W.kat_nil h
  | _, _, _, i, .cons x t h1, .cons _ u h2 => by
    refine PySem.W.kat_cons (SeqAt.EqAt.int_int x t x u prog w _ _ ?_)
    refine PySem.W.kat_go (fun e1 => PySem.W.kat_yes (lex_eqi h (i + 1) h1 h2)) (fun e1 => ?_)
    simp at e1
theorem pre_cmp {k : Value → List Int} {m : Nat} (hp : ∀ v ∈ vs, Pre s.heap v (k v)) (hl : ∀ v ∈ vs, (k v).length = m) (hd : ∀ v ∈ vs, ∀ u ∈ vs, k v = k u → v = u ∨ (PreX s.heap v (k v) ∧ PreX s.heap u (k u))) :
    Cmp prog w A s (tuples' true) (fun p => p.1 ∈ vs) fun p q => lexI (k p.1) (k q.1) := by
  intro p q hm hm'
  show wpAny (model prog w) A (keyLt' (tuples' true) p.1 q.1) (fun r s' => s' = s ∧ r = lexI (k p.1) (k q.1)) (fun _ _ => False) s
  by_cases c : k p.1 = k q.1
  · rcases hd _ hm _ hm' c with e | ⟨x1, x2⟩
    · obtain ⟨a, o, its, n, us, rest, e1, ho, hc, hdt, _⟩ := hp _ hm
      rw [← e, e1]
      refine PySem.W.kat_lt ho hdt ho hdt (lex_same ⟨rfl, ?_⟩ _ _)
      rw [lexI_self]
      exact decide_eq_false (Nat.lt_irrefl _)
    · obtain ⟨a, o, its, n, e1, ho, hc, hdt, hn⟩ := x1
      obtain ⟨a', o', its', n', e1', ho', hc', hdt', hn'⟩ := x2
      rw [← c] at hn'
      have l1 := hn.length
      have l2 := hn'.length
      rw [Array.length_toList] at l1 l2
      rw [← c, lexI_self, e1, e1']
      refine PySem.W.kat_lt ho hdt ho' hdt' (lex_eqi ⟨rfl, ?_⟩ 0 hn hn')
      exact decide_eq_false (by omega)
  · obtain ⟨a, o, its, n, us, rest, e1, ho, hc, hdt, hi, hn⟩ := hp _ hm
    obtain ⟨a', o', its', n', us', rest', e1', ho', hc', hdt', hi', hn'⟩ := hp _ hm'
    have hlen := (hl _ hm).trans (hl _ hm').symm
    rw [e1] at c hn hlen ⊢
    rw [e1'] at c hn' hlen ⊢
    refine PySem.W.kat_lt ho hdt ho' hdt' ?_
    rw [hi, hi']
    exact lex_pre 0 hn hn' hlen c ⟨rfl, rfl⟩
theorem firsts_pre {h : Heap} {k : Value → List Int} : ∀ {vs : List Value}, (∀ v ∈ vs, Pre h v (k v) ∧ 1 ≤ (k v).length) → ∃ fs : List Value, PySem.W.KatTups h vs fs ∧ fs.length = vs.length ∧ ∀ f ∈ fs, ∃ x t, f = Value.int x t
  | [], hp => ⟨[], PySem.W.KatTups.nil, rfl, fun _ hm => by simp at hm⟩
  | v :: vs, hp => by
    obtain ⟨fs, h1, h2, h3⟩ := firsts_pre (vs := vs) fun v' hm => hp v' (List.mem_cons_of_mem _ hm)
    obtain ⟨⟨a, o, its, n, us, rest, e, ho, hc, hd, hi, hn⟩, hl⟩ := hp v (List.mem_cons_self ..)
    subst e
    generalize k (.ref a) = ks at hn hl
    cases hn with
    | nil => simp at hl
    | cons x t hn' =>
      refine ⟨.int x t :: fs, PySem.W.KatTups.cons ho hc hd ?_ h1, by rw [List.length_cons, List.length_cons, h2], fun f hm => ?_⟩
      · rw [← Array.getElem?_toList, hi]; rfl
      · rcases List.mem_cons.mp hm with rfl | hm
        · exact ⟨x, t, rfl⟩
        · exact h3 f hm
theorem pre_kind {k : Value → List Int} (h0 : 0 < vs.length) (hp : ∀ v ∈ vs, Pre s.heap v (k v) ∧ 1 ≤ (k v).length) {Q : SortKind → Shared → Prop} {E : Value → Shared → Prop} (h : Q (tuples' true) s) : wpAny (model prog w) A (keyKind' vs.toArray) Q E s := by
  obtain ⟨fs, h1, h2, h3⟩ := firsts_pre hp
  refine PySem.W.kat_kind (T := .type "int") h1 (by omega) (fun f hm => ?_) (by rfl) ?_
  · obtain ⟨x, t, rfl⟩ := h3 f hm
    exact PySem.W.Looks.now
  · have e : (Value.type "int" != Value.type "tuple") = true := by first | decide +kernel | rfl | decide
    rw [e]
    exact h
end
/-! ### an untracked object of ours is written, tracked -/
section
variable {X : Cx} {pins : List (Addr × Obj)} {σ : L2.St} {H : Hp} {s : Shared} {a : Addr} {o o' : Obj}
/-- ours: made since the call began, none of the frame's, no pin -/
structure Ours (X : Cx) (pins : List (Addr × Obj)) (H : Hp) (s : Shared) (a : Addr) (o : Obj) : Prop where
  at_ : s.heap.get? a = some o
  un : H a = none
  new : X.s_0.heap.objs.size ≤ a
  loc : a ≠ X.env.locals
  fs : a ∉ X.fs
  pin : ∀ p ∈ X.pn ++ pins, p.1 ≠ a
  cell : ∀ v, o.data ≠ .cell v
theorem Ours.ncell (I : Inv X pins σ H s) (O : Ours X pins H s a o) : ∀ x c, X.env.cells.lookup x = some c → c ≠ a := fun x c e z => by
  obtain ⟨v, o2, h1, h2⟩ := I.cell x c e
  rw [z, O.at_] at h1
  cases h1
  exact O.cell _ h2
theorem Ours.pinned (I : Inv X pins σ H s) (O : Ours X pins H s a o) : Inv X ((a, o) :: pins) σ H s := I.pins_of fun p hp => by
  rcases List.mem_cons.mp hp with rfl | hp
  · exact ⟨O.at_, O.un, O.loc, O.fs, O.cell⟩
  · exact I.pin p (List.mem_append_right _ hp)
theorem ours_track {xs : List V} {its : List Value} {n : Nat} (I : Inv X pins σ H s) (O : Ours X pins H s a { cls := .type "list", data := .seq its.toArray n }) (hv : Vals xs its) (hz : xs.length ≤ sizeLine) : Inv X pins σ (upd H a (.lst xs)) s := by
  have h0 : X.s_0.heap.get? a = none := Heap.get?_none_of_le O.new
  have ne0 : ∀ b o, X.s_0.heap.get? b = some o → b ≠ a := fun b o e z => by rw [z, h0] at e; cases e
  have hn := O.un
  refine ⟨I.ok, I.os, I.bare, ⟨I.base.keep, I.base.slot, fun b o e n x => ?_, I.base.there, fun b xs e => ?_, fun b o u e => ?_, fun b ps e => ?_⟩, I.loc, I.cell, ?_, fun x c e => ?_, fun p hp => ?_, ?_, I.len⟩
  · rw [upd_ne (ne0 b o e)]; exact I.base.free b o e n x
  · have q := I.base.tups b xs e
    rw [upd_ne (ne_of_none q hn)]; exact q
  · have q := I.base.frzs b o u e
    rw [upd_ne (ne_of_none q hn)]; exact q
  · obtain ⟨m, q⟩ := I.base.tbls b ps e
    exact ⟨m, by rw [upd_ne (ne_of_none q hn)]; exact q⟩
  · rw [upd_ne (Ne.symm O.loc)]; exact I.free
  · rw [upd_ne (O.ncell I x c e)]; exact I.freeC x c e
  · obtain ⟨h1, h2, h3⟩ := I.pin p hp
    exact ⟨h1, by rw [upd_ne (O.pin p hp)]; exact h2, h3⟩
  · exact I.hok.laidN (fun _ _ q => q) hn ⟨hz, its, n, hv, O.at_⟩
theorem ours_write {t' : Nat} (I : Inv X pins σ H s) (O : Ours X pins H s a o) {f : Obj → Obj} (e : (s.heap.update a f).get? a = some o') (hc : ∀ v, o'.data ≠ .cell v) :
    Inv X pins σ H { s with heap := s.heap.update a f, toks := t' } ∧ Ours X pins H { s with heap := s.heap.update a f, toks := t' } a o' := by
  have k : ∀ b o, b ≠ a → s.heap.get? b = some o → (s.heap.update a f).get? b = some o := fun b o hb q => (Heap.get?_update_ne _ _ _ _ hb).trans q
  exact ⟨I.turned k O.un O.loc (.inr O.new) (O.ncell I) O.pin, ⟨e, O.un, O.new, O.loc, O.fs, O.pin, hc⟩⟩
theorem ours_at {h' : Heap} {t' : Nat} {o : Obj} (I : Inv X pins σ H s) (k : ∀ b u, s.heap.get? b = some u → h'.get? b = some u) (ha : s.heap.objs.size ≤ a) (e : h'.get? a = some o) (hc : ∀ v, o.data ≠ .cell v) :
    Ours X pins H { s with heap := h', toks := t' } a o :=
  ⟨e, I.hok.fresh ha, Nat.le_trans I.sz ha, Nat.ne_of_gt (Nat.lt_of_lt_of_le I.lt ha), I.nofs ha, fun p hp z => by
    have := Heap.lt_size (I.pin p hp).1
    rw [z] at this
    exact absurd (Nat.lt_of_lt_of_le this ha) (Nat.lt_irrefl _), hc⟩
theorem Ours.kept {h' : Heap} {t' : Nat} (O : Ours X pins H s a o) (k : ∀ b u, s.heap.get? b = some u → h'.get? b = some u) : Ours X pins H { s with heap := h', toks := t' } a o := ⟨k _ _ O.at_, O.un, O.new, O.loc, O.fs, O.pin, O.cell⟩
theorem Ours.after {pins' : List (Addr × Obj)} {σ' : L2.St} {H' : Hp} {s' : Shared} (O : Ours X pins H s a o) (I : Inv X pins' σ' H' s') (hm : (a, o) ∈ pins') : Ours X pins H' s' a o := by
  obtain ⟨h1, h2, _⟩ := I.pin (a, o) (List.mem_append_right _ hm)
  exact ⟨h1, h2, O.new, O.loc, O.fs, O.pin, O.cell⟩
end
/-! ### list.sort(key = f) -/
section
variable {X : Cx} {pins : List (Addr × Obj)} {σ : L2.St} {H : Hp} {s : Shared} {A : Around} {E : Value → Shared → Prop} {a kS : Addr} {e e1 : Nat} {P : PySem.Fin → Shared → Prop} {vs : List Value} {keys : Array Value}
theorem nocell {T : String} {its : Array Value} {n : Nat} : ∀ v, (seqObj T its n).data ≠ .cell v := fun _ h => nomatch h
theorem key_tail {st : SortSt} (I : Inv X pins σ H s) (Oa : Ours X pins H s a (seqObj "list" #[] e1)) (Ok : Ours X pins H s kS (seqObj "list" keys e)) (hka : kS ≠ a) (hz : keys.size ≤ sizeLine) (hz2 : (arrOf st).size ≤ sizeLine) (hfl : failedOf st = none)
    {ys : List V} (hv : Vals ys ((arrOf st).map (·.2)).toList) (h : ∀ s', Inv X pins σ (upd H a (.lst ys)) s' → P (.done (.ret .none)) s') : wpAny (model X.prog X.w) A (ksk_tail a false e1 (.ref kS) st) P E s := by
  unfold ksk_tail
  try dsimp only
  refine wpAny_bind (listUpdate_at Ok.at_ rfl ?_ hz (Nat.zero_le _))
  obtain ⟨c2, e2⟩ : ∃ c2, (s.heap.update kS (Obj.mapSeq fun _ => (#[] : Array Value))).get? kS = some (seqObj "list" #[] c2) := ⟨_, get?_update_seq Ok.at_ (fun _ => #[])⟩
  obtain ⟨I2, _⟩ := ours_write (t' := s.toks) I Ok e2 nocell
  have Oa2 : Ours X pins H { s with heap := s.heap.update kS (Obj.mapSeq fun _ => (#[] : Array Value)), toks := s.toks } a (seqObj "list" #[] e1) := ⟨(Heap.get?_update_ne _ _ _ _ hka.symm).trans Oa.at_, Oa.un, Oa.new, Oa.loc, Oa.fs, Oa.pin, Oa.cell⟩
  refine wpAny_bind (wpAny_letGo ?_)
  refine wpAny_bind (seqEpoch_at Oa2.at_ rfl ?_)
  refine wpAny_bind (listUpdate_at Oa2.at_ rfl ?_ (Nat.zero_le _) (by simp only [Bool.false_eq_true, if_false, Array.size_map]; omega))
  rw [hfl]
  simp only [bne_self_eq_false, Bool.false_eq_true, if_false]
  obtain ⟨c3, e3⟩ : ∃ c3, ((s.heap.update kS (Obj.mapSeq fun _ => (#[] : Array Value))).update a (Obj.mapSeq fun _ => (arrOf st).map (·.2))).get? a = some (seqObj "list" ((arrOf st).map (·.2)) c3) := ⟨_, get?_update_seq Oa2.at_ (fun _ => (arrOf st).map (·.2))⟩
  obtain ⟨I3, O3⟩ := ours_write (t' := s.toks) I2 Oa2 e3 nocell
  refine wpAny_pure (h _ (ours_track (its := ((arrOf st).map (·.2)).toList) (n := c3) I3 (by rw [Array.toArray_toList]; exact O3) hv ?_))
  rw [hv.length, Array.length_toList, Array.size_map]
  exact hz2
theorem key_end {k : Value → List Int} (I : Inv X pins σ H s) (Oa : Ours X pins H s a (seqObj "list" #[] e1)) (Ok : Ours X pins H s kS (seqObj "list" keys e)) (hka : kS ≠ a) (hsz : keys.size = vs.length) (hz : vs.length ≤ sizeLine)
    (hS : 2 ≤ vs.length → ∃ κ, (∀ (Q : SortKind → Shared → Prop) (E : Value → Shared → Prop), Q κ s → wpAny (model X.prog X.w) A (keyKind' keys) Q E s) ∧ Cmp X.prog X.w A s κ (fun p => p.1 ∈ keys.toList) fun p q => lexI (k p.1) (k q.1))
    (h : ∀ ps : List Keyed, ps.Perm (keys.toList.zip vs) → Srtd (fun p q : Keyed => lexI (k p.1) (k q.1)) ps → ∃ ys, Vals ys (ps.map (·.2)) ∧ ∀ s', Inv X pins σ (upd H a (.lst ys)) s' → P (.done (.ret .none)) s') :
    wpAny (model X.prog X.w) A (ksk_end a false vs.toArray e1 (.ref kS) keys) P E s := by
  have hzs : (keys.zip vs.toArray).size = vs.length := by rw [Array.size_zip, hsz, List.size_toArray, Nat.min_self]
  have hzl : (keys.zip vs.toArray).toList = keys.toList.zip vs := ksk_zip keys vs
  unfold ksk_end
  try dsimp only
  simp only [Bool.false_eq_true, if_false]
  by_cases h2 : vs.toArray.size < 2
  · rw [if_pos h2, if_pos h2]
    refine wpAny_bind (wpAny_pure ?_)
    rw [StateT.run_pure]
    refine wpAny_bind (wpAny_pure ?_)
    try dsimp only
    have hs : Srtd (fun p q : Keyed => lexI (k p.1) (k q.1)) (keys.toList.zip vs) := by
      have hl : (keys.toList.zip vs).length < 2 := by rw [← hzl, Array.length_toList, hzs]; simpa using h2
      match keys.toList.zip vs, hl with
      | [], _ => exact List.Pairwise.nil
      | [v], _ => exact List.pairwise_singleton _ _
      | _ :: _ :: l, h => exact absurd h (by rw [List.length_cons, List.length_cons]; omega)
    obtain ⟨ys, hv, hf⟩ := h _ (List.Perm.refl _) hs
    refine key_tail (st := SortSt.mk' general' (keys.zip vs.toArray) #[] 7 none) I Oa Ok hka (by omega) ?_ rfl (ys := ys) ?_ hf
    · show (keys.zip vs.toArray).size ≤ sizeLine
      rw [hzs]; exact hz
    · show Vals ys ((keys.zip vs.toArray).map (·.2)).toList
      rw [Array.toList_map, hzl]; exact hv
  · rw [if_neg h2, if_neg h2]
    rw [List.size_toArray] at h2
    obtain ⟨κ, hk, hc⟩ := hS (by omega)
    refine wpAny_bind (hk _ _ ?_)
    have hall : AllL (fun p : Keyed => p.1 ∈ keys.toList) (keys.zip vs.toArray).toList := fun p hm => by
      rw [hzl] at hm
      exact (List.of_mem_zip hm).1
    refine wpAny_bind (wpAny_mono (wpS_sortO (st0 := SortSt.mk' κ (keys.zip vs.toArray) #[] 7 none)
      (Q := fun _ st' => Srtd (fun p q : Keyed => lexI (k p.1) (k q.1)) (arrOf st').toList ∧ Stb (fun p q : Keyed => lexI (k p.1) (k q.1)) (arrOf st').toList (keys.zip vs.toArray).toList ∧ failedOf st' = none) (swo_lexI fun p : Keyed => k p.1) hc rfl hall rfl rfl fun st' a1 a2 a3 => ⟨a1, a2, a3⟩) ?_ fun _ _ e => e)
    rintro ⟨⟨⟩, st'⟩ s' ⟨rfl, hp1, hp2, hf⟩
    try dsimp only
    have hp : (arrOf st').toList.Perm (keys.toList.zip vs) := by rw [← hzl]; exact hp2.perm
    obtain ⟨ys, hv, hfin⟩ := h _ hp hp1
    refine key_tail I Oa Ok hka (by omega) ?_ hf (ys := ys) ?_ hfin
    · have := hp.length_eq
      rw [Array.length_toList, ← hzl, Array.length_toList, hzs] at this
      rw [this]; exact hz
    · rw [Array.toList_map]; exact hv
theorem key_rest {f : Value} {J : Nat → Hp → List V → Prop} (I : Inv X pins σ H s) (Oa : Ours X pins H s a (seqObj "list" #[] e1)) (Ok : Ours X pins H s kS (seqObj "list" #[] 0)) (hka : kS ≠ a) (hz : vs.length ≤ sizeLine) (j0 : J 0 H [])
    (turn : ∀ (i : Nat) (v : Value) (s : Shared) (H : Hp) (zs : List V) (pins' : List (Addr × Obj)), vs[i]? = some v → Inv X pins' σ H s → J i H zs →
      wpAny (model X.prog X.w) A (call f [v]) (fun u s' => ∃ z H', Inv X pins' σ H' s' ∧ RelV z u ∧ J (i + 1) H' (zs ++ [z])) (fun _ _ => False) s)
    (fin : ∀ (s : Shared) (H : Hp) (zs : List V) (kv : Array Value) (e : Nat), Inv X pins σ H s → Ours X pins H s a (seqObj "list" #[] e1) → Ours X pins H s kS (seqObj "list" kv e) → J vs.length H zs → Vals zs kv.toList → kv.size = vs.length →
      wpAny (model X.prog X.w) A (ksk_end a false vs.toArray e1 (.ref kS) kv) P E s) : wpAny (model X.prog X.w) A (ksk_rest a f false vs.toArray e1 (.ref kS)) P E s := by
  unfold ksk_rest
  refine wpAny_bind (wpAny_rule ?_)
  first
    | rw [List.forIn_toArray]
    | (rw [← Array.forIn_toList]; simp only [List.toList_toArray])
    | rw [← Array.forIn_toList]
  refine wpAny_bind (ksk_fold (fun i s' => ∃ (H' : Hp) (zs : List V) (kv : Array Value) (e : Nat), Inv X pins σ H' s' ∧ Ours X pins H' s' a (seqObj "list" #[] e1) ∧ Ours X pins H' s' kS (seqObj "list" kv e) ∧ J i H' zs ∧ Vals zs kv.toList ∧ kv.size = i) vs 0 s
    ⟨H, [], #[], 0, I, Oa, Ok, j0, .nil, rfl⟩ ?step ?done)
  case step =>
    rintro j x s' hx ⟨H', zs, kv, e, I', Oa', Ok', hj, hv, hs⟩
    simp only [Nat.zero_add] at hj hs ⊢
    have hjl : j < vs.length := (List.getElem?_eq_some_iff.mp hx).1
    have Ip : Inv X ((kS, seqObj "list" kv e) :: (a, seqObj "list" #[] e1) :: pins) σ H' s' := I'.pins_of fun p hp => by
      rcases List.mem_cons.mp hp with rfl | hp
      · exact ⟨Ok'.at_, Ok'.un, Ok'.loc, Ok'.fs, Ok'.cell⟩
      · rcases List.mem_cons.mp hp with rfl | hp
        · exact ⟨Oa'.at_, Oa'.un, Oa'.loc, Oa'.fs, Oa'.cell⟩
        · exact I'.pin p (List.mem_append_right _ hp)
    refine wpAny_bind (wpAny_attempt (wpAny_mono (turn j x s' H' zs _ hx Ip hj) (fun u s2 he => ?_) fun _ _ hF => hF.elim))
    obtain ⟨z, H2, I2, rz, hj2⟩ := he
    try dsimp only
    have Oa2 := Oa'.after I2 (List.mem_cons_of_mem _ List.mem_cons_self)
    have Ok2 := Ok'.after I2 List.mem_cons_self
    have I3 : Inv X pins σ H2 s2 := I2.pins_of fun p hp => I2.pin p (List.mem_append_right _ (List.mem_cons_of_mem _ (List.mem_cons_of_mem _ hp)))
    refine wpAny_bind (listUpdate_at Ok2.at_ rfl ?_ (by omega) (by rw [Array.size_push]; omega))
    obtain ⟨c3, e3⟩ : ∃ c3, (s2.heap.update kS (Obj.mapSeq (·.push u))).get? kS = some (seqObj "list" (kv.push u) c3) := ⟨_, get?_update_seq Ok2.at_ (·.push u)⟩
    obtain ⟨I4, Ok4⟩ := ours_write (t' := s2.toks) I3 Ok2 e3 nocell
    refine wpAny_pure ⟨rfl, H2, zs ++ [z], kv.push u, c3, I4, ⟨(Heap.get?_update_ne _ _ _ _ hka.symm).trans Oa2.at_, Oa2.un, Oa2.new, Oa2.loc, Oa2.fs, Oa2.pin, Oa2.cell⟩, Ok4, hj2, ?_, by rw [Array.size_push]; omega⟩
    rw [Array.toList_push]
    exact hv.append (.cons rz .nil)
  case done =>
    rintro s' ⟨H', zs, kv, e, I', Oa', Ok', hj, hv, hs⟩
    simp only [Nat.zero_add] at hj hs
    try dsimp only
    refine wpAny_bind (listItems_at Ok'.at_ rfl ?_)
    exact fin s' H' zs kv e I' Oa' Ok' hj hv hs
end
end DL

namespace DL
open PySem L2 PySem.Spec PyProof.Rows SrtO
section
variable {X : Cx} {pins : List (Addr × Obj)} {σ : L2.St} {H : Hp} {s : Shared} {A : Around} {E : Value → Shared → Prop} {vs : List Value}
/-- a keyed sort's turns -/
def KTurn (X : Cx) (σ : L2.St) (A : Around) (f : Value) (vs : List Value) (J : Nat → Hp → List V → Prop) : Prop :=
  ∀ (i : Nat) (v : Value) (s : Shared) (H : Hp) (zs : List V) (pins' : List (Addr × Obj)), vs[i]? = some v → Inv X pins' σ H s → J i H zs →
      wpAny (model X.prog X.w) A (call f [v]) (fun u s' => ∃ z H', Inv X pins' σ H' s' ∧ RelV z u ∧ J (i + 1) H' (zs ++ [z])) (fun _ _ => False) s
/-- .. its end: the keys are ranked, the items come by their ranks -/
def KFin (X : Cx) (σ : L2.St) (A : Around) (pins : List (Addr × Obj)) (vs : List Value) (J : Nat → Hp → List V → Prop) (R : Hp → List V → Prop) : Prop :=
  ∀ (s : Shared) (H : Hp) (zs : List V) (kv : Array Value), Inv X pins σ H s → J vs.length H zs → Vals zs kv.toList → kv.size = vs.length → ∃ k : Value → List Int,
    (2 ≤ vs.length → ∃ κ, (∀ (Q : SortKind → Shared → Prop) (E : Value → Shared → Prop), Q κ s → wpAny (model X.prog X.w) A (keyKind' kv) Q E s) ∧ Cmp X.prog X.w A s κ (fun p => p.1 ∈ kv.toList) fun p q => lexI (k p.1) (k q.1)) ∧
    ∀ ps : List Keyed, ps.Perm (kv.toList.zip vs) → Srtd (fun p q : Keyed => lexI (k p.1) (k q.1)) ps → ∃ ys, Vals ys (ps.map (·.2)) ∧ R H ys
theorem key_sort {f : Addr} {a : Addr} {J : Nat → Hp → List V → Prop} {R : Hp → List V → Prop} {P : PySem.Fin → Shared → Prop} {n : Nat} (I : Inv X pins σ H s) (Oa : Ours X pins H s a (seqObj "list" vs.toArray n)) (hz : vs.length ≤ sizeLine) (j0 : J 0 H []) (turn : KTurn X σ A (.ref f) vs J) (fin : KFin X σ A pins vs J R)
    (h : ∀ (s' : Shared) (H : Hp) (ys : List V), R H ys → H a = none → Inv X pins σ (upd H a (.lst ys)) s' → P (.done (.ret .none)) s') :
    wpAny (model X.prog X.w) A (ksk_tree a (.ref f) false) P E s := by
  unfold ksk_tree
  refine wpAny_bind (listItems_at Oa.at_ rfl ?_)
  refine wpAny_bind (listUpdate_at Oa.at_ rfl ?_ (by rw [List.size_toArray]; exact hz) (Nat.zero_le _))
  obtain ⟨e1, ho1⟩ : ∃ e1, (s.heap.update a (Obj.mapSeq fun _ => (#[] : Array Value))).get? a = some (seqObj "list" #[] e1) := ⟨_, get?_update_seq Oa.at_ (fun _ => #[])⟩
  obtain ⟨I1, O1⟩ := ours_write (t' := s.toks) I Oa ho1 nocell
  refine wpAny_bind (seqEpoch_at O1.at_ rfl ?_)
  refine wpAny_bind (wpAny_newTuple ?_ (by show vs.length ≤ _; exact hz))
  refine wpAny_bind (wpAny_newList ?_ (Nat.zero_le _))
  refine wpAny_holding ?_
  have k1 : ∀ b u, (s.heap.update a (Obj.mapSeq fun _ => (#[] : Array Value))).get? b = some u → (((s.heap.update a (Obj.mapSeq fun _ => (#[] : Array Value))).push (seqObj "tuple" vs.toArray 0)).push (seqObj "list" #[] 0)).get? b = some u :=
    fun b u q => Heap.get?_push_of_some _ (Heap.get?_push_of_some _ q)
  have I2 := I1.kept (t' := s.toks) k1
  have O2 := O1.kept (t' := s.toks) k1
  have Ok := ours_at (t' := s.toks) (a := ((s.heap.update a (Obj.mapSeq fun _ => (#[] : Array Value))).push (seqObj "tuple" vs.toArray 0)).objs.size) (o := seqObj "list" #[] 0) I1 k1 (by rw [size_push']; exact Nat.le_succ _) (Heap.get?_push_size _ rfl) nocell
  have hka : ((s.heap.update a (Obj.mapSeq fun _ => (#[] : Array Value))).push (seqObj "tuple" vs.toArray 0)).objs.size ≠ a := by
    rw [size_push', Heap.size_update]
    exact Nat.ne_of_gt (Nat.lt_succ_of_lt (Heap.lt_size Oa.at_))
  refine key_rest (J := J) I2 O2 Ok hka hz j0 turn fun s3 H3 zs kv e I3 Oa3 Ok3 hj hv hs => ?_
  obtain ⟨k, hS, hf⟩ := fin s3 H3 zs kv I3 hj hv hs
  refine key_end (k := k) I3 Oa3 Ok3 hka hs hz hS fun ps hp hsr => ?_
  obtain ⟨ys, h1, h2⟩ := hf ps hp hsr
  exact ⟨ys, h1, fun s' => h s' H3 ys h2 Oa3.un⟩
/-- sorted(l, key = f) -/
theorem sorted_key {f l : Addr} {J : Nat → Hp → List V → Prop} {R : Hp → List V → Prop} {Q : Value → Shared → Prop} (I : Inv X pins σ H s) (hl : s.heap.IsList l vs.toArray) (hz : vs.length ≤ sizeLine) (j0 : J 0 H []) (turn : KTurn X σ A.in1.in1 (.ref f) vs J) (fin : KFin X σ A.in1.in1 pins vs J R)
    (h : ∀ (s' : Shared) (H : Hp) (ys : List V) (p : Addr), R H ys → H p = none → Inv X pins σ (upd H p (.lst ys)) s' → Q (.ref p) s') :
    wpAny (model X.prog X.w) A (call (.builtin "sorted") [.ref l] [(Str.ofString "key", .ref f)]) Q E s := by
  refine call_function_entry_kw kind_sorted plain_sorted entry_sorted (ksk_s1 _ _) ?_
  unfold Builtin.«sorted»
  refine wpAny_bind (m := checkCount "sorted" 1 1 _) (wpAny_pure ?_)
  refine wpAny_bind (collect_list hl ?_ hz)
  refine wpAny_bind (wpAny_newList ?_ hz)
  have hsz : ((s.heap.push (seqObj "list" #[] 0)).update s.heap.objs.size (Obj.mapSeq (· ++ vs.toArray))).objs.size = s.heap.objs.size + 1 := by
    rw [Heap.size_update, size_push']
  have hoL : (((s.heap.push (seqObj "list" #[] 0)).update s.heap.objs.size (Obj.mapSeq (· ++ vs.toArray))).push (seqObj "list" vs.toArray 0)).get? (s.heap.objs.size + 1) = some (seqObj "list" vs.toArray 0) := by
    rw [← hsz]; exact Heap.get?_push_size _ rfl
  have keep : ∀ b o, s.heap.get? b = some o → (((s.heap.push (seqObj "list" #[] 0)).update s.heap.objs.size (Obj.mapSeq (· ++ vs.toArray))).push (seqObj "list" vs.toArray 0)).get? b = some o := fun b o q => by
    have hlt : b < s.heap.objs.size := Heap.lt_size q
    refine Heap.get?_push_of_some _ ?_
    rw [Heap.get?_update_ne _ _ _ _ (Nat.ne_of_lt hlt)]
    exact Heap.get?_push_of_some _ q
  show wpAny _ _ _ _ _ { s with heap := ((s.heap.push (seqObj "list" #[] 0)).update s.heap.objs.size (Obj.mapSeq (· ++ vs.toArray))).push (seqObj "list" vs.toArray 0) }
  rw [hsz]
  have I1 := I.kept (t' := s.toks) keep
  have Oa := ours_at (t' := s.toks) (a := s.heap.objs.size + 1) (o := seqObj "list" vs.toArray 0) I keep (Nat.le_succ _) hoL nocell
  refine wpAny_bind (wpAny_holding (wpAny_call_entry_kw slot_list_sort ⟨_, hoL, rfl⟩ entry_list_sort ?body (ksk_l1 _ _)))
  case body =>
    show wpAny (model X.prog X.w) A.in1.in1 (Builtin.«list.sort» ⟨[.ref (s.heap.objs.size + 1)], [(Str.ofString "key", .ref f)]⟩) _ _ _
    rw [ksk_t1]
    refine key_sort I1 Oa hz j0 turn fin fun s' H' ys hR hn I' => ⟨_, rfl, ?_⟩
    exact wpAny_pure ⟨_, rfl, h s' H' ys _ hR hn I'⟩
end
end DL

namespace DL
open PySem L2 PySem.Spec PyProof.Rows SrtO
/-! ### ranks of keys -/
theorem perm_lift {α β : Type} (f : α → β) {l l2 : List β} (h : l.Perm l2) : ∀ {T : List α}, l2 = T.map f → ∃ T' : List α, T'.Perm T ∧ T'.map f = l := by
  induction h with
  | nil => intro T e; exact ⟨[], by rw [List.map_eq_nil_iff.mp e.symm], rfl⟩
  | cons x _ ih =>
    intro T e
    cases T with
    | nil => cases e
    | cons t T =>
      rw [List.map_cons, List.cons.injEq] at e
      obtain ⟨T', p, q⟩ := ih e.2
      exact ⟨t :: T', p.cons t, by rw [List.map_cons, q, e.1]⟩
  | swap x y l =>
    intro T e
    match T, e with
    | a :: b :: T, e =>
      rw [List.map_cons, List.map_cons, List.cons.injEq, List.cons.injEq] at e
      exact ⟨b :: a :: T, List.Perm.swap _ _ _, by rw [List.map_cons, List.map_cons, e.1, e.2.1, e.2.2]⟩
  | trans _ _ ih1 ih2 =>
    intro T e
    obtain ⟨T1, p1, q1⟩ := ih2 e
    obtain ⟨T2, p2, q2⟩ := ih1 q1.symm
    exact ⟨T2, p2.trans p1, q2⟩
theorem repVs_split {K : PySem.W.Frag} {H : Hp} : ∀ {as bs : List D} {xs : List V}, repVs K H (as ++ bs) xs → ∃ x1 x2, xs = x1 ++ x2 ∧ repVs K H as x1 ∧ repVs K H bs x2
  | [], _, xs, h => ⟨[], xs, rfl, rfl, h⟩
  | a :: as, _, _, h => by
    obtain ⟨x, r, rfl, h1, h2⟩ := h
    obtain ⟨x1, x2, rfl, h3, h4⟩ := repVs_split (as := as) h2
    exact ⟨x :: x1, x2, rfl, ⟨x, x1, rfl, h1, h3⟩, h4⟩
def kOf (h : Heap) (m : Nat) : Value → List Int
  | .int i _ => [i]
  | .ref a => match h.get? a with
    | some o => (match o.data with
      | .seq its _ => (its.toList.map iv).take m
      | _ => [])
    | none => []
  | _ => []
section
variable {X : Cx} {pins : List (Addr × Obj)} {σ : L2.St} {H : Hp} {s : Shared}
theorem pre_of (I : Inv X pins σ H s) {ns : List Int} {rest : List D} {z : V} {v : Value} (hr : repV X.K H (.tup (ns.map D.int ++ rest)) z) (rv : RelV z v) : Pre s.heap v ns ∧ kOf s.heap ns.length v = ns := by
  obtain ⟨a, xs, rfl, sq, rs⟩ := hr
  obtain rfl : v = .ref a := rv
  obtain ⟨x1, x2, rfl, r1, r2⟩ := repVs_split rs
  rw [repVs_ints_inv r1] at sq
  obtain ⟨its, rv, ⟨o, ho, hc, n, hd⟩, hz⟩ := I.tuple sq.1
  have l1 : (ns.map V.int).length = ns.length := List.length_map ..
  have t1 := rv.take ns.length
  rw [← l1, List.take_left, l1] at t1
  have hi := t1.ints
  refine ⟨⟨a, o, its.toArray, n, its.take ns.length, its.drop ns.length, rfl, ho, hc, hd, by simp, hi⟩, ?_⟩
  unfold kOf
  simp only [ho, hd]
  rw [← List.map_take]
  exact iv_ints hi
theorem preX_of (I : Inv X pins σ H s) {ns : List Int} {z : V} {v : Value} (hr : repV X.K H (.tup (ns.map D.int)) z) (rv : RelV z v) : PreX s.heap v ns := by
  obtain ⟨a, xs, rfl, sq, rs⟩ := hr
  obtain rfl : v = .ref a := rv
  rw [repVs_ints_inv rs] at sq
  obtain ⟨its, rv, ⟨o, ho, hc, n, hd⟩, hz⟩ := I.tuple sq.1
  exact ⟨a, o, its.toArray, n, rfl, ho, hc, hd, by simpa using rv.ints⟩
/-- a key: an int, a tuple that begins with m ints -/
def KeyD (b : Bool) (m : Nat) (d : D) (ns : List Int) : Prop := if b = true then ∃ i, d = .int i ∧ ns = [i] else ns.length = m ∧ ∃ rest, d = .tup (ns.map D.int ++ rest)
theorem rank_at (I : Inv X pins σ H s) {b : Bool} {m : Nat} {d : D} {ns : List Int} (hk : KeyD b m d ns) {z : V} {v : Value} (hr : repV X.K H d z) (rv : RelV z v) : kOf s.heap m v = ns ∧ (b = false → Pre s.heap v ns ∧ ns.length = m) := by
  cases b with
  | true =>
    obtain ⟨i, rfl, rfl⟩ := hk
    simp only [repV] at hr
    subst hr
    obtain ⟨t, rfl⟩ := rv
    exact ⟨rfl, fun h => nomatch h⟩
  | false =>
    obtain ⟨hl, rest, rfl⟩ := hk
    have := pre_of I hr rv
    rw [hl] at this
    exact ⟨this.2, fun _ => ⟨this.1, hl⟩⟩
theorem rep_at {K : PySem.W.Frag} {ds : List D} {zs : List V} {us : List Value} (hz : repVs K H ds zs) (hv : Vals zs us) {i : Nat} {d : D} (e : ds[i]? = some d) : ∃ z u, zs[i]? = some z ∧ us[i]? = some u ∧ repV K H d z ∧ RelV z u := by
  obtain ⟨z, e1, r1⟩ := repVs_get hz e
  obtain ⟨u, e2, r2⟩ := hv.get e1
  exact ⟨z, u, e1, e2, r1, r2⟩
variable {A : Around} {b : Bool} {m : Nat} {ds : List D} {kd : D → D} {kf : D → List Int} {zs : List V} {us : List Value}
/-- each key's rank -/
theorem rank_all (I : Inv X pins σ H s) (hk : ∀ x ∈ ds, KeyD b m (kd x) (kf x)) (hz : repVs X.K H (ds.map kd) zs) (hv : Vals zs us) {i : Nat} {u : Value} (e : us[i]? = some u) : ∃ x, ds[i]? = some x ∧ kOf s.heap m u = kf x ∧ (b = false → Pre s.heap u (kf x) ∧ (kf x).length = m) := by
  have hl : i < ds.length := by
    have h1 := repVs_len hz
    have h2 := hv.length
    have h3 := (List.getElem?_eq_some_iff.mp e).1
    rw [List.length_map] at h1
    omega
  have e1 : (ds.map kd)[i]? = some (kd ds[i]) := by simp [hl]
  obtain ⟨z, u', _, e2, r1, r2⟩ := rep_at hz hv e1
  rw [e] at e2
  cases e2
  exact ⟨ds[i], by simp [hl], rank_at I (hk _ (List.getElem_mem hl)) r1 r2⟩
/-- unlike keys, or nothing but ints in them -/
def KeysU (ds : List D) (kd : D → D) (kf : D → List Int) : Prop := (ds.map kf).Nodup ∨ ∀ x ∈ ds, (∃ i, kd x = .int i) ∨ kd x = .tup ((kf x).map D.int)
theorem rank_inj (I : Inv X pins σ H s) (hk : ∀ x ∈ ds, KeyD false m (kd x) (kf x)) (hn : KeysU ds kd kf) (hz : repVs X.K H (ds.map kd) zs) (hv : Vals zs us) : ∀ u ∈ us, ∀ v ∈ us, kOf s.heap m u = kOf s.heap m v → u = v ∨ (PreX s.heap u (kOf s.heap m u) ∧ PreX s.heap v (kOf s.heap m v)) := by
  intro u hu v hv' e
  obtain ⟨i, hi⟩ := List.getElem?_of_mem hu
  obtain ⟨j, hj⟩ := List.getElem?_of_mem hv'
  obtain ⟨x, e1, e2, _⟩ := rank_all I hk hz hv hi
  obtain ⟨y, e3, e4, _⟩ := rank_all I hk hz hv hj
  rcases hn with hn | hn
  case inr =>
    refine .inr ?_
    have key : ∀ (i : Nat) (u : Value) (x : D), us[i]? = some u → ds[i]? = some x → kOf s.heap m u = kf x → PreX s.heap u (kOf s.heap m u) := fun i u x hi ex ek => by
      have hx := List.mem_of_getElem? ex
      have e5 : (ds.map kd)[i]? = some (kd x) := by rw [List.getElem?_map, ex]; rfl
      obtain ⟨z, u', _, e6, r1, r2⟩ := rep_at hz hv e5
      rw [hi] at e6
      cases e6
      rw [ek]
      rcases hn x hx with ⟨n, h⟩ | h
      · obtain ⟨_, rest, h2⟩ := hk x hx
        rw [h] at h2
        cases h2
      · rw [h] at r1
        exact preX_of I r1 r2
    exact ⟨key i u x hi e1 e2, key j v y hj e3 e4⟩
  refine .inl ?_
  have h1 : (ds.map kf)[i]? = some (kf x) := by rw [List.getElem?_map, e1]; rfl
  have h2 : (ds.map kf)[j]? = some (kf y) := by rw [List.getElem?_map, e3]; rfl
  rw [show kf y = kf x by rw [← e4, ← e2, e]] at h2
  have hij := (List.getElem?_inj (List.getElem?_eq_some_iff.mp h1).1 hn).mp (h1.trans h2.symm)
  rw [hij, hj] at hi
  cases hi
  rfl
theorem rank_cmp (I : Inv X pins σ H s) (hb : b = true → m = 1) (hm : 1 ≤ m) (hk : ∀ x ∈ ds, KeyD b m (kd x) (kf x)) (hn : KeysU ds kd kf) (hz : repVs X.K H (ds.map kd) zs) (hv : Vals zs us) (h2 : 2 ≤ us.length)
    {s' : Shared} (keep : ∀ a o, o.cls = .type "tuple" → s.heap.get? a = some o → s'.heap.get? a = some o) :
    ∃ κ, (∀ (Q : SortKind → Shared → Prop) (E : Value → Shared → Prop), Q κ s' → wpAny (model X.prog X.w) A (keyKind' us.toArray) Q E s') ∧ Cmp X.prog X.w A s' κ (fun p => p.1 ∈ us) fun p q => lexI (kOf s.heap m p.1) (kOf s.heap m q.1) := by
  cases b with
  | true =>
    have hi : IntsAre us (us.map iv) := ints_iv fun v hv' => by
      obtain ⟨i, hi⟩ := List.getElem?_of_mem hv'
      have hl : i < ds.length := by
        have h1 := repVs_len hz
        have h2 := hv.length
        have h3 := (List.getElem?_eq_some_iff.mp hi).1
        rw [List.length_map] at h1
        omega
      have e1 : (ds.map kd)[i]? = some (kd ds[i]) := by simp [hl]
      obtain ⟨z, u', _, e2, r1, r2⟩ := rep_at hz hv e1
      rw [hi] at e2
      cases e2
      obtain ⟨j, e, _⟩ := hk _ (List.getElem_mem hl)
      rw [e] at r1
      simp only [repV] at r1
      subst r1
      obtain ⟨t, rfl⟩ := r2
      exact ⟨j, t, rfl⟩
    refine ⟨oneType', fun Q E hq => ?_, ?_⟩
    · rw [ksk_kind (kz := us.map iv) (by simpa using hi) (by simpa using h2)]
      exact wpAny_pure hq
    · have hc := int_cmp (prog := X.prog) (w := X.w) (A := A) (s := s') hi
      intro p q hp hq
      have := hc p q hp hq
      obtain ⟨x, t, e1⟩ := ints_mem hi _ hp
      obtain ⟨y, t', e2⟩ := ints_mem hi _ hq
      have e : lt2 ltIv p q = lexI (kOf s.heap m p.1) (kOf s.heap m q.1) := by
        show ltIv p.1 q.1 = _
        rw [e1, e2]
        show decide (x < y) = if x = y then false else decide (x < y)
        by_cases c : x = y
        · rw [if_pos c, c]; exact decide_eq_false (Int.lt_irrefl _)
        · rw [if_neg c]
      show wpAny _ _ _ (fun r s'' => s'' = s' ∧ r = lexI (kOf s.heap m p.1) (kOf s.heap m q.1)) _ _
      rw [← e]
      exact this
  | false =>
    have hp : ∀ v ∈ us, Pre s.heap v (kOf s.heap m v) ∧ (kOf s.heap m v).length = m := fun v hv' => by
      obtain ⟨i, hi⟩ := List.getElem?_of_mem hv'
      obtain ⟨x, _, e, h⟩ := rank_all I hk hz hv hi
      rw [e]
      exact h rfl
    have hp' : ∀ v ∈ us, Pre s'.heap v (kOf s.heap m v) := fun v hv' => by
      obtain ⟨a, o, its, n, vs, rest, e, ho, hc, r⟩ := (hp v hv').1
      exact ⟨a, o, its, n, vs, rest, e, keep _ _ hc ho, hc, r⟩
    have preX_keep : ∀ {v ns}, PreX s.heap v ns → PreX s'.heap v ns := fun ⟨a, o, its, n, e, ho, hc, r⟩ => ⟨a, o, its, n, e, keep _ _ hc ho, hc, r⟩
    exact ⟨tuples' true, fun Q E hq => pre_kind (k := kOf s.heap m) (by omega) (fun v hv' => ⟨hp' v hv', by rw [(hp v hv').2]; exact hm⟩) hq, pre_cmp hp' (fun v hv' => (hp v hv').2) fun u hu v hv' e => (rank_inj I hk hn hz hv u hu v hv' e).imp id fun ⟨x1, x2⟩ => ⟨preX_keep x1, preX_keep x2⟩⟩
/-- the items by their ranks, as data -/
theorem rank_out (I : Inv X pins σ H s) (hk : ∀ x ∈ ds, KeyD b m (kd x) (kf x)) (hz : repVs X.K H (ds.map kd) zs) (hv : Vals zs us) {xs : List V} {vs : List Value} (hx : repVs X.K H ds xs) (hxv : Vals xs vs)
    {ps : List Keyed} (hp : ps.Perm (us.zip vs)) (hs : Srtd (fun p q : Keyed => lexI (kOf s.heap m p.1) (kOf s.heap m q.1)) ps) :
    ∃ ds' ys, ds'.Perm ds ∧ ds'.Pairwise (fun x y => lexI (kf y) (kf x) = false) ∧ repVs X.K H ds' ys ∧ Vals ys (ps.map (·.2)) := by
  have l1 := repVs_len hz
  have l2 := hv.length
  have l3 := repVs_len hx
  have l4 := hxv.length
  rw [List.length_map] at l1
  have eT : us.zip vs = (List.range ds.length).map fun i => (us.getD i .none, vs.getD i .none) := by
    refine List.ext_getElem? fun i => ?_
    by_cases hi : i < ds.length
    · rw [List.getElem?_zip_eq_some (z := (us[i], vs[i])) |>.mpr ⟨List.getElem?_eq_getElem (show i < us.length by omega), List.getElem?_eq_getElem (show i < vs.length by omega)⟩]
      simp [List.getElem?_range, hi, List.getElem?_eq_getElem (show i < us.length by omega), List.getElem?_eq_getElem (show i < vs.length by omega)]
    · rw [List.getElem?_eq_none (by rw [List.length_zip]; omega), List.getElem?_eq_none (by simp; omega)]
  obtain ⟨idx, pI, eI⟩ := perm_lift (fun i : Nat => ((us.getD i .none, vs.getD i .none) : Keyed)) hp eT
  have hlt : ∀ i ∈ idx, i < ds.length := fun i hi => List.mem_range.mp (pI.mem_iff.mp hi)
  have rk : ∀ i, i < ds.length → kOf s.heap m (us.getD i .none) = kf (ds.getD i .non) := fun i hi => by
    have e : us[i]? = some (us.getD i .none) := by simp [List.getElem?_eq_getElem (show i < us.length by omega)]
    obtain ⟨x, e1, e2, _⟩ := rank_all I hk hz hv e
    rw [e2, List.getD_eq_getElem?_getD, e1]
    rfl
  refine ⟨idx.map (ds.getD · .non), idx.map (xs.getD · .non), ?_, ?_, ?_, ?_⟩
  · have := pI.map (ds.getD · D.non)
    have e : (List.range ds.length).map (ds.getD · D.non) = ds := by
      refine List.ext_getElem? fun i => ?_
      by_cases hi : i < ds.length
      · simp [List.getElem?_range, hi]
      · rw [List.getElem?_eq_none (by simp; omega), List.getElem?_eq_none (by omega)]
    rw [e] at this
    exact this
  · rw [← eI] at hs
    have h1 := List.pairwise_map.mp hs
    refine List.pairwise_map.mpr (List.Pairwise.imp_of_mem ?_ h1)
    intro i j hi hj g1
    have g1 : lexI (kOf s.heap m (us.getD j .none)) (kOf s.heap m (us.getD i .none)) = false := g1
    rw [rk i (hlt i hi), rk j (hlt j hj)] at g1
    exact g1
  · have : ∀ l : List Nat, (∀ i ∈ l, i < ds.length) → repVs X.K H (l.map (ds.getD · .non)) (l.map (xs.getD · .non)) := by
      intro l
      induction l with
      | nil => intro _; rfl
      | cons i l ih =>
        intro hl
        have hi := hl i List.mem_cons_self
        have e : ds[i]? = some (ds.getD i .non) := by simp [List.getElem?_eq_getElem hi]
        obtain ⟨x, e1, r1⟩ := repVs_get hx e
        refine ⟨_, _, rfl, ?_, ih fun j hj => hl j (List.mem_cons_of_mem _ hj)⟩
        show repV X.K H (ds.getD i .non) (xs.getD i .non)
        rw [List.getD_eq_getElem?_getD (l := xs), e1]
        exact r1
    exact this idx hlt
  · rw [← eI, List.map_map]
    have : ∀ l : List Nat, (∀ i ∈ l, i < ds.length) → Vals (l.map (xs.getD · .non)) (l.map (vs.getD · .none)) := by
      intro l
      induction l with
      | nil => intro _; exact .nil
      | cons i l ih =>
        intro hl
        have hi := hl i List.mem_cons_self
        have e : xs[i]? = some (xs.getD i .non) := by simp [List.getElem?_eq_getElem (show i < xs.length by omega)]
        obtain ⟨u, e1, r1⟩ := hxv.get e
        refine .cons ?_ (ih fun j hj => hl j (List.mem_cons_of_mem _ hj))
        show L2.RelV (xs.getD i .non) (vs.getD i .none)
        rw [show vs.getD i .none = u by rw [List.getD_eq_getElem?_getD, e1]; rfl]
        exact r1
    exact this idx hlt
end
/-! ### sorted(l, key = f), sorted(l) of tuples -/
section
variable {X : Cx} {Ed : WXD} {Ex : WX} {e fe : Expr} {tA : TAD} {p pos kpos : Pos} {f : Addr} {d : DSp} {k : Nat} {fd : FuncData} {ps : List Str}
def sortedBy (ds : List D) (kf : D → List Int) (W : Wd) (q : List D → Wd → Prop) : Prop := ∀ ds' : List D, ds'.Perm ds → ds'.Pairwise (fun x y => lexI (kf y) (kf x) = false) → q ds' W
def rSortK (d : DSp) : List D → Wd → (List D → Wd → Prop) → Prop := fun ds W q => ∃ (b : Bool) (m : Nat) (kd : D → D) (kf : D → List Int), (b = true → m = 1) ∧ 1 ≤ m ∧ (∀ x ∈ ds, KeyD b m (kd x) (kf x) ∧ d [x] W (fun k W2 => k = kd x ∧ W2 = W) E0D) ∧ KeysU ds kd kf ∧ sortedBy ds kf W q
theorem run_fn2 {pins : List (Addr × Obj)} {σ : L2.St} {H : Hp} {s : Shared} {Q : VK} {v : Value} {x : V} (F : FnOk X.prog X.w X.K X.mg X.base CX0 k f fd ps (upSp X.K d)) (hr : Room (k + 2) X.A) (hb : Binds X.K fd ps []) (I : Inv X pins σ H s) (r : RelV x v)
    (h : upSp X.K d [x] H Q E0) : wpAny (model X.prog X.w) X.A.in1.in1 (call (.ref f) [v]) (EP X pins σ Q) (fun _ _ => False) s := by
  have hl : ([v] ++ [] : List Value).length = ps.length := F.len [x] _ _ _ h
  refine wpAny_call (codeAny_mono (F.run X.A.in1.in1 X.stack s H ⟨[v], []⟩ ([v] ++ []) [x] Q E0 hr.in1.in1 I.env0.in1.in1 (hb s [v] I.kIn hl) (.cons r .nil) h) fun r s' hq => ?_)
  cases r with
  | error e => exact hq
  | ok fl =>
    cases fl with
    | ret u => exact I.after hq
    | next => exact False.elim hq
    | brk => exact False.elim hq
    | cont => exact False.elim hq
theorem cr_sortedBy (F : FnOk X.prog X.w X.K X.mg X.base CX0 k f fd ps (upSp X.K d)) (hr : Room (k + 2) X.A) (hb : Binds X.K fd ps []) :
    CallRK X (.builtin "sorted") [Str.ofString "key"] (fun vs zs H Q => zs = [.ref f] ∧ upCML X.K (rSortK d) vs H Q) := by
  intro pins s σ H vs zs us ws Q I r rz h
  obtain ⟨rfl, a, xs, ds, W, P, q, rfl, ha, r1, rw, ⟨b, m, kd, kf, hbm, hm, hk, hn, hq⟩, kk⟩ := h
  obtain rfl := Vals.ref1 r
  obtain rfl := Vals.ref1 rz
  obtain ⟨z, its, n, rv, hl, e⟩ := I.lstM ha
  refine sorted_key (vs := its) (J := fun i H' zs => ∃ P', Step X.K W P H W P' H' ∧ RepW X.K W P' H' ∧ repVs X.K H' ((ds.take i).map kd) zs)
    (R := fun H' ys => ∃ P', Step X.K W P H W P' H' ∧ RepW X.K W P' H' ∧ ∃ ds', ds'.Perm ds ∧ ds'.Pairwise (fun x y => lexI (kf y) (kf x) = false) ∧ repVs X.K H' ds' ys) I ⟨_, e, rfl, _, rfl⟩ (by rw [← hl]; exact z) ⟨P, .refl, rw, rfl⟩ ?_ ?_ ?_
  · intro i v s' H' zs' pins' hv I' ⟨P', st, rw', rz'⟩
    have hi : i < its.length := (List.getElem?_eq_some_iff.mp hv).1
    have l1 := repVs_len r1
    have hd : ds[i]? = some ds[i] := by simp [show i < ds.length by omega]
    obtain ⟨x, u, e1, e2, g1, g2⟩ := rep_at r1 rv hd
    rw [hv] at e2
    cases e2
    have hx := hk ds[i] (List.getElem_mem (by omega))
    have := run_fn2 (Q := fun v H2 => ∃ P2, Step X.K W P H W P2 H2 ∧ RepW X.K W P2 H2 ∧ repV X.K H2 (kd ds[i]) v ∧ Step X.K W P' H' W P2 H2) F hr hb I' g2 ⟨[ds[i]], W, P', _, E0D, ⟨x, [], rfl, repV_step g1 st, rfl⟩, rw', hx.2, fun d2 W2 P2 v2 H2 s2 g3 rw2 h2 => by
      obtain ⟨rfl, rfl⟩ := h2
      exact ⟨P2, st.trans s2, rw2, g3, s2⟩, fun _ _ _ _ _ _ _ h => h.elim⟩
    refine wpAny_mono this (fun u s2 h2 => ?_) fun _ _ h => h
    obtain ⟨v2, H2, I2, rv2, P2, s2, rw2, g3, s3⟩ := h2
    refine ⟨v2, H2, I2, rv2, P2, s2, rw2, ?_⟩
    rw [List.take_add_one, hd, List.map_append]
    exact repVs_append (repVs_step rz' s3) ⟨v2, [], rfl, g3, rfl⟩
  · intro s' H' zs' kv I' ⟨P', st, rw', rz'⟩ hv hs
    have l1 := repVs_len r1
    rw [List.take_of_length_le (by omega)] at rz'
    refine ⟨kOf s'.heap m, fun h2 => ?_, fun qs hp hsr => ?_⟩
    · have := rank_cmp (A := X.A.in1.in1) I' hbm hm (fun x hx => (hk x hx).1) hn rz' hv (by rw [Array.length_toList]; omega) (s' := s') fun _ _ _ h => h
      simpa using this
    · obtain ⟨ds', ys, g1, g2, g3, g4⟩ := rank_out I' (fun x hx => (hk x hx).1) rz' hv (repVs_step r1 st) rv hp hsr
      exact ⟨ys, g4, P', st, rw', ds', g1, g2, g3⟩
  · intro s' H' ys p' ⟨P', st, rw', ds', g1, g2, g3⟩ hp I'
    refine ⟨.ref p', _, I', rfl, ?_⟩
    exact kk ds' W P' p' ys _ (st.trans (Step.new hp)) (by
      cases q : H p' with
      | none => rfl
      | some o =>
        exfalso
        have := st.stay p' hp
        rw [q] at this
        cases this) upd_same (fun h => (rw'.tracked h) hp) (repVs_mono (tupLe_upd (.inl hp)) ds' g3) (rw'.new hp) (hq ds' g1 g2)
def dSortK (d : DSp) (tA : TAD) : TAD := fun δ W q => tA δ W fun ds W1 => rSortK d ds W1 q
theorem rd_sortK {d : DSp} {tA : TAD} {δ : Sd} {W : Wd} {q : List D → Wd → Prop} : dSortK d tA δ W q = tA δ W fun ds W1 => rSortK d ds W1 q := rfl
theorem dl_sortedK (F : FnOk X.prog X.w X.K X.mg X.base CX0 k f fd ps (upSp X.K d)) (hr : Room (k + 2) X.A) (hb : Binds X.K fd ps []) (hg : Gl X "sorted") (hm : X.mg "sorted" = none) (ha : PE X e (upM X.K Ed Ex tA)) (hf : PE X fe (tC (.ref f)))
    (hs : starEach [e] X.env = (false, eval e X.env) :: starEach [] X.env := by rfl) (he : backTo pos (starEach [e] X.env) = (false, eval e X.env) :: backTo pos (starEach [] X.env) := by rfl) (hpl : (backTo pos (starEach [e] X.env)).any (·.1) = false := by rfl)
    (hall : (backToKw pos (keywordEach [⟨some "key", fe, kpos⟩] X.env)).all (·.1.isSome) = true := by rfl) (hnone : (backToKw pos (keywordEach [⟨some "key", fe, kpos⟩] X.env)).any (·.1.isNone) = false := by rfl) (hks : (backToKw pos (keywordEach [⟨some "key", fe, kpos⟩] X.env)).filterMap (·.1) = [Str.ofString "key"] := by rfl) :
    PE X (.Call (.Name "sorted" p) [e] [⟨some "key", fe, kpos⟩] pos) (upL X.K Ed Ex (dSortK d tA)) :=
  (pe_callBK (cr_sortedBy F hr hb) hg hm bb_sorted (pa_m ha hs) (pk_cons hf pk_nil) (by decide) (by decide) he hpl hall hnone hks).imp fun σ H Q h => by
  obtain ⟨δ, W, P, q, rs, rw, x, h, kk⟩ := h
  refine ⟨δ, W, P, _, rs, rw, x, h, fun ds W1 P1 a xs H1 s1 g1 r1 rw1 h1 => ?_⟩
  exact ⟨rfl, a, xs, ds, W1, P1, q, rfl, g1, r1, rw1, h1, kk.after s1⟩
/-- sorted(l): ints, tuples that begin with ints -/
def rSortT : List D → Wd → (List D → Wd → Prop) → Prop := fun ds W q => ∃ (b : Bool) (m : Nat) (kf : D → List Int), (b = true → m = 1) ∧ 1 ≤ m ∧ (∀ x ∈ ds, KeyD b m x (kf x)) ∧ KeysU ds id kf ∧ sortedBy ds kf W q
theorem dc_sortedT : CallR X (.builtin "sorted") (upCML X.K rSortT) := by
  intro pins s σ H vs us Q I r h
  obtain ⟨a, xs, ds, W, P, q, rfl, ha, r1, rw, ⟨b, m, kf, hbm, hm, hk, hn, hq⟩, kk⟩ := h
  obtain rfl := Vals.ref1 r
  obtain ⟨z, its, n, rv, hl, e⟩ := I.lstM ha
  have r1' : repVs X.K H (ds.map id) xs := by rw [List.map_id]; exact r1
  refine sorted_ord (ltv := fun v u => lexI (kOf s.heap m v) (kOf s.heap m u)) (swo_lexI fun v : Value => kOf s.heap m v) (vs := its) ⟨_, e, rfl, _, rfl⟩ (by rw [← hl]; exact z) (fun h2 h₁ a' ha' kp => ?_) fun out hs hb => ?_
  · intro h' kp'
    exact rank_cmp (s' := { s with heap := h' }) I hbm hm hk hn r1' rv h2 fun b o hc ho => by
      obtain ⟨hne, h1⟩ := kp b o ho
      exact kp' b o hne h1
  · have hp : (out.map fun v => ((v, v) : Keyed)).Perm (its.zip its) := by
      have := hb.perm.map fun v : Value => ((v, v) : Keyed)
      rw [SrtR.zip_self]
      exact this
    have hs' : Srtd (fun p q : Keyed => lexI (kOf s.heap m p.1) (kOf s.heap m q.1)) (out.map fun v => ((v, v) : Keyed)) := List.pairwise_map.mpr hs
    obtain ⟨ds', ys, g1, g2, g3, g4⟩ := rank_out I hk r1' rv r1 rv hp hs'
    have g4 : Vals ys out := by
      have e : (out.map fun v => ((v, v) : Keyed)).map (fun p => p.2) = out := by rw [List.map_map]; exact List.map_id _
      rw [e] at g4
      exact g4
    obtain ⟨ep, he'⟩ := PyProof.Rows.sortedAll_at s.heap its out.toArray
    have hlen : ys.length ≤ sizeLine := by
      rw [← repVs_len g3, g1.length_eq, repVs_len r1]; exact z
    have hf : H (s.heap.objs.size + 1) = none := I.hok.fresh (Nat.le_succ _)
    refine ⟨.ref _, upd H (s.heap.objs.size + 1) (.lst ys), I.laid (t' := s.toks) (fun _ _ => PyProof.Rows.sortedAll_old) (Nat.le_succ _) ⟨hlen, out, ep, g4, he'⟩, rfl, ?_⟩
    exact kk ds' W P _ ys _ (Step.new hf) hf upd_same (fun h => (rw.tracked h) hf) (repVs_mono (tupLe_upd (.inl hf)) ds' g3) (rw.new hf) (hq ds' g1 g2)
/-- the order, strictly, of unlike keys -/
theorem sorted_strict {ds ds' : List D} {kf : D → List Int} (hp : ds'.Perm ds) (hs : ds'.Pairwise (fun x y => lexI (kf y) (kf x) = false)) (hn : (ds.map kf).Nodup) : ds'.Pairwise (fun x y => lexI (kf x) (kf y) = true) := by
  have h2 : (ds'.map kf).Nodup := (hp.map kf).nodup_iff.mpr hn
  refine List.Pairwise.imp ?_ (List.pairwise_and_iff.mpr ⟨hs, List.pairwise_map.mp h2⟩)
  rintro x y ⟨h1, h2⟩
  cases q : lexI (kf x) (kf y) with
  | true => rfl
  | false => exact absurd (lexI_eq _ _ q h1) h2
end
end DL

namespace DL
open PySem L2
section
variable {X : Cx} {Ed : WXD} {Ex : WX} {CX : CXT} {k : Nat} {fn C f : Addr} {fd : FuncData} {ps : List Str} {d : DSp} {m x fld : Str} {pos p apos tpos : Pos} {e o i value : Expr} {es : List Expr} {ta tb to td ty te : TED} {tA : TAD}
/-! ### methods that may raise -/
theorem de_methX {pl : Sem Bool} (ho : PE X o (upE X.K Ed Ex to)) (c : Cls X.K C) (hm : Meth X.K C m fn) (F : FnOk X.prog X.w X.K X.mg X.base (L2.CX X.prog X.w) k fn fd ps (upSp X.K d)) (hr : Room k X.A) (hb : Binds X.K fd ps []) (tk : Takes X Ex) (ha : PA X (e :: es) (upA X.K Ed Ex tA))
    (hn : objNames.contains m = false := by decide +kernel) (hst : starEach (e :: es) X.env = (false, eval e X.env) :: starEach es X.env := by rfl) (hpl : (backTo pos (starEach es X.env)).any (·.1) = false := by rfl)
    (ht : eval (.Call (.Attribute o m apos) (e :: es) [] pos) X.env = (do
      let ov ← eval o X.env
      standAt apos.atName
      let (f, first) ← holding [ov] (getMethod ov m pl)
      callWith pos f first (backTo pos (starEach (e :: es) X.env)) (backToKw pos (keywordEach [] X.env))) := by rfl) :
    PE X (.Call (.Attribute o m apos) (e :: es) [] pos) (upE X.K Ed Ex (dMethX C m d Ed to tA)) := ⟨fun pins s σ H Q I h => by
  obtain ⟨δ, W, P, q, rs, rw, xa, h, kk⟩ := h
  refine PySem.W.methodCall_KW (pl := pl) (thn (ho.run pins s σ H (fun x H1 => ∃ a dx fs, x = .ref a ∧ H1 a = some (.ins C dx fs) ∧ fs.lookup m = none ∧ upA X.K Ed Ex tA σ H1 fun vs H2 => upSp X.K d (.ref a :: vs) H2 Q (WE Ex σ)) I ?_) fun u s1 ⟨x, H1, I1, rx, a, dx, fs, ex, ea, l, q⟩ => ?_) ht
  · refine ⟨δ, W, P, _, rs, rw, xa, h, fun ov W1 P1 v H1 s1 r1 rw1 h1 => ?_⟩
    obtain ⟨a, dx, xs, rfl, g1, g2⟩ := methOk_rep rw1 r1 hn h1.1
    refine ⟨a, dx, xs, rfl, g1, g2, δ, W1, P1, _, rs.step s1, rw1, xa.after s1, h1.2, fun ds W2 P2 vs H2 s2 r2 rw2 h2 => ?_⟩
    refine ⟨ov :: ds, W2, P2, q, _, repVs_cons (repV_step r1 s2) r2, rw2, h2, kk.after (s1.trans s2), fun c dx W3 P3 H3 s3 rw3 h3 => ?_⟩
    exact xa.after (s1.trans s2) c dx δ W3 P3 σ H3 s3 ((rs.step (s1.trans s2)).step s3) rw3 h3
  · subst ex
    obtain rfl : u = Value.ref a := rx
    refine getmeth_ok I1 ea c hm l ?_
    refine PySem.W.callWith_K (first := [.ref a]) (h₀ := X.base) I1.ok.mod.kin hm.kp (thn (ha.run pos pins s1 σ H1 _ I1 q) fun us s2 ⟨vs, H2, I2, r, q2⟩ => ⟨I2.kIn, ?_⟩) hst hpl
    exact run_fnS (us := .ref a :: us) (vs := .ref a :: vs) F hr hb (passAt tk σ) I2 (.cons rfl r) q2⟩
theorem de_methX0 {pl : Sem Bool} (ho : PE X o (upE X.K Ed Ex to)) (c : Cls X.K C) (hm : Meth X.K C m fn) (F : FnOk X.prog X.w X.K X.mg X.base (L2.CX X.prog X.w) k fn fd ps (upSp X.K d)) (hr : Room k X.A) (hb : Binds X.K fd ps []) (tk : Takes X Ex)
    (hn : objNames.contains m = false := by decide +kernel)
    (ht : eval (.Call (.Attribute o m apos) [] [] pos) X.env = (do
      let ov ← eval o X.env
      standAt apos.atName
      let (f, first) ← holding [ov] (getMethod ov m pl)
      callWith pos f first (backTo pos (starEach [] X.env)) (backToKw pos (keywordEach [] X.env))) := by rfl) :
    PE X (.Call (.Attribute o m apos) [] [] pos) (upE X.K Ed Ex (dMethX C m d Ed to dNil)) := ⟨fun pins s σ H Q I h => by
  obtain ⟨δ, W, P, q, rs, rw, xa, h, kk⟩ := h
  refine PySem.W.methodCall_KW (pl := pl) (thn (ho.run pins s σ H (fun x H1 => ∃ a dx fs, x = .ref a ∧ H1 a = some (.ins C dx fs) ∧ fs.lookup m = none ∧ upSp X.K d [.ref a] H1 Q (WE Ex σ)) I ?_) fun u s1 ⟨x, H1, I1, rx, a, dx, fs, ex, ea, l, q⟩ => ?_) ht
  · refine ⟨δ, W, P, _, rs, rw, xa, h, fun ov W1 P1 v H1 s1 r1 rw1 h1 => ?_⟩
    obtain ⟨a, dx, xs, rfl, g1, g2⟩ := methOk_rep rw1 r1 hn h1.1
    refine ⟨a, dx, xs, rfl, g1, g2, [ov], W1, P1, q, _, repVs_cons r1 rfl, rw1, h1.2, kk.after s1, fun c dx W3 P3 H3 s3 rw3 h3 => ?_⟩
    exact xa.after s1 c dx δ W3 P3 σ H3 s3 ((rs.step s1).step s3) rw3 h3
  · subst ex
    obtain rfl : u = Value.ref a := rx
    refine getmeth_ok I1 ea c hm l ?_
    refine PySem.W.callWith_K0 (first := [.ref a]) I1.kIn hm.kp ?_
    exact run_fnS (us := [.ref a]) (vs := [.ref a]) F hr hb (passAt tk σ) I1 (.cons rfl .nil) q⟩
/-! ### C() -/
theorem de_make0 (M : Mk X.K C fn) (F : FnOk X.prog X.w X.K X.mg X.base CX k fn fd ps (upSp X.K d)) (hr : Room (k + 1) X.A) (hg : Gl X x) (hm : X.mg x = some (.ref C)) (hb : Binds X.K fd ps []) (hx : Passes CX X E0)
    (hdb : (x == ("__debug__" : Str)) = false := by decide) : PE X (.Call (.Name x p) [] [] pos) (upE X.K Ed Ex (dMake C d dNil)) := (pe_make0 M F hr hg hm hb .nil hx hdb).imp fun σ H Q h => by
  obtain ⟨δ, W, P, q, rs, rw, x, h, k⟩ := h
  intro y dx hy hdx hne
  obtain ⟨f1, f2, _⟩ := rw.fresh hy
  have hy2 : upd H dx (.own y) y = none := by rw [upd_ne (Ne.symm hne)]; exact hy
  have s2 := (Step.new (K := X.K) (W := W) (P := P) (o := .own y) hdx).trans (Step.put (o := .ins C dx []) (d := .ins C []) hy2)
  have rw2 := (rw.new (o := .own y) hdx).put (o := .ins C dx []) (d := .ins C []) hy2 ⟨dx, [], rfl, rfl⟩
  exact ⟨[.ref y], _, P, _, E0D, repVs_cons rfl rfl, rw2, h y f1 f2, fun v W3 P3 u H3 s3 r3 rw3 h3 => ⟨by obtain ⟨rfl, _⟩ := h3; exact r3, k (.ref y) W3 P3 (.ref y) H3 (s2.trans s3) rfl rw3 h3.2⟩, fun _ _ _ _ _ _ _ z => z⟩
theorem de_make0H (M : Mk X.K C fn) (F : FnOk X.prog X.w X.K X.mg X.base CX k fn fd ps (upSp X.K d)) (hr : Room (k + 1) X.A) (hg : Gl X x) (hm : X.mg x = some (.ref C)) (hb : Binds X.K fd ps []) (hx : Passes CX X E0)
    (hdb : (x == ("__debug__" : Str)) = false := by decide) : PE X (.Call (.Name x p) [] [] pos) (upE X.K Ed Ex (dMakeH C d dNil)) := (pe_make0 M F hr hg hm hb .nil hx hdb).imp fun _ _ _ h => by
  obtain ⟨δ, W, P, q, rs, rw, x, h, k⟩ := h
  exact make_h (vs := []) (ds := []) k .refl rfl rw h
/-! ### o.f += e, d[k] += e -/
def addI (v y : D) (q : D → Prop) : Prop := match v, y with
  | .int i, .int j => q (.int (i + j))
  | _, _ => False
theorem rd_addI {i j : Int} {q : D → Prop} : addI (.int i) (.int j) q = q (.int (i + j)) := rfl
theorem addI_rep {K : PySem.W.Frag} {H H' : Hp} {v y : D} {u w : V} {q : D → Prop} (h : addI v y q) (r1 : repV K H v u) (r2 : repV K H' y w) : ∃ i j, u = .int i ∧ w = .int j ∧ q (.int (i + j)) := by
  cases v with
  | int i => cases y with
    | int j => exact ⟨i, j, r1, r2, h⟩
    | _ => exact h.elim
  | _ => exact h.elim
def dFldAug (C : Addr) (f : Str) (to te : TED) : TSD := fun E δ W => to δ W fun o W1 => fldV C f o W1 fun v W2 => te δ W2 fun y W3 => addI v y fun z => setFV C f z o W3 (E.nx δ)
theorem rd_fldaug {to te : TED} {E : EndsD} {δ : Sd} {W : Wd} : dFldAug C fld to te E δ W = to δ W fun o W1 => fldV C fld o W1 fun v W2 => te δ W2 fun y W3 => addI v y fun z => setFV C fld z o W3 (E.nx δ) := rfl
theorem ds_fldaug {fl : Str} (c : Cls X.K C) (n : NoAttr X.K C fl) (ho : PE X o (upE X.K Ed Ex to)) (he : PE X value (upE X.K Ed Ex te)) : PS X (.AugAssign (.Attribute o fl tpos) .Add value pos) (upS X.K Ed Ex (dFldAug C fl to te)) := (ps_fldaug ho he in_add).imp fun D σ H h => by
  obtain ⟨δ, W, P, E, rs, rw, x, h, k⟩ := h
  refine ⟨δ, W, P, _, rs, rw, x, h, fun d1 W1 P1 v1 H1 s1 r1 rw1 h1 => ?_⟩
  cases d1 with
  | ref a => ?_
  | _ => exact h1.elim
  obtain ⟨fs, e1, h2⟩ := insAt_inv h1
  obtain ⟨d, e2, h3⟩ := onSome_inv h2
  obtain ⟨u, g1, dx, xs, rfl, g2⟩ := rw1.vis _ _ e1
  obtain ⟨w, l, rd⟩ := repKV_look g2 e2
  refine ⟨a, C, dx, xs, w, r1, g1, c, n, l, δ, W1, P1, _, rs.step s1, rw1, x.after s1, h3, fun d2 W2 P2 v2 H2 s2 r2 rw2 h4 => ?_⟩
  obtain ⟨i, j, rfl, rfl, h5⟩ := addI_rep h4 rd r2
  obtain ⟨fs', e3, hl, h6⟩ := insAt_inv h5
  obtain ⟨u, g3, dx', xs', rfl, g4⟩ := rw2.vis _ _ e3
  have sw := Step.write (o := .ins C dx' (putF fl (.int (i + j)) xs')) (d := .ins C (putD fl (.int (i + j)) fs')) rw2 e3
  refine ⟨i, j, rfl, rfl, dx', xs', g3, by rw [← repKV_len g4]; exact hl, ?_⟩
  exact k.nx δ _ P2 σ _ ((s1.trans s2).trans sw) (rs.step ((s1.trans s2).trans sw)) (rw2.write e3 ⟨dx', _, rfl, repKV_mono sw.tup _ (repKV_putF (d := .int (i + j)) (v := .int (i + j)) rfl g4)⟩) h6
def dDAug (td ty te : TED) : TSD := fun E δ W => td δ W fun o W1 => ty δ W1 fun y W2 => dgV o y W2 fun r => onSome r fun v => te δ W2 fun z W3 => addI v z fun t => dpV o y t W3 (E.nx δ)
theorem rd_daug {td ty te : TED} {E : EndsD} {δ : Sd} {W : Wd} : dDAug td ty te E δ W = td δ W fun o W1 => ty δ W1 fun y W2 => dgV o y W2 fun r => onSome r fun v => te δ W2 fun z W3 => addI v z fun t => dpV o y t W3 (E.nx δ) := rfl
/-- what is put into a dict -/
theorem dpV_put {K : PySem.W.Frag} {W : Wd} {P : Addr → Dh} {H : Hp} {a : Addr} {y v : D} {w u : V} {g : Wd → Prop} (rw : RepW K W P H) (ry : repV K H y w) (rv : repV K H v u) (h : dpV (.ref a) y v W g) :
    ∃ H' W', DPut H a w u H' ∧ Step K W P H W' P H' ∧ RepW K W' P H' ∧ g W' := by
  simp only [dpV, dpAt] at h
  split at h
  · rename_i kvs e1
    obtain ⟨kk, e2, hz, h4⟩ := onSome_inv h
    obtain ⟨u', g1, xs, rfl, g2⟩ := rw.vis _ _ e1
    rw [keyK_rep ry e2]
    have sw := Step.write (o := .dK (putK xs kk u)) (d := .dK (setD kvs kk v)) rw e1
    exact ⟨_, _, .k g1 (by rw [← repKV_len g2]; exact hz.lt), sw, rw.write e1 ⟨_, rfl, repKV_set (repV_step rv sw) (repKV_mono sw.tup _ g2)⟩, h4⟩
  · rename_i kvs e1
    obtain ⟨kk, e2, hz, h4⟩ := onSome_inv h
    obtain ⟨u', g1, xs, rfl, g2⟩ := rw.vis _ _ e1
    obtain ⟨b, rfl, g3⟩ := keyT_rep ry e2
    have sw := Step.write (o := .dT (putK xs kk u)) (d := .dT (setD kvs kk v)) rw e1
    exact ⟨_, _, .t g1 g3 (by rw [← repKV_len g2]; exact hz.lt), sw, rw.write e1 ⟨_, rfl, repKV_set (repV_step rv sw) (repKV_mono sw.tup _ g2)⟩, h4⟩
  · exact h.elim
theorem ds_daug (hu : X.A.units + 1 < cLine) (ho : PE X o (upE X.K Ed Ex td)) (hi : PE X i (upE X.K Ed Ex ty)) (hv : PE X value (upE X.K Ed Ex te))
    (ha : ∀ ov iv new, augStore i ov iv new = (do holding [new, ov, iv] (setItem ov iv new); release [new, ov, iv] []; pure .next) := by exact fun _ _ _ => rfl) :
    PS X (.AugAssign (.Subscript o i tpos) .Add value pos) (upS X.K Ed Ex (dDAug td ty te)) := (ps_daug hu ho hi hv in_add ha).imp fun D σ H h => by
  obtain ⟨δ, W, P, E, rs, rw, x, h, k⟩ := h
  refine ⟨δ, W, P, _, rs, rw, x, h, fun d1 W1 P1 v1 H1 s1 r1 rw1 h1 => ?_⟩
  refine ⟨δ, W1, P1, _, rs.step s1, rw1, x.after s1, h1, fun d2 W2 P2 v2 H2 s2 r2 rw2 h2 => ?_⟩
  have r1' := repV_step r1 s2
  obtain ⟨a, o', w', rfl, h3, hg, hc⟩ := dgV_rep rw2 r1' r2 h2
  rcases hc with ⟨rfl, rfl⟩ | ⟨d, u, rfl, rfl, rd⟩
  · exact h3.elim
  refine ⟨a, u, rfl, hg, δ, W2, P2, _, rs.step (s1.trans s2), rw2, x.after (s1.trans s2), h3, fun d3 W3 P3 v3 H3 s3 r3 rw3 h4 => ?_⟩
  obtain ⟨i, j, rfl, rfl, h5⟩ := addI_rep h4 rd r3
  have e1 : d1 = .ref a := by
    cases d1 <;> simp only [repV] at r1' <;> first | (cases r1'; rfl) | (obtain ⟨_, _, e, _⟩ := r1'; exact h2.elim) | exact h2.elim
  subst e1
  obtain ⟨H', W', g1, g2, g3, g4⟩ := dpV_put rw3 (repV_step r2 s3) (show repV X.K H3 (.int (i + j)) (.int (i + j)) from rfl) h5
  exact ⟨i, j, rfl, rfl, H', g1, k.nx δ _ P3 σ _ (((s1.trans s2).trans s3).trans g2) (rs.step (((s1.trans s2).trans s3).trans g2)) g3 g4⟩
end
end DL

namespace DL
open PySem L2
/-! ### dicts by their methods -/
def isDo (o : Option DO) : Prop := match o with
  | some (.dK _) => True
  | some (.dT _) => True
  | _ => False
def isDD (o : D) (W : Wd) : Prop := match o with
  | .ref a => isDo (W.hp a)
  | _ => False
theorem rd_isDD {a : Addr} {W : Wd} : isDD (.ref a) W = isDo (W.hp a) := rfl
theorem isDo_K {kvs : List (Key × D)} : isDo (some (.dK kvs)) = True := rfl
theorem isDo_T {kvs : List (List Key × D)} : isDo (some (.dT kvs)) = True := rfl
theorem isDD_rep {K : PySem.W.Frag} {W : Wd} {P : Addr → Dh} {H : Hp} {o : D} {v : V} (rw : RepW K W P H) (r : repV K H o v) (h : isDD o W) : ∃ a, o = .ref a ∧ v = .ref a ∧ IsD H a := by
  cases o with
  | ref a =>
    refine ⟨a, rfl, r, ?_⟩
    simp only [isDD, isDo] at h
    split at h
    · rename_i kvs e
      obtain ⟨u, g, xs, rfl, _⟩ := rw.vis _ _ e
      exact .inl ⟨xs, .inl g⟩
    · rename_i kvs e
      obtain ⟨u, g, xs, rfl, _⟩ := rw.vis _ _ e
      exact .inr ⟨xs, .inl g⟩
    · exact h.elim
  | _ => exact h.elim
def onDK (o : Option DO) (g : List (Key × D) → Prop) : Prop := match o with
  | some (.dK kvs) => g kvs
  | _ => False
theorem on_dK {kvs : List (Key × D)} {g : List (Key × D) → Prop} : onDK (some (.dK kvs)) g = g kvs := rfl
theorem onDK_inv {o : Option DO} {g : List (Key × D) → Prop} (h : onDK o g) : ∃ kvs, o = some (.dK kvs) ∧ g kvs := by
  unfold onDK at h
  split at h
  · exact ⟨_, rfl, h⟩
  · exact h.elim
def optD (o : Option D) (f : D → Prop) (n : Prop) : Prop := match o with
  | some d => f d
  | none => n
theorem optD_some {d : D} {f : D → Prop} {n : Prop} : optD (some d) f n = f d := rfl
theorem optD_none {f : D → Prop} {n : Prop} : optD none f n = n := rfl
/-- d.get(k, x) -/
def dGet2 (td ty tx : TED) : TED := fun δ W q => td δ W fun o W1 => isDD o W1 ∧ ty δ W1 fun y W2 => tx δ W2 fun z W3 => dgV o y W3 fun r => optD r (fun d => q d W3) (q z W3)
theorem rd_get2 {td ty tx : TED} {δ : Sd} {W : Wd} {q : DK} : dGet2 td ty tx δ W q = td δ W fun o W1 => isDD o W1 ∧ ty δ W1 fun y W2 => tx δ W2 fun z W3 => dgV o y W3 fun r => optD r (fun d => q d W3) (q z W3) := rfl
/-- d.pop(k), d.pop(k, x) -/
def popV (o y : D) (W : Wd) (f : D → Wd → Prop) (n : Prop) : Prop := match o with
  | .ref a => onDK (W.hp a) fun kvs => onSome (keyK y) fun k => optD (valD kvs k) (fun d => f d (W.put a (.dK (cutK kvs k)))) n
  | _ => False
theorem rd_popV {a : Addr} {y : D} {W : Wd} {f : D → Wd → Prop} {n : Prop} : popV (.ref a) y W f n = onDK (W.hp a) fun kvs => onSome (keyK y) fun k => optD (valD kvs k) (fun d => f d (W.put a (.dK (cutK kvs k)))) n := rfl
def dPop1 (td ty : TED) : TED := fun δ W q => td δ W fun o W1 => isDD o W1 ∧ ty δ W1 fun y W2 => popV o y W2 q False
theorem rd_pop1 {td ty : TED} {δ : Sd} {W : Wd} {q : DK} : dPop1 td ty δ W q = td δ W fun o W1 => isDD o W1 ∧ ty δ W1 fun y W2 => popV o y W2 q False := rfl
def dPop2 (td ty tx : TED) : TED := fun δ W q => td δ W fun o W1 => isDD o W1 ∧ ty δ W1 fun y W2 => tx δ W2 fun z W3 => popV o y W3 q (q z W3)
theorem rd_pop2 {td ty tx : TED} {δ : Sd} {W : Wd} {q : DK} : dPop2 td ty tx δ W q = td δ W fun o W1 => isDD o W1 ∧ ty δ W1 fun y W2 => tx δ W2 fun z W3 => popV o y W3 q (q z W3) := rfl
/-- d.setdefault(k, x) -/
def setdV (o y z : D) (W : Wd) (q : DK) : Prop := match o with
  | .ref a => onDK (W.hp a) fun kvs => onSome (keyK y) fun k => Sz kvs.length ∧ optD (valD kvs k) (fun d => q d W) (q z (W.put a (.dK (setD kvs k z))))
  | _ => False
theorem rd_setdV {a : Addr} {y z : D} {W : Wd} {q : DK} : setdV (.ref a) y z W q = onDK (W.hp a) fun kvs => onSome (keyK y) fun k => Sz kvs.length ∧ optD (valD kvs k) (fun d => q d W) (q z (W.put a (.dK (setD kvs k z)))) := rfl
def dSetd (td ty tx : TED) : TED := fun δ W q => td δ W fun o W1 => isDD o W1 ∧ ty δ W1 fun y W2 => tx δ W2 fun z W3 => setdV o y z W3 q
theorem rd_setd {td ty tx : TED} {δ : Sd} {W : Wd} {q : DK} : dSetd td ty tx δ W q = td δ W fun o W1 => isDD o W1 ∧ ty δ W1 fun y W2 => tx δ W2 fun z W3 => setdV o y z W3 q := rfl
section
variable {X : Cx} {Ed : WXD} {Ex : WX} {o e f : Expr} {td ty tx : TED} {apos cpos : Pos}
theorem de_get2 (hu : X.A.units + 1 < cLine) (ho : PE X o (upE X.K Ed Ex td)) (he : PE X e (upE X.K Ed Ex ty)) (hf : PE X f (upE X.K Ed Ex tx)) (m : M2 X o "get" apos e f cpos) : PE X (.Call (.Attribute o "get" apos) [e, f] [] cpos) (upE X.K Ed Ex (dGet2 td ty tx)) := (pe_dget2 hu ho he hf m).imp fun σ H Q h => by
  obtain ⟨δ, W, P, q, rs, rw, x, h, k⟩ := h
  refine ⟨δ, W, P, _, rs, rw, x, h, fun d1 W1 P1 v1 H1 s1 r1 rw1 h1 => ?_⟩
  obtain ⟨a, rfl, rfl, hd⟩ := isDD_rep rw1 r1 h1.1
  refine ⟨a, rfl, hd, δ, W1, P1, _, rs.step s1, rw1, x.after s1, h1.2, fun d2 W2 P2 v2 H2 s2 r2 rw2 h2 => ?_⟩
  refine ⟨δ, W2, P2, _, rs.step (s1.trans s2), rw2, x.after (s1.trans s2), h2, fun d3 W3 P3 v3 H3 s3 r3 rw3 h3 => ?_⟩
  obtain ⟨a', o', w', e, h4, hg, hc⟩ := dgV_rep rw3 (show repV X.K H3 (.ref a) (.ref a) from rfl) (repV_step r2 s3) h3
  cases e
  have st := (s1.trans s2).trans s3
  rcases hc with ⟨rfl, rfl⟩ | ⟨d, u, rfl, rfl, rd⟩
  · exact ⟨none, hg, k _ _ P3 _ _ st r3 rw3 h4⟩
  · exact ⟨some u, hg, k _ _ P3 _ _ st rd rw3 h4⟩
theorem pop_rep {K : PySem.W.Frag} {W : Wd} {P : Addr → Dh} {H : Hp} {a : Addr} {y : D} {w : V} {g : D → Wd → Prop} {n : Prop} (rw : RepW K W P H) (ry : repV K H y w) (h : popV (.ref a) y W g n) :
    ∃ kvs k, H a = some (.dK kvs) ∧ w = kV k ∧ ((valV kvs k = none ∧ n) ∨ ∃ v d W', valV kvs k = some v ∧ repV K (upd H a (.dK (dropK kvs k))) d v ∧ Step K W P H W' P (upd H a (.dK (dropK kvs k))) ∧ RepW K W' P (upd H a (.dK (dropK kvs k))) ∧ g d W') := by
  obtain ⟨kvs, e1, h1⟩ := onDK_inv h
  obtain ⟨kk, e2, h2⟩ := onSome_inv h1
  obtain ⟨u, g1, xs, rfl, g2⟩ := rw.vis _ _ e1
  refine ⟨xs, kk, g1, keyK_rep ry e2, ?_⟩
  rcases repKV_val (k := kk) g2 with ⟨q1, q2⟩ | ⟨d, v, q1, q2, q3⟩
  · rw [q1] at h2
    exact .inl ⟨q2, h2⟩
  · rw [q1] at h2
    have sw := Step.write (o := .dK (dropK xs kk)) (d := .dK (cutK kvs kk)) rw e1
    exact .inr ⟨v, d, _, q2, repV_step q3 sw, sw, rw.write e1 ⟨_, rfl, repKV_mono sw.tup _ (repKV_cut g2)⟩, h2⟩
theorem de_pop1 (ho : PE X o (upE X.K Ed Ex td)) (he : PE X e (upE X.K Ed Ex ty)) (m : M1 X o "pop" apos e cpos) : PE X (.Call (.Attribute o "pop" apos) [e] [] cpos) (upE X.K Ed Ex (dPop1 td ty)) := (pe_dpop1 ho he m).imp fun σ H Q h => by
  obtain ⟨δ, W, P, q, rs, rw, x, h, k⟩ := h
  refine ⟨δ, W, P, _, rs, rw, x, h, fun d1 W1 P1 v1 H1 s1 r1 rw1 h1 => ?_⟩
  obtain ⟨a, rfl, rfl, hd⟩ := isDD_rep rw1 r1 h1.1
  refine ⟨a, rfl, hd, δ, W1, P1, _, rs.step s1, rw1, x.after s1, h1.2, fun d2 W2 P2 v2 H2 s2 r2 rw2 h2 => ?_⟩
  obtain ⟨kvs, kk, g1, g2, hc⟩ := pop_rep rw2 r2 h2
  rcases hc with ⟨_, h3⟩ | ⟨v, d, W3, g3, g4, g5, g6, g7⟩
  · exact h3.elim
  · exact ⟨kvs, kk, v, g1, g2, g3, k _ _ P2 _ _ ((s1.trans s2).trans g5) g4 g6 g7⟩
theorem de_pop2 (ho : PE X o (upE X.K Ed Ex td)) (he : PE X e (upE X.K Ed Ex ty)) (hf : PE X f (upE X.K Ed Ex tx)) (m : M2 X o "pop" apos e f cpos) : PE X (.Call (.Attribute o "pop" apos) [e, f] [] cpos) (upE X.K Ed Ex (dPop2 td ty tx)) := (pe_dpop2 ho he hf m).imp fun σ H Q h => by
  obtain ⟨δ, W, P, q, rs, rw, x, h, k⟩ := h
  refine ⟨δ, W, P, _, rs, rw, x, h, fun d1 W1 P1 v1 H1 s1 r1 rw1 h1 => ?_⟩
  obtain ⟨a, rfl, rfl, hd⟩ := isDD_rep rw1 r1 h1.1
  refine ⟨a, rfl, hd, δ, W1, P1, _, rs.step s1, rw1, x.after s1, h1.2, fun d2 W2 P2 v2 H2 s2 r2 rw2 h2 => ?_⟩
  refine ⟨δ, W2, P2, _, rs.step (s1.trans s2), rw2, x.after (s1.trans s2), h2, fun d3 W3 P3 v3 H3 s3 r3 rw3 h3 => ?_⟩
  obtain ⟨kvs, kk, g1, g2, hc⟩ := pop_rep rw3 (repV_step r2 s3) h3
  refine ⟨kvs, kk, g1, g2, fun v ev => ?_, fun en => ?_⟩
  · rcases hc with ⟨g3, _⟩ | ⟨v', d, W4, g3, g4, g5, g6, g7⟩
    · rw [g3] at ev; cases ev
    · rw [g3] at ev; cases ev
      exact k _ _ P3 _ _ (((s1.trans s2).trans s3).trans g5) g4 g6 g7
  · rcases hc with ⟨g3, h4⟩ | ⟨v', d, W4, g3, _⟩
    · exact k _ _ P3 _ _ ((s1.trans s2).trans s3) r3 rw3 h4
    · rw [g3] at en; cases en
theorem de_setd (ho : PE X o (upE X.K Ed Ex td)) (he : PE X e (upE X.K Ed Ex ty)) (hf : PE X f (upE X.K Ed Ex tx)) (m : M2 X o "setdefault" apos e f cpos) : PE X (.Call (.Attribute o "setdefault" apos) [e, f] [] cpos) (upE X.K Ed Ex (dSetd td ty tx)) := (pe_dsetd ho he hf m).imp fun σ H Q h => by
  obtain ⟨δ, W, P, q, rs, rw, x, h, k⟩ := h
  refine ⟨δ, W, P, _, rs, rw, x, h, fun d1 W1 P1 v1 H1 s1 r1 rw1 h1 => ?_⟩
  obtain ⟨a, rfl, rfl, hd⟩ := isDD_rep rw1 r1 h1.1
  refine ⟨a, rfl, hd, δ, W1, P1, _, rs.step s1, rw1, x.after s1, h1.2, fun d2 W2 P2 v2 H2 s2 r2 rw2 h2 => ?_⟩
  refine ⟨δ, W2, P2, _, rs.step (s1.trans s2), rw2, x.after (s1.trans s2), h2, fun d3 W3 P3 v3 H3 s3 r3 rw3 h3 => ?_⟩
  obtain ⟨kvs, e1, h4⟩ := onDK_inv h3
  obtain ⟨kk, e2, hz, h5⟩ := onSome_inv h4
  obtain ⟨u, g1, xs, rfl, g2⟩ := rw3.vis _ _ e1
  have st := (s1.trans s2).trans s3
  refine ⟨xs, kk, g1, keyK_rep (repV_step r2 s3) e2, by rw [← repKV_len g2]; exact hz.lt, fun v ev => ?_, fun en => ?_⟩
  · rcases repKV_val (k := kk) g2 with ⟨_, q2⟩ | ⟨d, v', q1, q2, q3⟩
    · rw [q2] at ev; cases ev
    · rw [q2] at ev; cases ev
      rw [q1] at h5
      exact k _ _ P3 _ _ st q3 rw3 h5
  · rcases repKV_val (k := kk) g2 with ⟨q1, _⟩ | ⟨d, v', q1, q2, q3⟩
    · rw [q1] at h5
      have sw := Step.write (o := .dK (putK xs kk v3)) (d := .dK (setD kvs kk d3)) rw3 e1
      exact k _ _ P3 _ _ (st.trans sw) (repV_step r3 sw) (rw3.write e1 ⟨_, rfl, repKV_set (repV_step r3 sw) (repKV_mono sw.tup _ g2)⟩) h5
    · rw [q2] at en; cases en
end
/-! ### len(d), list(d) -/
section
variable {X : Cx}
def dLenD : DCR := fun ds W q => match ds with
  | [.ref a] => onDK (W.hp a) fun kvs => q (.int kvs.length) W
  | _ => False
theorem rd_lenD {a : Addr} {W : Wd} {q : DK} : dLenD [.ref a] W q = onDK (W.hp a) fun kvs => q (.int kvs.length) W := rfl
theorem dc_lenD : CallR X (.builtin "len") (upC X.K dLenD) := call_lenD.imp fun xs H Q h => by
  obtain ⟨ds, W, P, q, r, rw, h, k⟩ := h
  unfold dLenD at h
  split at h
  · rename_i a
    obtain ⟨v, rfl, r2⟩ := rep1 r
    obtain ⟨kvs, e1, h1⟩ := onDK_inv h
    obtain ⟨u, g1, ys, rfl, g2⟩ := rw.vis _ _ e1
    refine ⟨a, ys, by rw [show v = V.ref a from r2], g1, ?_⟩
    rw [← repKV_len g2]
    exact k (.int _) W P _ H .refl rfl rw h1
  · exact h.elim
def dListD : List D → Wd → (List D → Wd → Prop) → Prop := fun ds W q => match ds with
  | [.ref a] => onDK (W.hp a) fun kvs => q (kvs.map fun p => keyOf p.1) W
  | _ => False
theorem rd_listD {a : Addr} {W : Wd} {q : List D → Wd → Prop} : dListD [.ref a] W q = onDK (W.hp a) fun kvs => q (kvs.map fun p => keyOf p.1) W := rfl
theorem rep_keys {K : PySem.W.Frag} {H : Hp} : ∀ {kvs : List (Key × D)} {xs : List (Key × V)}, repKV K H kvs xs → repVs K H (kvs.map fun p => keyOf p.1) (xs.map fun p => kV p.1)
  | [], _, h => by rw [show _ = [] from h]; rfl
  | p :: ps, _, h => by
    obtain ⟨v, r, rfl, h1, h2⟩ := h
    exact ⟨_, _, rfl, rep_key, rep_keys h2⟩
theorem dc_listD (hc : X.calm = true) : CallR X (.type "list") (upCL X.K dListD) := (call_list_dK hc).imp fun xs H Q h => by
  obtain ⟨ds, W, P, q, r, rw, h, k⟩ := h
  unfold dListD at h
  split at h
  · rename_i a
    obtain ⟨v, rfl, r2⟩ := rep1 r
    obtain ⟨kvs, e1, h1⟩ := onDK_inv h
    obtain ⟨u, g1, ys, rfl, g2⟩ := rw.vis _ _ e1
    exact ⟨a, ys, by rw [show v = V.ref a from r2], g1, arr_newLst k (rep_keys g2) rw h1⟩
  · exact h.elim
end
/-! ### values, items of a locked dict -/
def itVl (d : D) (W : Wd) (q : ItD → Wd → Prop) : Prop := match d with
  | .ref a => onFz (W.hp a) fun o xs kvs => q ⟨kvs.map fun p => p.2, fun W => W.hp a = some (.fz o xs kvs)⟩ W
  | _ => False
theorem rd_itVlr {a : Addr} {W : Wd} {q : ItD → Wd → Prop} : itVl (.ref a) W q = onFz (W.hp a) fun o xs kvs => q ⟨kvs.map fun p => p.2, fun W => W.hp a = some (.fz o xs kvs)⟩ W := rfl
def dItVl (ta : TED) : TID := fun δ W q => ta δ W fun d W1 => itVl d W1 q
theorem rd_itVl {ta : TED} {δ : Sd} {W : Wd} {q : ItD → Wd → Prop} : dItVl ta δ W q = ta δ W fun d W1 => itVl d W1 q := rfl
def itIt (d : D) (W : Wd) (q : ItD → Wd → Prop) : Prop := match d with
  | .ref a => onFz (W.hp a) fun o xs kvs => q ⟨kvs.map fun p => .tup [keyOf p.1, p.2], fun W => W.hp a = some (.fz o xs kvs)⟩ W
  | _ => False
theorem rd_itItr {a : Addr} {W : Wd} {q : ItD → Wd → Prop} : itIt (.ref a) W q = onFz (W.hp a) fun o xs kvs => q ⟨kvs.map fun p => .tup [keyOf p.1, p.2], fun W => W.hp a = some (.fz o xs kvs)⟩ W := rfl
def dItIt (ta : TED) : TID := fun δ W q => ta δ W fun d W1 => itIt d W1 q
theorem rd_itIt {ta : TED} {δ : Sd} {W : Wd} {q : ItD → Wd → Prop} : dItIt ta δ W q = ta δ W fun d W1 => itIt d W1 q := rfl
theorem onFz_inv {o : Option DO} {g : Obj → List (Key × V) → List (Key × D) → Prop} (h : onFz o g) : ∃ ob xs kvs, o = some (.fz ob xs kvs) ∧ g ob xs kvs := by
  unfold onFz at h
  split at h
  · exact ⟨_, _, _, rfl, h⟩
  · exact h.elim
section
variable {X : Cx} {Ed : WXD} {Ex : WX} {e tg : Expr} {ta : TED} {apos cpos tpos : Pos} {elts : List Expr} {kk : Nat}
theorem di_values (ha : PE X e (upE X.K Ed Ex ta)) (hbase : attributeBase e "values" X.env (eval e X.env) = eval e X.env := by rfl) (hline : (apos.endLine == cpos.line) = true := by rfl) : PI X tg (.Call (.Attribute e "values" apos) [] [] cpos) (upI X.K Ed Ex (dItVl ta)) := (pi_values ha hbase hline).imp fun _ _ _ h => by
  obtain ⟨δ, W, P, q, rs, rw, x, h, k⟩ := h
  refine ⟨δ, W, P, _, rs, rw, x, h, fun d W1 P1 v H1 s1 r1 rw1 h1 => ?_⟩
  cases d with
  | ref a => ?_
  | _ => exact h1.elim
  obtain ⟨o, xs, kvs, e1, h2⟩ := onFz_inv h1
  obtain ⟨u, g1, rfl, g2⟩ := rw1.vis _ _ e1
  refine ⟨a, o, xs, r1, g1, k _ W1 P1 _ H1 s1 rw1 (fun i W2 P2 H2 s2 rw2 hg => ?_) h2⟩
  obtain ⟨u, g3, rfl, g4⟩ := rw2.vis _ _ hg
  refine ⟨fun d ed => ?_, fun hl => ⟨g3, by rw [← repKV_len g4]; simpa using hl⟩⟩
  simp only [List.getElem?_map, Option.map_eq_some_iff] at ed
  obtain ⟨p, ep, rfl⟩ := ed
  obtain ⟨w, e5, r5⟩ := repKV_at g4 ep
  refine ⟨⟨g3, (List.getElem?_eq_some_iff.mp e5).1⟩, ?_⟩
  rintro y H' ⟨rfl, k', e6⟩
  rw [e5] at e6; cases e6
  exact ⟨.refl, r5, rw2⟩
theorem di_items (ha : PE X e (upE X.K Ed Ex ta)) (hbase : attributeBase e "items" X.env (eval e X.env) = eval e X.env := by rfl) (hline : (apos.endLine == cpos.line) = true := by rfl) : PI X (.Tuple elts kk tpos) (.Call (.Attribute e "items" apos) [] [] cpos) (upI X.K Ed Ex (dItIt ta)) := (pi_items ha hbase hline).imp fun _ _ _ h => by
  obtain ⟨δ, W, P, q, rs, rw, x, h, k⟩ := h
  refine ⟨δ, W, P, _, rs, rw, x, h, fun d W1 P1 v H1 s1 r1 rw1 h1 => ?_⟩
  cases d with
  | ref a => ?_
  | _ => exact h1.elim
  obtain ⟨o, xs, kvs, e1, h2⟩ := onFz_inv h1
  obtain ⟨u, g1, rfl, g2⟩ := rw1.vis _ _ e1
  refine ⟨a, o, xs, r1, g1, k _ W1 P1 _ H1 s1 rw1 (fun i W2 P2 H2 s2 rw2 hg => ?_) h2⟩
  obtain ⟨u, g3, rfl, g4⟩ := rw2.vis _ _ hg
  refine ⟨fun d ed => ?_, fun hl => ⟨g3, by rw [← repKV_len g4]; simpa using hl⟩⟩
  simp only [List.getElem?_map, Option.map_eq_some_iff] at ed
  obtain ⟨p, ep, rfl⟩ := ed
  obtain ⟨w, e5, r5⟩ := repKV_at g4 ep
  refine ⟨⟨g3, (List.getElem?_eq_some_iff.mp e5).1⟩, ?_⟩
  rintro y H' ⟨T, k', v', e6, rfl, hT, rfl⟩
  rw [e5] at e6; cases e6
  exact pair_rep rw2 hT rep_key r5
end
end DL

namespace DL
open PySem L2 PySem.Spec PyProof.Rows SrtO
/-! ### sorted(t) of a tuple, sorted(d) of a dict's keys -/
section
variable {X : Cx} {pins : List (Addr × Obj)} {σ : L2.St} {H : Hp} {s : Shared}
theorem sorted_gen {x : Value} {xs : List V} {ds : List D} {W : Wd} {P : Addr → Dh} {q : List D → Wd → Prop} {Q : VK} (I : Inv X pins σ H s) (rw : RepW X.K W P H) (r1 : repVs X.K H ds xs) (hz : xs.length ≤ sizeLine) (h : rSortT ds W q) (kk : ArrL X.K W P H q Q)
    (coll : ∀ (R : List Value → Shared → Prop) (E : Value → Shared → Prop), (∀ (us : List Value) (h' : Heap) (tk : Nat), (∀ b o, s.heap.get? b = some o → h'.get? b = some o) → Vals xs us → R us { s with heap := h', toks := tk }) → wpAny (model X.prog X.w) X.A.in1 (collect x) R E s)
    (harg : argsOk "sorted" ⟨[x], []⟩) :
    wpAny (model X.prog X.w) X.A (call (.builtin "sorted") [x]) (EP X pins σ Q) X.xe s := by
  obtain ⟨b, m, kf, hbm, hm, hk, hn, hq⟩ := h
  refine Calls.call_function_entry kind_sorted plain_sorted entry_sorted harg ?_
  unfold Builtin.«sorted»
  refine wpAny_bind (m := checkCount "sorted" 1 1 _) (wpAny_pure ?_)
  refine wpAny_bind (coll _ _ fun its h1 tk1 k1 rv => ?_)
  have hzi : its.length ≤ sizeLine := by rw [← rv.length]; exact hz
  refine wpAny_bind (wpAny_newList ?_ hzi)
  have I1 : Inv X pins σ H { s with heap := h1, toks := tk1 } := I.kept k1
  have hoL : (h1.push (seqObj "list" its.toArray 0)).get? h1.objs.size = some (seqObj "list" its.toArray 0) := Heap.get?_push_size _ rfl
  have k2 : ∀ b o, h1.get? b = some o → (h1.push (seqObj "list" its.toArray 0)).get? b = some o := fun b o e => Heap.get?_push_of_some _ e
  have r1' : repVs X.K H (ds.map id) xs := by rw [List.map_id]; exact r1
  show wpAny _ _ _ _ _ { s with heap := h1.push (seqObj "list" its.toArray 0), toks := tk1 }
  refine wpAny_bind (wpAny_holding (wpAny_call_entry slot_list_sort ⟨_, hoL, rfl⟩ entry_list_sort (list_sort_ord (ltv := fun v u => lexI (kOf h1 m v) (kOf h1 m u)) (swo_lexI fun v : Value => kOf h1 m v) hoL hzi (fun h2 => ?_) fun out hs hb => ⟨_, rfl, ?_⟩) (args_list_sort _)))
  · intro h' kp'
    exact rank_cmp (s := { s with heap := h1, toks := tk1 }) (s' := { s with heap := h', toks := tk1 }) I1 hbm hm hk hn r1' rv h2 fun b o hc ho => by
      refine kp' b o (fun e => ?_) (k2 b o ho)
      rw [e] at ho
      exact absurd (Heap.lt_size ho) (Nat.lt_irrefl _)
  · have hp : (out.map fun v => ((v, v) : Keyed)).Perm (its.zip its) := by
      have := hb.perm.map fun v : Value => ((v, v) : Keyed)
      rw [SrtR.zip_self]
      exact this
    have hs' : Srtd (fun p q : Keyed => lexI (kOf h1 m p.1) (kOf h1 m q.1)) (out.map fun v => ((v, v) : Keyed)) := List.pairwise_map.mpr hs
    obtain ⟨ds', ys, g1, g2, g3, g4⟩ := rank_out I1 hk r1' rv r1 rv hp hs'
    have g4 : Vals ys out := by
      have e : (out.map fun v => ((v, v) : Keyed)).map (fun p => p.2) = out := by rw [List.map_map]; exact List.map_id _
      rw [e] at g4
      exact g4
    obtain ⟨ep, he'⟩ := sortedHeap_at (out := out.toArray) hoL
    have hlen : ys.length ≤ sizeLine := by
      rw [← repVs_len g3, g1.length_eq, repVs_len r1]; exact hz
    have k3 : ∀ b o, h1.get? b = some o → (sortedHeap (h1.push (seqObj "list" its.toArray 0)) h1.objs.size its out.toArray).get? b = some o := fun b o e => by
      have hlt := Heap.lt_size e
      rw [sortedHeap_old (Nat.ne_of_lt hlt) (by rw [size_push']; exact Nat.lt_succ_of_lt hlt)]
      exact k2 b o e
    have hf : H h1.objs.size = none := I1.hok.fresh (Nat.le_refl _)
    refine wpAny_pure ⟨_, rfl, ?_⟩
    refine ⟨.ref _, upd H h1.objs.size (.lst ys), I1.laid (t' := tk1) k3 (Nat.le_refl _) ⟨hlen, out, ep, g4, he'⟩, rfl, ?_⟩
    exact kk ds' W P _ ys _ (Step.new hf) hf upd_same (fun h => (rw.tracked h) hf) (repVs_mono (tupLe_upd (.inl hf)) ds' g3) (rw.new hf) (hq ds' g1 g2)
end
section
variable {X : Cx}
def dSortedV : List D → Wd → (List D → Wd → Prop) → Prop := fun vs W q => match vs with
  | [.tup ds] => rSortT ds W q
  | [.ref a] => onDK (W.hp a) fun kvs => rSortT (kvs.map fun p => keyOf p.1) W q
  | _ => False
theorem rd_sortedVt {ds : List D} {W : Wd} {q : List D → Wd → Prop} : dSortedV [.tup ds] W q = rSortT ds W q := rfl
theorem rd_sortedVd {a : Addr} {W : Wd} {q : List D → Wd → Prop} : dSortedV [.ref a] W q = onDK (W.hp a) fun kvs => rSortT (kvs.map fun p => keyOf p.1) W q := rfl
theorem dc_sortedV (hcalm : X.calm = true) : CallR X (.builtin "sorted") (upCL X.K dSortedV) := by
  intro pins s σ H xs us Q I r h
  obtain ⟨ds, W, P, q, rr, rw, h, kk⟩ := h
  unfold dSortedV at h
  split at h
  · rename_i es
    obtain ⟨v, rfl, a, ys, rfl, hs, r2⟩ := rep1 rr
    obtain rfl := Vals.ref1 r
    obtain ⟨its, rv, ⟨o, ho, hc, n, hd⟩, hz⟩ := I.tuple hs.1
    refine sorted_gen I rw r2 hz h kk (fun R E hR => ?_) (args_sorted1 _)
    refine wpAny_collect_seq a (.inr rfl) ho hc hd (fun h' k => ?_) (by rw [List.size_toArray, ← rv.length]; exact hz)
    exact hR _ h' s.toks k (by simpa using rv)
  · rename_i a
    obtain ⟨kvs, e1, h1⟩ := onDK_inv h
    obtain ⟨v, rfl, r2⟩ := rep1 rr
    have r2 : v = .ref a := r2
    subst r2
    obtain rfl := Vals.ref1 r
    obtain ⟨u, g1, ks, rfl, g2⟩ := rw.vis _ _ e1
    obtain ⟨z, lo, vs, rel, dd⟩ := dk_rd I.hok (.inl g1)
    obtain ⟨ep, hat⟩ := dd.dictAt
    refine sorted_gen I rw (rep_keys g2) (by rw [List.length_map]; exact z) h1 kk (fun R E hR => ?_) (args_sorted1 _)
    refine PySem.W.kdu_collect (PySem.W.kdl_dict (knd := mixKind X.prog X.w) (kvs := vs) (ep := ep) lo) (I.ok.hd hcalm) hat (by rw [← rel.length]; exact z) fun h' tk acc hk hacc => ?_
    have ek : (ks.map fun kv => kV kv.1) = vs.map fun p => kV p.1 := by
      have e := congrArg (List.map kV) rel.keys
      rw [List.map_map, List.map_map] at e
      exact e
    refine hR _ h' tk hk ?_
    rw [show ks.map (fun p => kV p.1) = vs.map fun p => kV p.1 from ek]
    exact keys_at (by rw [Array.length_toList]; exact hacc.1) fun j v e => hacc.2 j v (by rw [← Array.getElem?_toList]; exact e)
  · exact h.elim
end
end DL

namespace DL
open PySem L2 PySem.Spec PyProof.Rows
open AutoSeq1 (wpAny_loadPart')
/-! ### enumerate(t) of a tuple -/
theorem meets_enumerate_newT (l : Addr) (items : Array Value) (n : Nat) (dct : Option Addr) (sl : Array (Option Value)) :
    Meets (Builtin.«enumerate.__new__» ⟨[.type "enumerate", .ref l], []⟩) (fun _ R s => s.heap.get? l = some { cls := .type "tuple", dict := dct, data := .seq items n, slots := sl } ∧
      R (.ok (.ret (.ref (s.heap.push { cls := .type "tuple_iterator", data := .fields #[.ref l, .int 0 0] }).objs.size)))
        { s with heap := (s.heap.push { cls := .type "tuple_iterator", data := .fields #[.ref l, .int 0 0] }).push { cls := .type "enumerate", data := .fields #[.none, .bool false, .ref s.heap.objs.size, rawInt 0, .none, .none] } }) :=
  .of_wp fun prog w A R s h => by
    obtain ⟨hp, g, d, tk, os⟩ := s; obtain ⟨hl, h⟩ := h
    have hsub := sub_enumerate
    have hL : Heap.IsTuple (Shared.heap ⟨hp, g, d, tk, os⟩) l items := ⟨_, hl, rfl, n, rfl⟩
    wp_walk using wpAny_loadPart' hl
    refine wpAny_stack_any fun st => wpAny_pure ?_
    split
    · rename_i c _ _ _ _ _
      cases (c == Value.type "enumerate")
      · wp_walk using wpAny_loadPart' hl, wpAny_pyIter_tuple hL
        exact ⟨_, rfl, h⟩
      · wp_walk using wpAny_loadPart' hl, wpAny_pyIter_tuple hL
        exact ⟨_, rfl, h⟩
    · wp_walk using wpAny_loadPart' hl, wpAny_pyIter_tuple hL
      exact ⟨_, rfl, h⟩
section
variable {prog : Program} {w : World} {A : Around} {E : Value → Shared → Prop} {s : Shared}
theorem call_enumerate_tuple {l : Addr} {items : Array Value} {Q : Value → Shared → Prop} (hL : s.heap.IsTuple l items)
    (h : ∀ h', IsEnum h' (s.heap.objs.size + 1) s.heap.objs.size 0 .none → h'.IsTupleIter s.heap.objs.size l 0 → h'.objs.size = s.heap.objs.size + 2 →
      (∀ b o, s.heap.get? b = some o → h'.get? b = some o) → Q (.ref (s.heap.objs.size + 1)) { s with heap := h' }) :
    wpAny (model prog w) A (call (.type "enumerate") [.ref l]) Q E s := by
  obtain ⟨⟨c, dct, dt, sl⟩, hl, hc, n, hd⟩ := hL
  replace hc : c = .type "tuple" := hc
  replace hd : dt = .seq items n := hd
  subst hc hd
  refine callType_new F.called_enumerate (by decide) (F.typeCall_enumerate_1 _) (F.newCall_enumerate_1 _) (fun obj => F.args_object_init_2 obj _) F.entry_enumerate_new
    (meets_enumerate_newT l items n dct sl) ⟨hl, ?_⟩
  have hz : (s.heap.push { cls := .type "tuple_iterator", data := .fields #[.ref l, .int 0 0] }).objs.size = s.heap.objs.size + 1 := Heap.size_push ..
  show _ ∧ _
  rw [hz]
  have he : IsEnum ((s.heap.push { cls := .type "tuple_iterator", data := .fields #[.ref l, .int 0 0] }).push
      { cls := .type "enumerate", data := .fields #[.none, .bool false, .ref s.heap.objs.size, rawInt 0, .none, .none] }) (s.heap.objs.size + 1) s.heap.objs.size 0 .none := by
    have := Heap.get?_push_size (s.heap.push { cls := .type "tuple_iterator", data := .fields #[.ref l, .int 0 0] })
      (o := { cls := .type "enumerate", data := .fields #[.none, .bool false, .ref s.heap.objs.size, rawInt 0, .none, .none] }) rfl
    rw [hz] at this; exact this
  refine ⟨⟨_, he, rfl⟩, h _ he ⟨_, Heap.get?_push_of_some _ (Heap.get?_push_size _ rfl), rfl, rfl⟩ (by rw [Heap.size_push, hz]) fun b o x => Heap.get?_push_of_some _ (Heap.get?_push_of_some _ x)⟩
end
/-- the tuple at a at each turn, each item in a new pair -/
def IteT (K : PySem.W.Frag) (a : Addr) : It :=
  ⟨fun i H => ∃ (xs : List V) (x : V), SqT K H a xs ∧ xs[i]? = some x, fun i H v H' => ∃ T x, v = .ref T ∧ H T = none ∧ H' = upd H T (.tup [.int (i : Nat), x]) ∧ ∀ xs, SqT K H a xs → xs[i]? = some x, fun i H => ∃ xs : List V, SqT K H a xs ∧ xs.length ≤ i⟩
theorem turn_enumT {P : Program} {w : World} {K : PySem.W.Frag} {elts : List Expr} {kk : Nat} {tpos : Pos} (a e it : Addr) :
    Turn P w K (.Tuple elts kk tpos) (IteT K a) [e, it] e (fun i h => (∃ old, IsEnum h e it ((i : Nat) : Int) old) ∧ h.IsTupleIter it a i ∧ e ≠ it) where
  mem := by simp
  obj := fun i h st b hb => by
    obtain ⟨⟨old, he⟩, ⟨o, ho, hc, hd⟩, _⟩ := st
    have e' : b = e ∨ b = it := by simpa using hb
    rcases e' with z | z
    · rw [z]; exact ⟨_, he, fun v q => nomatch q⟩
    · rw [z]; exact ⟨o, ho, fun v q => by rw [hd] at q; cases q⟩
  keep := fun i h h' st k => let ⟨⟨old, he⟩, hi, hne⟩ := st; ⟨⟨old, k e (by simp) _ he⟩, hi.at fun o q => k it (by simp) o q, hne⟩
  item := by
    intro X hP hw hK hc i pins s σ H E I hf st hg
    subst hP hw hK
    obtain ⟨⟨old, he⟩, hit, hne⟩ := st
    obtain ⟨xs, x, hq, hx⟩ := hg
    obtain ⟨its, rv, p, hz⟩ := I.tuple hq
    obtain ⟨u, hu, ru⟩ := rv.get hx
    have hel : e < s.heap.objs.size := Heap.lt_size he
    have hil : it < s.heap.objs.size := by obtain ⟨_, q, _⟩ := hit; exact Heap.lt_size q
    have hti : a ≠ it := by
      rintro rfl
      obtain ⟨o1, q1, c1, _⟩ := hit
      obtain ⟨o2, q2, c2, _⟩ := p
      rw [q1] at q2; cases q2
      rw [c1] at c2
      exact absurd (Value.type.inj c2) (by decide)
    have hea : e ∉ [it, a] := by
      intro hm
      have e' : e = it ∨ e = a := by simpa using hm
      rcases e' with z | z
      · exact hne z
      · obtain ⟨o2, q2, c2, _⟩ := p
        rw [← z, he] at q2; cases q2
        exact absurd (Value.type.inj c2) (by decide)
    have hlt : i < its.toArray.size := by rw [List.size_toArray]; exact (List.getElem?_eq_some_iff.mp hu).1
    refine wpAny_pyNext_enum_itemD (Draws.tuple (A := X.A.in1) (show X.A.in1.handled = none from I.ok.hd hc) it a hti its.toArray) he ⟨hit, p⟩ hlt hne hea fun x' h' tk px ho st' hT hsz hk => ?_
    have hxu : x' = u := by
      have : its[i]? = some x' := by simpa using px
      rw [hu] at this; cases this; rfl
    subst hxu
    refine ⟨_, rfl, wpAny_letOwnedTupleGo_enum (s := { s with heap := h', toks := tk + 1 }) ho fun h'' he' sb => ?_⟩
    have hT2 : h''.get? s.heap.objs.size = some { cls := .type "tuple", data := .seq #[.int i tk, x'] } := (sb.2 _ (Nat.ne_of_gt hel)).trans hT
    have new : ObjOk X.prog X.w (upd H s.heap.objs.size (.tup [.int (i : Nat), x])) h'' s.heap.objs.size (.tup [.int (i : Nat), x]) :=
      ⟨by show 2 ≤ sizeLine; decide, [.int i tk, x'], .cons ⟨_, rfl⟩ (.cons ru .nil), ⟨_, hT2, rfl, _, rfl⟩⟩
    have I1 : Inv X pins σ (upd H s.heap.objs.size (.tup [.int (i : Nat), x])) { s with heap := h'', toks := tk + 1 } :=
      I.turnedNew (ch := [e, it]) (fun b ob hb q => (sb.2 b (fun z => hb (by simp [z]))).trans (hk b ob (fun z => hb (by simp [z])) (fun z => hb (by simp [z])) q)) hf (Nat.le_refl _) new
    refine ⟨.ref s.heap.objs.size, _, I1, rfl, ⟨_, x, rfl, I.hok.fresh (Nat.le_refl _), rfl, fun ys hy => by rw [I.tuple_inj hy hq]; exact hx⟩, ⟨⟨x', ?_⟩, st'.1.at fun o q => (sb.2 it (Ne.symm hne)).trans q, hne⟩, fun b hb => ?_⟩
    · have e1 : ((i + 1 : Nat) : Int) = (i : Int) + 1 := by omega
      rw [e1]; exact he'
    · have hb' : b < s.heap.objs.size := by
        have e' : b = e ∨ b = it := by simpa using hb
        rcases e' with z | z
        · rw [z]; exact hel
        · rw [z]; exact hil
      rw [upd_ne (Nat.ne_of_lt hb')]
      exact (hf b hb).1
  done := by
    intro X hP hw hK hc i pins s σ H E I hf st hg
    subst hP hw hK
    obtain ⟨⟨old, he⟩, hit, hne⟩ := st
    obtain ⟨xs, hq, hx⟩ := hg
    obtain ⟨its, rv, p, hz⟩ := I.tuple hq
    obtain ⟨f0, f1, f2, f3, f4, f5⟩ := hf it (by simp)
    have hl := rv.length
    have hT : s.TypeIs (.ref e) "enumerate" := ⟨_, he, rfl⟩
    unfold pyNext
    refine wpAny_bind (wpAny_attempt (wpAny_callSpecial?_slot (name := Str.ofString "__next__") hT F.slot_enumerate_next
      (wpAny_call_entry F.slot_enumerate_next hT F.entry_enumerate_next ?_ (F.args_enumerate_next_1 _))))
    show wpAny _ _ (field (.ref e) 2 >>= _) _ _ _
    refine wpAny_bind (wpAny_field he rfl (x := .ref it) rfl ?_)
    refine wpAny_bind (wpAny_nextOf_tuple_end (I.ok.hd hc) hit p (by simp; omega) fun h' x he' hx' => ?_)
    obtain ⟨o, ho, hcl⟩ := hx'
    refine wpAny_bind (wpAny_isInstance (T := "StopIteration") (b := true) ⟨o, ho, hcl⟩ isSubtype_stop ?_)
    exact wpAny_pure ⟨rfl, I.turned (t' := s.toks) (fun b o hb q => he' b o hb q) f0 f1 f3 f4 f5⟩
  self := fun A i s Q E st h => let ⟨⟨_, he⟩, _⟩ := st; wpAny_pyIter_enum he h
def iEnumT (K : PySem.W.Frag) (ta : TA) : TI := fun σ H R => ta σ H fun vs H1 => ∃ a xs, vs = [.ref a] ∧ SqT K H1 a xs ∧ R (IteT K a) H1
theorem pi_enumT {X : Cx} {e : Expr} {ta : TA} {p pos tpos : Pos} {elts : List Expr} {kk : Nat} (hg : Gl X "enumerate") (hm : X.mg "enumerate" = none) (ha : PA X [e] ta) (hs : starEach [e] X.env = [(false, eval e X.env)] := by rfl) :
    PI X (.Tuple elts kk tpos) (.Call (.Name "enumerate" p) [e] [] pos) (iEnumT X.K ta) := by
  refine ⟨fun pins s σ H R I h => ?_⟩
  refine Call_ (ld_blt I hg hm boot_enumerate (PyProof.Rows.callWith_type1 (thn (ha.run pos pins s σ H _ I h) fun us s1 ⟨vs, H1, I1, r1, q1⟩ => ?_) hs rfl))
  obtain ⟨a, xs, ex, hq, q⟩ := q1
  subst ex
  cases r1 with
  | cons r rr =>
    cases rr
    cases r
    obtain ⟨its, rv, p', hz⟩ := I1.tuple hq
    refine call_enumerate_tuple (show s1.heap.IsTuple a its.toArray from p') fun h' he hit hsz hk => wpAny_pyIter_enum he ?_
    have I2 : Inv X pins σ H1 { s1 with heap := h' } := I1.kept (t' := s1.toks) hk
    refine ⟨s1.heap.objs.size + 1, [s1.heap.objs.size + 1, s1.heap.objs.size], _, _, H1, rfl, I2, turn_enumT a (s1.heap.objs.size + 1) s1.heap.objs.size, ⟨⟨.none, he⟩, hit, Nat.succ_ne_self _⟩, fun b hb => ?_, q⟩
    have e' : b = s1.heap.objs.size + 1 ∨ b = s1.heap.objs.size := by simpa using hb
    have hle : s1.heap.objs.size ≤ b := by
      rcases e' with z | z
      · rw [z]; exact Nat.le_add_right _ _
      · rw [z]; exact Nat.le_refl _
    exact I1.fpOk hle (I1.hok.fresh hle)
/-! ### .. over data -/
def enumD (ds : List D) : List D := ds.zipIdx.map fun p => .tup [.int p.2, p.1]
theorem enumD_at {ds : List D} {i : Nat} {d : D} (h : (enumD ds)[i]? = some d) : ∃ x, ds[i]? = some x ∧ d = .tup [.int i, x] := by
  unfold enumD at h
  rw [List.getElem?_map, List.getElem?_zipIdx] at h
  cases e : ds[i]? with
  | none => rw [e] at h; cases h
  | some x => rw [e] at h; cases h; exact ⟨x, rfl, by simp⟩
theorem enumD_len {ds : List D} : (enumD ds).length = ds.length := by unfold enumD; simp
theorem enumD_cons {d : D} {ds : List D} : ∀ k, (((d :: ds).zipIdx k).map fun p : D × Nat => D.tup [.int p.2, p.1]) = .tup [.int k, d] :: ((ds.zipIdx (k + 1)).map fun p : D × Nat => D.tup [.int p.2, p.1]) := fun k => rfl
def itE (d : D) (W : Wd) (q : ItD → Wd → Prop) : Prop := match d with
  | .tup ds => q ⟨enumD ds, gTrue⟩ W
  | _ => False
theorem rd_itEt {ds : List D} {W : Wd} {q : ItD → Wd → Prop} : itE (.tup ds) W q = q ⟨enumD ds, gTrue⟩ W := rfl
def dItE (ta : TED) : TID := fun δ W q => ta δ W fun d W1 => itE d W1 q
theorem rd_itE {ta : TED} {δ : Sd} {W : Wd} {q : ItD → Wd → Prop} : dItE ta δ W q = ta δ W fun d W1 => itE d W1 q := rfl
def itEL (d : D) (W : Wd) (q : ItD → Wd → Prop) : Prop := match d with
  | .ref a => onLst (W.hp a) fun ds => q ⟨enumD ds, fun W => W.hp a = some (.lst ds)⟩ W
  | _ => False
theorem rd_itELr {a : Addr} {W : Wd} {q : ItD → Wd → Prop} : itEL (.ref a) W q = onLst (W.hp a) fun ds => q ⟨enumD ds, fun W => W.hp a = some (.lst ds)⟩ W := rfl
def dItEL (ta : TED) : TID := fun δ W q => ta δ W fun d W1 => itEL d W1 q
theorem rd_itEL {ta : TED} {δ : Sd} {W : Wd} {q : ItD → Wd → Prop} : dItEL ta δ W q = ta δ W fun d W1 => itEL d W1 q := rfl
section
variable {X : Cx} {Ed : WXD} {Ex : WX} {e : Expr} {ta : TED} {p pos tpos : Pos} {elts : List Expr} {kk : Nat}
theorem pa_one (ha : PE X e (upE X.K Ed Ex ta)) (hs : starEach [e] X.env = (false, eval e X.env) :: starEach [] X.env := by rfl) : PA X [e] (upA X.K Ed Ex (dCons ta dNil)) := da_cons ha da_nil hs
theorem di_enumT (hg : Gl X "enumerate") (hm : X.mg "enumerate" = none) (ha : PE X e (upE X.K Ed Ex ta)) (hs : starEach [e] X.env = (false, eval e X.env) :: starEach [] X.env := by rfl) (hs2 : starEach [e] X.env = [(false, eval e X.env)] := by rfl) :
    PI X (.Tuple elts kk tpos) (.Call (.Name "enumerate" p) [e] [] pos) (upI X.K Ed Ex (dItE ta)) := (pi_enumT hg hm (pa_one ha hs) hs2).imp fun σ H Q h => by
  obtain ⟨δ, W, P, q, rs, rw, x, h, k⟩ := h
  refine ⟨δ, W, P, fun ds W1 => match ds with
    | [d] => itE d W1 q
    | _ => False, rs, rw, x, h, fun ds W1 P1 vs H1 s1 r1 rw1 h1 => ?_⟩
  dsimp only at h1
  split at h1
  · rename_i d
    cases d with
    | tup xs => ?_
    | _ => exact h1.elim
    obtain ⟨v, rfl, a, xv, rfl, ha1, rx⟩ := rep1 r1
    refine ⟨a, xv, rfl, ha1.1, k _ W1 P1 _ H1 s1 rw1 (fun i W2 P2 H2 s2 rw2 _ => ?_) h1⟩
    have g1 := s2.tup.q _ _ ha1.1
    have rx2 := repVs_step rx s2
    refine ⟨fun d ed => ?_, fun hl => ⟨xv, g1, by rw [← repVs_len rx2]; simpa [enumD_len] using hl⟩⟩
    obtain ⟨dx, e1, rfl⟩ := enumD_at ed
    obtain ⟨u1, e3, r3⟩ := repVs_get rx2 e1
    refine ⟨⟨xv, u1, g1, e3⟩, ?_⟩
    rintro v H' ⟨T, x, rfl, hT, rfl, h3⟩
    have h3 := h3 xv g1
    rw [e3] at h3; cases h3
    exact pair_rep rw2 hT (show repV X.K H2 (.int (i : Int)) (.int (i : Int)) from rfl) r3
  · exact h1.elim
theorem di_enumL (hg : Gl X "enumerate") (hm : X.mg "enumerate" = none) (ha : PE X e (upE X.K Ed Ex ta)) (hs : starEach [e] X.env = (false, eval e X.env) :: starEach [] X.env := by rfl) (hs2 : starEach [e] X.env = [(false, eval e X.env)] := by rfl) :
    PI X (.Tuple elts kk tpos) (.Call (.Name "enumerate" p) [e] [] pos) (upI X.K Ed Ex (dItEL ta)) := (pi_enum hg hm (pa_one ha hs) hs2).imp fun σ H Q h => by
  obtain ⟨δ, W, P, q, rs, rw, x, h, k⟩ := h
  refine ⟨δ, W, P, fun ds W1 => match ds with
    | [d] => itEL d W1 q
    | _ => False, rs, rw, x, h, fun ds W1 P1 vs H1 s1 r1 rw1 h1 => ?_⟩
  dsimp only at h1
  split at h1
  · rename_i d
    cases d with
    | ref a => ?_
    | _ => exact h1.elim
    obtain ⟨v, rfl, r2⟩ := rep1 r1
    have r2 : v = .ref a := r2
    subst r2
    obtain ⟨ds, e1, h2⟩ := onLst_inv h1
    obtain ⟨u, g1, xv, rfl, rx⟩ := rw1.vis _ _ e1
    refine ⟨a, xv, rfl, .of g1, k _ W1 P1 _ H1 s1 rw1 (fun i W2 P2 H2 s2 rw2 hg => ?_) h2⟩
    obtain ⟨u, g3, xv2, rfl, rx2⟩ := rw2.vis _ _ hg
    refine ⟨fun d ed => ?_, fun hl => ⟨xv2, .of g3, by rw [← repVs_len rx2]; simpa [enumD_len] using hl⟩⟩
    obtain ⟨dx, e1, rfl⟩ := enumD_at ed
    obtain ⟨u1, e3, r3⟩ := repVs_get rx2 e1
    refine ⟨⟨xv2, u1, .of g3, e3⟩, ?_⟩
    rintro v H' ⟨T, x, rfl, hT, rfl, h3⟩
    have h3 := h3 xv2 (.of g3)
    rw [e3] at h3; cases h3
    exact pair_rep rw2 hT (show repV X.K H2 (.int (i : Int)) (.int (i : Int)) from rfl) r3
  · exact h1.elim
end
/-! ### o.f as one of several targets -/
theorem pg_fld {X : Cx} {o : Expr} {f : Str} {ta : TE} {pos' : Pos} (ha : PE X o ta) : PG X (.Attribute o f pos') (fun v σ H Q => ta σ H fun x H2 => ∃ a C dx fs, x = .ref a ∧ H2 a = some (.ins C dx fs) ∧ Cls X.K C ∧ NoAttr X.K C f ∧ fs.length < 1000 ∧ Q σ (upd H2 a (.ins C dx (putF f v fs)))) := by
  refine ⟨fun pins s σ H v u Q I r h => ?_⟩
  unfold assign
  refine wpAny_bind (wpAny_holding (thn (ha.run pins s σ H _ I h) fun ov s2 ⟨x, H2, I2, rx, a, C, dx, fs, ex, ea, c, n, l, q2⟩ => ?_))
  subst ex
  obtain rfl : ov = Value.ref a := rx
  refine wpAny_bind (wpAny_standAt ?_)
  refine wpAny_bind (wpAny_holding (setattr_ok I2 ea c n l r fun s3 I3 => ?_))
  exact wpAny_release ⟨σ, _, I3, q2⟩
section
variable {X : Cx} {Ed : WXD} {Ex : WX} {o e tg : Expr} {to te : TED} {C : Addr} {pos pos' : Pos} {es : List Expr}
def setAllF (C : Addr) (to : TED) : List Str → List D → Sd → Wd → (Wd → Prop) → Prop
  | f :: fs, d :: ds, δ, W, q => to δ W fun o W1 => setFV C f d o W1 fun W2 => setAllF C to fs ds δ W2 q
  | _, _, _, W, q => q W
theorem rd_saf0 {ds : List D} {δ : Sd} {W : Wd} {q : Wd → Prop} : setAllF C to [] ds δ W q = q W := by cases ds <;> rfl
theorem rd_saf1 {f : Str} {fs : List Str} {d : D} {ds : List D} {δ : Sd} {W : Wd} {q : Wd → Prop} : setAllF C to (f :: fs) (d :: ds) δ W q = to δ W fun o W1 => setFV C f d o W1 fun W2 => setAllF C to fs ds δ W2 q := rfl
def asgFV (C : Addr) (to : TED) (fs : List Str) (d : D) (δ : Sd) (W : Wd) (q : Wd → Prop) : Prop := match d with
  | .tup ds => ds.length = fs.length ∧ setAllF C to fs ds δ W q
  | _ => False
theorem rd_asgFV {fs : List Str} {ds : List D} {δ : Sd} {W : Wd} {q : Wd → Prop} : asgFV C to fs (.tup ds) δ W q = (ds.length = fs.length ∧ setAllF C to fs ds δ W q) := rfl
def dAsgF (C : Addr) (to : TED) (fs : List Str) (te : TED) : TSD := fun E δ W => te δ W fun d W1 => asgFV C to fs d δ W1 (E.nx δ)
theorem rd_asgF {fs : List Str} {E : EndsD} {δ : Sd} {W : Wd} : dAsgF C to fs te E δ W = te δ W fun d W1 => asgFV C to fs d δ W1 (E.nx δ) := rfl
def gFld (K : PySem.W.Frag) (Ed : WXD) (Ex : WX) (to : TED) (f : Str) : TG := fun v σ H Q => upE K Ed Ex to σ H fun x H2 => ∃ a C dx fs, x = .ref a ∧ H2 a = some (.ins C dx fs) ∧ Cls K C ∧ NoAttr K C f ∧ fs.length < 1000 ∧ Q σ (upd H2 a (.ins C dx (putF f v fs)))
def gFlds (K : PySem.W.Frag) (Ed : WXD) (Ex : WX) (to : TED) : List Str → TGs
  | [] => gNil
  | f :: fs => gCons (gFld K Ed Ex to f) (gFlds K Ed Ex to fs)
theorem pgf_nil : PGs X [] (gFlds X.K Ed Ex to []) := pgs_nil
theorem pgf_cons {f : Str} {fs : List Str} (ho : PE X o (upE X.K Ed Ex to)) (hr : PGs X es (gFlds X.K Ed Ex to fs)) : PGs X (.Attribute o f pos' :: es) (gFlds X.K Ed Ex to (f :: fs)) := pgs_cons (pg_fld ho) hr
theorem flds_up (c : Cls X.K C) : ∀ {fs : List Str} {ds : List D} {vs : List V} {δ : Sd} {σ : L2.St} {W : Wd} {P : Addr → Dh} {H : Hp} {q : Wd → Prop} {Q : L2.St → Hp → Prop}, (∀ f ∈ fs, NoAttr X.K C f) → repVs X.K H ds vs → ds.length = fs.length → RepS X.K H δ σ → RepW X.K W P H → XArr X.K W P H Ed Ex →
    setAllF C to fs ds δ W q → (∀ W' P' H', Step X.K W P H W' P' H' → RepS X.K H' δ σ → RepW X.K W' P' H' → q W' → Q σ H') → gFlds X.K Ed Ex to fs vs σ H Q
  | [], ds, vs, δ, σ, W, P, H, q, Q, _, r, hl, rs, rw, _, h, k => by
    have : ds = [] := List.length_eq_zero_iff.mp hl
    subst this
    exact ⟨r, k W P H .refl rs rw h⟩
  | f :: fs, [], _, _, _, _, _, _, _, _, _, _, hl, _, _, _, _, _ => by cases hl
  | f :: fs, d :: ds, vs, δ, σ, W, P, H, q, Q, hn, r, hl, rs, rw, xa, h, k => by
    obtain ⟨v, vr, rfl, r1, r2⟩ := r
    refine ⟨v, vr, rfl, δ, W, P, _, rs, rw, xa, h, fun o W1 P1 u H1 s1 ro rw1 h1 => ?_⟩
    cases o with
    | ref a => ?_
    | _ => exact h1.elim
    obtain ⟨fl, e1, hlen, h3⟩ := insAt_inv h1
    obtain ⟨u', g1, dx, xs, rfl, g2⟩ := rw1.vis _ _ e1
    have sw := Step.write (o := .ins C dx (putF f v xs)) (d := .ins C (putD f d fl)) rw1 e1
    have st := s1.trans sw
    refine ⟨a, C, dx, xs, ro, g1, c, hn f List.mem_cons_self, by rw [← repKV_len g2]; exact hlen, ?_⟩
    have rw2 := rw1.write (o := .ins C dx (putF f v xs)) (d := .ins C (putD f d fl)) e1 ⟨dx, _, rfl, repKV_putF (repV_step r1 st) (repKV_mono sw.tup _ g2)⟩
    exact flds_up c (fun g hg => hn g (List.mem_cons_of_mem _ hg)) (repVs_step r2 st) (by simpa using hl) (rs.step st) rw2 (xa.after st) h3 fun W' P' H' s' rs' rw' q' => k W' P' H' (st.trans s') rs' rw' q'
theorem ds_asgF {fs : List Str} (c : Cls X.K C) (hn : ∀ f ∈ fs, NoAttr X.K C f) (he : PE X e (upE X.K Ed Ex te)) (hg : PG X tg (gTup X.K fs.length (gFlds X.K Ed Ex to fs))) (hs : swapsWithSole [tg] e pos.line X.env = pure false := by rfl) (hw : swappedStores [tg] e X.env = pure none := by rfl) (h1 : (assignEach [tg] X.env).map (·.2) = [assign tg X.env] := by rfl) : PS X (.Assign [tg] e pos) (upS X.K Ed Ex (dAsgF C to fs te)) := (ps_asg he hg hs hw h1).imp fun D σ H h => by
  obtain ⟨δ, W, P, E, rs, rw, x, h, k⟩ := h
  refine ⟨δ, W, P, _, rs, rw, x, h, fun d W1 P1 v H1 s1 r1 rw1 h1 => ?_⟩
  cases d with
  | tup ds => ?_
  | _ => exact h1.elim
  obtain ⟨a, xs, rfl, sq, r2⟩ := r1
  refine ⟨a, xs, rfl, sq.1, by rw [← repVs_len r2]; exact h1.1, ?_⟩
  exact flds_up c hn r2 h1.1 (rs.step s1) rw1 (x.after s1) h1.2 fun W' P' H' s' rs' rw' q' => k.nx _ _ P' _ _ (s1.trans s') rs' rw' q'
end
end DL

namespace DL
open PySem L2
/-! ### a doer, plainly -/
abbrev TK := List (List Key × D)
structure WorkM where
  due : Int
  number : Int
  name : Str
  row : List Int
  full : Bool
structure DoerM where
  slow : Int
  spread : Int
  work : Int
  words : TK
  poisons : TK
  shy : TK
  came : List WorkM
  told : TK
def pk (n : Str) (k : Int) : List Key := [.inr n, .inl k]
def hasK (t : TK) (k : List Key) : Bool := (valD t k).isSome
def wordsOf (l : List (Str × Int × Str)) : TK := l.foldl (fun t f => setD t (pk f.1 f.2.1) (.str f.2.2)) []
def pairsOf (l : List (Str × Int)) : TK := l.foldl (fun t f => setD t (pk f.1 f.2) (.bl true)) []
def faultD (f : Str × Int × Str) : D := .tup [.str f.1, .int f.2.1, .str f.2.2]
def pairD2 (f : Str × Int) : D := .tup [.str f.1, .int f.2]
def handD (x : Int × Str × List Int) : D := .tup [.int x.1, .str x.2.1, .tup (x.2.2.map .int)]
def workO (CW : Addr) (w : WorkM) : DO := .ins CW [("due", .int w.due), ("number", .int w.number), ("name", .str w.name), ("row", .tup (w.row.map .int)), ("is_full", .bl w.full)]
def doerO (C : Addr) (m : DoerM) (dw dp ds c dt : Addr) : DO := .ins C [("slow", .int m.slow), ("spread", .int m.spread), ("work", .int m.work), ("words", .ref dw), ("poisons", .ref dp), ("shy", .ref ds), ("came", .ref c), ("told_again", .ref dt)]
structure DoerR (p C CW : Addr) (m : DoerM) (h : Dh) (dw dp ds c dt : Addr) (cs : List (Addr × WorkM)) : Prop where
  self : h p = some (doerO C m dw dp ds c dt)
  w : h dw = some (.dT m.words)
  p : h dp = some (.dT m.poisons)
  s : h ds = some (.dT m.shy)
  c : h c = some (.lst (cs.map fun e => .ref e.1))
  t : h dt = some (.dT m.told)
  nw : dt ≠ dw
  np : dt ≠ dp
  ns : dt ≠ ds
  came : m.came = cs.map (·.2)
  at_ : ∀ e ∈ cs, h e.1 = some (workO CW e.2)
def DoerS (p C CW : Addr) (m : DoerM) (h : Dh) : Prop := ∃ dw dp ds c dt cs, DoerR p C CW m h dw dp ds c dt cs
def doerH (C CW : Addr) (m : DoerM) : HD := .obj C (fun p h => DoerS p C CW m h) (by
  rintro p h ⟨dw, dp, ds, c, dt, cs, r⟩
  exact ⟨_, r.self, fun f hf => (show ∀ s ∈ (["slow", "spread", "work", "words", "poisons", "shy", "came", "told_again"] : List Str), s ∈ objNames by decide +kernel) _ (List.mem_map.mpr ⟨f, hf, rfl⟩)⟩)
def onDoer (C CW : Addr) (o : Option HD) (f : DoerM → Prop) : Prop := ∃ m, o = some (doerH C CW m) ∧ f m
theorem doerH_cls {C CW : Addr} {m : DoerM} : (doerH C CW m).cls = some C := rfl
theorem DoerR.mono {p C CW : Addr} {m : DoerM} {h g : Dh} {dw dp ds c dt : Addr} {cs : List (Addr × WorkM)} (r : DoerR p C CW m h dw dp ds c dt cs) (s : Sub h g) : DoerR p C CW m g dw dp ds c dt cs :=
  ⟨s _ _ r.self, s _ _ r.w, s _ _ r.p, s _ _ r.s, s _ _ r.c, s _ _ r.t, r.nw, r.np, r.ns, r.came, fun e he => s _ _ (r.at_ e he)⟩
/-- a work comes -/
theorem DoerR.come {p C CW : Addr} {m : DoerM} {h : Dh} {dw dp ds c dt a : Addr} {cs : List (Addr × WorkM)} {w : WorkM} (r : DoerR p C CW m h dw dp ds c dt cs) (ha : h a = none) :
    DoerR p C CW { m with came := m.came ++ [w] } (dput (dput h a (workO CW w)) c (.lst (cs.map (fun e => D.ref e.1) ++ [.ref a]))) dw dp ds c dt (cs ++ [(a, w)]) := by
  have k : ∀ b o, h b = some o → (∀ l, o ≠ .lst l) → dput (dput h a (workO CW w)) c (.lst (cs.map (fun e => D.ref e.1) ++ [.ref a])) b = some o := fun b o e n => by
    have n1 : b ≠ c := by rintro rfl; rw [r.c] at e; cases e; exact n _ rfl
    have n2 : b ≠ a := by rintro rfl; rw [ha] at e; cases e
    rw [dput_ne n1, dput_ne n2]; exact e
  refine ⟨k _ _ r.self nofun, k _ _ r.w nofun, k _ _ r.p nofun, k _ _ r.s nofun, by rw [dput_same, List.map_append]; rfl, k _ _ r.t nofun, r.nw, r.np, r.ns, by rw [List.map_append, r.came]; rfl, fun e he => ?_⟩
  rcases List.mem_append.mp he with he | he
  · exact k _ _ (r.at_ e he) nofun
  · rw [List.mem_singleton] at he
    subst he
    have : a ≠ c := by rintro rfl; rw [r.c] at ha; cases ha
    rw [dput_ne this, dput_same]
/-- what was told again -/
theorem DoerR.tell {p C CW : Addr} {m : DoerM} {h : Dh} {dw dp ds c dt : Addr} {cs : List (Addr × WorkM)} {t : TK} (r : DoerR p C CW m h dw dp ds c dt cs) :
    DoerR p C CW { m with told := t } (dput h dt (.dT t)) dw dp ds c dt cs := by
  have k : ∀ b o, h b = some o → (∀ l, o ≠ .dT l) → dput h dt (.dT t) b = some o := fun b o e n => by
    have n1 : b ≠ dt := by rintro rfl; rw [r.t] at e; cases e; exact n _ rfl
    rw [dput_ne n1]; exact e
  exact ⟨k _ _ r.self nofun, by rw [dput_ne r.nw.symm]; exact r.w, by rw [dput_ne r.np.symm]; exact r.p, by rw [dput_ne r.ns.symm]; exact r.s, k _ _ r.c nofun, dput_same, r.nw, r.np, r.ns, r.came, fun e he => k _ _ (r.at_ e he) nofun⟩
theorem DoerR.same {p C CW : Addr} {m : DoerM} {h : Dh} {dw dp ds c dt : Addr} {cs : List (Addr × WorkM)} (r : DoerR p C CW m h dw dp ds c dt cs) : dput h dt (.dT m.told) = h := by
  funext b
  by_cases q : b = dt
  · subst q; rw [dput_same, r.t]
  · rw [dput_ne q]
/-- the works that are left -/
theorem DoerR.left {p C CW : Addr} {m : DoerM} {h : Dh} {dw dp ds c dt c2 : Addr} {cs cs2 : List (Addr × WorkM)} (r : DoerR p C CW m h dw dp ds c dt cs) (hc : h c2 = none) (hs : ∀ e ∈ cs2, e ∈ cs) :
    DoerR p C CW { m with came := cs2.map (·.2) } (dput (dput h c2 (.lst (cs2.map fun e => .ref e.1))) p (doerO C m dw dp ds c2 dt)) dw dp ds c2 dt cs2 := by
  have np : c2 ≠ p := by rintro rfl; rw [r.self] at hc; cases hc
  have k : ∀ b o, h b = some o → b ≠ p → dput (dput h c2 (.lst (cs2.map fun e => .ref e.1))) p (doerO C m dw dp ds c2 dt) b = some o := fun b o e n => by
    have n2 : b ≠ c2 := by rintro rfl; rw [hc] at e; cases e
    rw [dput_ne n, dput_ne n2]; exact e
  have kd : ∀ b l, h b = some (.dT l) → b ≠ p := by rintro b l e rfl; rw [r.self] at e; cases e
  refine ⟨dput_same, k _ _ r.w (kd _ _ r.w), k _ _ r.p (kd _ _ r.p), k _ _ r.s (kd _ _ r.s), by rw [dput_ne np, dput_same], k _ _ r.t (kd _ _ r.t), r.nw, r.np, r.ns, rfl, fun e he => k _ _ (r.at_ e (hs e he)) ?_⟩
  have h1 := r.at_ e (hs e he)
  intro q
  rw [q, r.self] at h1
  have := congrArg (fun o => match o with | some (DO.ins _ fs) => fs.length | _ => 0) h1
  cases this
def resD (m : DoerM) (t : TK) (n : Str) (k : Int) : D × TK :=
  if (hasK m.shy (pk n k) && !hasK t (pk n k)) = true then (.tup [.str "again"], setD t (pk n k) (.bl true))
  else (match valD m.words (pk n k) with | some d => .tup [.str "fault", d] | none => .tup [.str "value", .int (3 * k + 1)], t)
def rowsD (m : DoerM) (n : Str) : TK → List Int → List D × TK
  | t, [] => ([], t)
  | t, k :: r => ((resD m t n k).1 :: (rowsD m n (resD m t n k).2 r).1, (rowsD m n (resD m t n k).2 r).2)
def ansD (m : DoerM) (t : TK) (w : WorkM) : D × TK :=
  if w.full = true then (.tup [.str "full"], t)
  else if (w.row.any fun k => hasK m.poisons (pk w.name k)) = true then (.tup [.str "whole", .str "poison"], t)
  else (.tup [.str "list", .tup (rowsD m w.name t w.row).1], (rowsD m w.name t w.row).2)
def answersD (m : DoerM) : TK → List WorkM → List D × TK
  | t, [] => ([], t)
  | t, w :: r => (.tup [.int w.number, (ansD m t w).1] :: (answersD m (ansD m t w).2 r).1, (answersD m (ansD m t w).2 r).2)
def dueM (m : DoerM) (tick : Int) : List WorkM := m.came.filter fun w => decide (w.due ≤ tick)
def doneM (m : DoerM) (tick : Int) : DoerM := { m with came := m.came.filter (fun w => decide (tick < w.due)), told := (answersD m m.told (dueM m tick)).2 }
def comeM (m : DoerM) (tick : Int) (came : List WorkM) (x : Int × Str × List Int) : List WorkM :=
  came ++ [if m.work ≤ ((came.filter fun w => !w.full).length : Int) then ⟨tick + 1, x.1, x.2.1, x.2.2, true⟩ else ⟨tick + m.slow + 7 * x.1 % m.spread, x.1, x.2.1, x.2.2, false⟩]
def takeM (m : DoerM) (tick : Int) (hs : List (Int × Str × List Int)) : DoerM := { m with came := hs.foldl (comeM m tick) m.came }
theorem setD_len {κ : Type} [DecidableEq κ] {t : List (κ × D)} {k : κ} {v : D} : (setD t k v).length ≤ t.length + 1 := by
  unfold setD; split <;> simp
theorem resD_len {m : DoerM} {t : TK} {n : Str} {k : Int} : (resD m t n k).2.length ≤ t.length + 1 := by
  unfold resD
  split
  · exact setD_len
  · exact Nat.le_succ _
theorem rowsD_len {m : DoerM} {n : Str} : ∀ {ks : List Int} {t : TK}, (rowsD m n t ks).2.length ≤ t.length + ks.length
  | [], t => Nat.le_refl _
  | k :: r, t => by
    have h1 := resD_len (m := m) (t := t) (n := n) (k := k)
    have h2 := rowsD_len (m := m) (n := n) (ks := r) (t := (resD m t n k).2)
    show (rowsD m n (resD m t n k).2 r).2.length ≤ _
    rw [List.length_cons]; omega
theorem ansD_len {m : DoerM} {t : TK} {w : WorkM} : (ansD m t w).2.length ≤ t.length + w.row.length := by
  unfold ansD
  split
  · exact Nat.le_add_right _ _
  · split
    · exact Nat.le_add_right _ _
    · exact rowsD_len
theorem rowsD_app {m : DoerM} {n : Str} : ∀ {a b : List Int} {t : TK}, rowsD m n t (a ++ b) = ((rowsD m n t a).1 ++ (rowsD m n (rowsD m n t a).2 b).1, (rowsD m n (rowsD m n t a).2 b).2)
  | [], b, t => rfl
  | k :: r, b, t => by
    show (_ :: (rowsD m n (resD m t n k).2 (r ++ b)).1, (rowsD m n (resD m t n k).2 (r ++ b)).2) = _
    rw [rowsD_app]; rfl
theorem answersD_app {m : DoerM} : ∀ {a b : List WorkM} {t : TK}, answersD m t (a ++ b) = ((answersD m t a).1 ++ (answersD m (answersD m t a).2 b).1, (answersD m (answersD m t a).2 b).2)
  | [], b, t => rfl
  | w :: r, b, t => by
    show (_ :: (answersD m (ansD m t w).2 (r ++ b)).1, (answersD m (ansD m t w).2 (r ++ b)).2) = _
    rw [answersD_app]; rfl
theorem wordsOf_snoc {l : List (Str × Int × Str)} {f : Str × Int × Str} : wordsOf (l ++ [f]) = setD (wordsOf l) (pk f.1 f.2.1) (.str f.2.2) := by unfold wordsOf; rw [List.foldl_append]; rfl
theorem pairsOf_snoc {l : List (Str × Int)} {f : Str × Int} : pairsOf (l ++ [f]) = setD (pairsOf l) (pk f.1 f.2) (.bl true) := by unfold pairsOf; rw [List.foldl_append]; rfl
theorem wordsOf_len {l : List (Str × Int × Str)} : (wordsOf l).length ≤ l.length := by
  suffices this : ∀ (l : List (Str × Int × Str)) (t : TK), (l.foldl (fun t f => setD t (pk f.1 f.2.1) (.str f.2.2)) t).length ≤ t.length + l.length from (by have h := this l []; rw [List.length_nil, Nat.zero_add] at h; exact h)
  intro l
  induction l with
  | nil => intro t; exact Nat.le_refl _
  | cons f r ih =>
    intro t
    have h := ih (setD t (pk f.1 f.2.1) (.str f.2.2))
    have h2 := setD_len (t := t) (k := pk f.1 f.2.1) (v := .str f.2.2)
    rw [List.foldl_cons, List.length_cons]; omega
theorem pairsOf_len {l : List (Str × Int)} : (pairsOf l).length ≤ l.length := by
  suffices this : ∀ (l : List (Str × Int)) (t : TK), (l.foldl (fun t f => setD t (pk f.1 f.2) (.bl true)) t).length ≤ t.length + l.length from (by have h := this l []; rw [List.length_nil, Nat.zero_add] at h; exact h)
  intro l
  induction l with
  | nil => intro t; exact Nat.le_refl _
  | cons f r ih =>
    intro t
    have h := ih (setD t (pk f.1 f.2) (.bl true))
    have h2 := setD_len (t := t) (k := pk f.1 f.2) (v := .bl true)
    rw [List.foldl_cons, List.length_cons]; omega
theorem cut6_3 {a b c d e f : D} : cutD [a, b, c, d, e, f] none (some 3) = [a, b, c] := rfl
theorem cut6_2 {a b c d e f : D} : cutD [a, b, c, d, e, f] none (some 2) = [a, b] := rfl
theorem lex1 {a b : Int} (h : lexI [b] [a] = false) : a ≤ b := by
  by_cases q : b = a
  · omega
  · simp only [lexI, if_neg q, decide_eq_false_iff_not] at h; omega
theorem perm_le {α : Type} {num : α → Int} {xs ys : List α} (hp : xs.Perm ys) (h1 : xs.Pairwise (fun x y => num x ≤ num y)) (h2 : ys.Pairwise (fun x y => num x < num y)) : xs = ys := by
  have hn : (ys.map num).Nodup := List.pairwise_map.mpr (h2.imp fun h => Int.ne_of_lt h)
  have h3 : (xs.map num).Nodup := (hp.map num).nodup_iff.mpr hn
  have h4 : xs.Pairwise (fun x y => num x < num y) := (List.pairwise_and_iff.mpr ⟨h1, List.pairwise_map.mp h3⟩).imp fun ⟨a, b⟩ => Int.lt_iff_le_and_ne.mpr ⟨a, b⟩
  exact List.Perm.eq_of_pairwise (le := fun x y => num x < num y) (fun a b _ _ h h' => absurd h (Int.lt_asymm h')) h4 h2 hp
/-- a comprehension over a list of instances -/
theorem lc_refs {α : Type} {guard : Wd → Prop} {g : Tg} {tt : TTD} {te : TED} {δ : Sd} {q : List D → Wd → Prop} {cs : List (Addr × α)} {W : Wd} (c : Addr × α → Bool) (f : Addr × α → D) (hg : guard W)
    (hs : ∀ (e : Addr × α) (N : List D → Wd → Prop), e ∈ cs → ∀ acc, (c e = true → N (acc ++ [f e]) W) → (c e = false → N acc W) → tgD g (.ref e.1) δ W fun δ2 W2 => tt δ2 W2 fun b W3 => if b = true then te δ2 W3 fun d W4 => guard W4 ∧ N (acc ++ [d]) W4 else guard W3 ∧ N acc W3)
    (hd : q ((cs.filter c).map f) W) : dLcGo guard g tt te δ (cs.map fun e => .ref e.1) [] W q := by
  refine lc_by (fun r a W' => W' = W ∧ ∃ s t, cs = s ++ t ∧ r = t.map (fun e => D.ref e.1) ∧ a = (s.filter c).map f) ⟨rfl, [], cs, rfl, rfl, rfl⟩ ?_ ?_
  · rintro x r a W' N ⟨rfl, s, t, e1, e2, rfl⟩ k
    cases t with
    | nil => cases e2
    | cons y t =>
      cases e2
      refine hs y N (by rw [e1]; simp) _ (fun hc => k _ _ ⟨rfl, s ++ [y], t, by rw [e1]; simp, rfl, by simp [hc]⟩) (fun hc => k _ _ ⟨rfl, s ++ [y], t, by rw [e1]; simp, rfl, by simp [hc]⟩)
  · rintro a W' ⟨rfl, s, t, e1, e2, rfl⟩
    cases t with
    | cons y t => cases e2
    | nil => rw [List.append_nil] at e1; subst e1; exact hd
def workNum : Option DO → Int
  | some (.ins _ (_ :: (_, .int n) :: _)) => n
  | _ => 0
theorem workNum_at {C : Addr} {w : WorkM} : workNum (some (workO C w)) = w.number := rfl
def refNum (h : Dh) : D → Int
  | .ref a => workNum (h a)
  | _ => 0
theorem DoerR.left_at {p C CW : Addr} {m : DoerM} {h : Dh} {dw dp ds c dt c2 : Addr} {cs : List (Addr × WorkM)} {l : DO} {o : DO} (r : DoerR p C CW m h dw dp ds c dt cs) (hc : h c2 = none) : ∀ e ∈ cs, dput (dput h c2 l) p o e.1 = some (workO CW e.2) := fun e he => by
  have h1 := r.at_ e he
  have n1 : e.1 ≠ p := by
    intro q
    rw [q, r.self] at h1
    have := congrArg (fun o => match o with | some (DO.ins _ fs) => fs.length | _ => 0) h1
    cases this
  have n2 : e.1 ≠ c2 := by intro q; rw [q, hc] at h1; cases h1
  rw [dput_ne n1, dput_ne n2]; exact h1
theorem resD_ext {m m' : DoerM} (h1 : m.shy = m'.shy) (h2 : m.words = m'.words) {t : TK} {n : Str} {k : Int} : resD m t n k = resD m' t n k := by unfold resD; rw [h1, h2]
theorem rowsD_ext {m m' : DoerM} (h1 : m.shy = m'.shy) (h2 : m.words = m'.words) {n : Str} : ∀ {ks : List Int} {t : TK}, rowsD m n t ks = rowsD m' n t ks
  | [], t => rfl
  | k :: r, t => by unfold rowsD; rw [resD_ext h1 h2, rowsD_ext h1 h2]
theorem ansD_ext {m m' : DoerM} (h1 : m.shy = m'.shy) (h2 : m.words = m'.words) (h3 : m.poisons = m'.poisons) {t : TK} {w : WorkM} : ansD m t w = ansD m' t w := by unfold ansD; rw [h3, rowsD_ext h1 h2]
theorem takeM_snoc {m : DoerM} {tick : Int} {s : List (Int × Str × List Int)} {y : Int × Str × List Int} : takeM m tick (s ++ [y]) = { takeM m tick s with came := comeM m tick (takeM m tick s).came y } := by unfold takeM; rw [List.foldl_append]; rfl
theorem answersD_len {m : DoerM} : ∀ {ws : List WorkM} {t : TK}, (∀ w ∈ ws, w.row.length ≤ 50) → (answersD m t ws).2.length ≤ t.length + 50 * ws.length
  | [], t, _ => Nat.le_refl _
  | w :: r, t, h => by
    have h1 := ansD_len (m := m) (t := t) (w := w)
    have h2 := answersD_len (m := m) (ws := r) (t := (ansD m t w).2) fun x hx => h x (List.mem_cons_of_mem _ hx)
    have h3 := h w List.mem_cons_self
    show (answersD m (ansD m t w).2 r).2.length ≤ _
    rw [List.length_cons]; omega
/-! ### works in dicts by number -/
abbrev Rising (ws : List WorkM) : Prop := ws.Pairwise (fun a b => a.number < b.number)
def numKV (p : WorkM → Bool) (g : WorkM → D) (ws : List WorkM) : List (Key × D) := (ws.filter p).map fun w => (.inl w.number, g w)
def workV (w : WorkM) : D := .tup [.int w.due, .tup (w.row.map .int)]
def workKV : List WorkM → List (Key × D) := numKV (fun w => !w.full) workV
def fullKV : List WorkM → List (Key × D) := numKV (fun w => w.full) fun w => .int w.due
theorem val_none {p : WorkM → Bool} {g : WorkM → D} {n : Int} : ∀ {ws : List WorkM}, (∀ w ∈ ws, w.number ≠ n) → valD (numKV p g ws) (.inl n) = none
  | [], _ => rfl
  | x :: r, h => by
    have ih := val_none (p := p) (g := g) (n := n) (ws := r) fun w hw => h w (List.mem_cons_of_mem _ hw)
    unfold numKV at ih ⊢
    rw [List.filter_cons]
    split
    · rw [List.map_cons]
      unfold valD at ih ⊢
      rw [List.find?_cons, decide_eq_false (fun e => h x List.mem_cons_self (Sum.inl.inj e))]
      exact ih
    · exact ih
theorem val_num {p : WorkM → Bool} {g : WorkM → D} {w : WorkM} : ∀ {ws : List WorkM}, Rising ws → w ∈ ws → valD (numKV p g ws) (.inl w.number) = if p w = true then some (g w) else none
  | [], _, h => by cases h
  | x :: r, hs, h => by
    obtain ⟨h1, h2⟩ := List.pairwise_cons.mp hs
    rcases List.mem_cons.mp h with rfl | hw
    · by_cases c : p w = true
      · rw [if_pos c]
        unfold numKV valD
        rw [List.filter_cons, if_pos c, List.map_cons, List.find?_cons, decide_eq_true rfl]; rfl
      · rw [if_neg c]
        have : numKV p g (w :: r) = numKV p g r := by unfold numKV; rw [List.filter_cons, if_neg c]
        rw [this]
        exact val_none fun x hx => by have := h1 x hx; omega
    · have ih := val_num (p := p) (g := g) h2 hw
      have hn := h1 w hw
      rw [← ih]
      unfold numKV
      rw [List.filter_cons]
      split
      · rw [List.map_cons]
        unfold valD
        rw [List.find?_cons, decide_eq_false (fun e => by have := Sum.inl.inj e; omega)]
      · rfl
theorem num_cut {p : WorkM → Bool} {g : WorkM → D} {ws : List WorkM} {n : Int} : cutK (numKV p g ws) (.inl n) = numKV p g (ws.filter fun w => decide (w.number ≠ n)) := by
  unfold cutK numKV
  rw [List.filter_map, List.filter_filter, List.filter_filter]
  congr 1
  apply List.filter_congr
  intro w _
  show (decide ((Sum.inl w.number : Key) ≠ .inl n) && p w) = (p w && decide (w.number ≠ n))
  rw [Bool.and_comm]
  congr 1
  apply decide_eq_decide.mpr
  exact ⟨fun h e => h (by rw [e]), fun h e => h (Sum.inl.inj e)⟩
theorem cutK_none {κ : Type} [DecidableEq κ] {t : List (κ × D)} {k : κ} (h : valD t k = none) : cutK t k = t := by
  unfold valD at h
  rw [Option.map_eq_none_iff, List.find?_eq_none] at h
  unfold cutK
  rw [List.filter_eq_self]
  intro x hx
  have := h x hx
  simpa using this
theorem setD_new {κ : Type} [DecidableEq κ] {t : List (κ × D)} {k : κ} {v : D} (h : valD t k = none) : setD t k v = t ++ [(k, v)] := by
  unfold valD at h
  rw [Option.map_eq_none_iff, List.find?_eq_none] at h
  unfold setD
  rw [if_neg]
  rw [List.any_eq_true]
  rintro ⟨x, hx, e⟩
  exact h x hx e
theorem num_snoc {p : WorkM → Bool} {g : WorkM → D} {ws : List WorkM} {w : WorkM} : numKV p g (ws ++ [w]) = if p w = true then numKV p g ws ++ [(.inl w.number, g w)] else numKV p g ws := by
  unfold numKV
  rw [List.filter_append, List.map_append]
  by_cases c : p w = true
  · rw [if_pos c, List.filter_cons, if_pos c]; rfl
  · rw [if_neg c, List.filter_cons, if_neg c]; simp
theorem num_len {p : WorkM → Bool} {g : WorkM → D} {ws : List WorkM} : (numKV p g ws).length ≤ ws.length := by
  unfold numKV; rw [List.length_map]; exact List.length_filter_le _ _
theorem rising_one {ws : List WorkM} (h : Rising ws) {x y : WorkM} (hx : x ∈ ws) (hy : y ∈ ws) (e : x.number = y.number) : x = y := by
  induction ws with
  | nil => cases hx
  | cons z r ih =>
    obtain ⟨h1, h2⟩ := List.pairwise_cons.mp h
    rcases List.mem_cons.mp hx with ex | hx'
    · rcases List.mem_cons.mp hy with ey | hy'
      · rw [ex, ey]
      · have := h1 _ hy'; rw [ex] at e; omega
    · rcases List.mem_cons.mp hy with ey | hy'
      · have := h1 _ hx'; rw [ey] at e; omega
      · exact ih h2 hx' hy'
theorem num_perm {g1 g2 : WorkM → D} {ws : List WorkM} : ((numKV (fun w => !w.full) g1 ws).map (fun p => keyOf p.1) ++ (numKV (fun w => w.full) g2 ws).map (fun p => keyOf p.1)).Perm (ws.map fun w => D.int w.number) := by
  unfold numKV
  rw [List.map_map, List.map_map]
  have h : (ws.filter (fun w => !w.full) ++ ws.filter fun w => w.full).Perm ws := (List.perm_append_comm).trans (List.filter_append_perm (fun w => w.full) ws)
  have := h.map fun w => D.int w.number
  rw [List.map_append] at this
  exact this
/-- a doer without faults -/
def Plain (m : DoerM) : Prop := m.words = [] ∧ m.poisons = [] ∧ m.shy = [] ∧ m.told = []
def valA (k : Int) : D := .tup [.str "value", .int (3 * k + 1)]
def lawA (w : WorkM) : D := .tup [.int w.number, if w.full = true then .tup [.str "full"] else .tup [.str "list", .tup (w.row.map valA)]]
theorem rows_plain {m : DoerM} (h : Plain m) {n : Str} : ∀ {ks : List Int} {t : TK}, rowsD m n t ks = (ks.map valA, t)
  | [], t => rfl
  | k :: r, t => by
    have e : resD m t n k = (valA k, t) := by unfold resD; rw [h.1, h.2.2.1]; rfl
    unfold rowsD
    rw [e, rows_plain h]; rfl
theorem ans_plain {m : DoerM} (h : Plain m) {t : TK} {w : WorkM} : ansD m t w = (if w.full = true then .tup [.str "full"] else .tup [.str "list", .tup (w.row.map valA)], t) := by
  unfold ansD
  by_cases c : w.full = true
  · rw [if_pos c, if_pos c]
  · have e : (w.row.any fun k => hasK m.poisons (pk w.name k)) = false := by
      rw [h.2.1, List.any_eq_false]; intro k _; exact Bool.false_ne_true
    rw [if_neg c, if_neg c, e, if_neg Bool.false_ne_true, rows_plain h]
theorem answers_plain {m : DoerM} (h : Plain m) : ∀ {ws : List WorkM} {t : TK}, answersD m t ws = (ws.map lawA, t)
  | [], t => rfl
  | w :: r, t => by
    unfold answersD
    rw [ans_plain h, answers_plain h]; rfl
theorem done_plain {m : DoerM} (h : Plain m) {tick : Int} : doneM m tick = { m with came := m.came.filter fun w => decide (tick < w.due) } := by
  unfold doneM; rw [answers_plain h]
theorem plain_val {n : Nat} {k : Int} : plainD (n + 1) (valA k) = true := by
  show (plainD n (.str "value") && (plainD n (.int _) && true)) = true
  rw [plain_str (by decide +kernel), plain_int]; rfl
theorem plain_lawA {n : Nat} {w : WorkM} : plainD (n + 4) (lawA w) = true := by
  unfold lawA
  rw [plain_tup, List.all_cons, plain_int, Bool.true_and, List.all_cons, List.all_nil, Bool.and_true]
  split
  · rw [plain_tup, List.all_cons, plain_str (by decide +kernel)]; rfl
  · rw [plain_tup, List.all_cons, plain_str (by decide +kernel), Bool.true_and, List.all_cons, List.all_nil, Bool.and_true, plain_tup, List.all_eq_true]
    intro d hd
    obtain ⟨k, _, rfl⟩ := List.mem_map.mp hd
    exact plain_val
theorem came_nums {m : DoerM} {tick : Int} : ∀ {hs : List (Int × Str × List Int)} {ws : List WorkM}, (hs.foldl (comeM m tick) ws).map (·.number) = ws.map (·.number) ++ hs.map (·.1)
  | [], ws => by simp
  | x :: r, ws => by
    rw [List.foldl_cons, came_nums, List.map_cons]
    unfold comeM
    rw [List.map_append, List.append_assoc]
    congr 1
    show (if _ then _ else _ : WorkM).number :: _ = _
    split <;> rfl
theorem put_same {W : Wd} {a : Addr} {o : DO} (h : W.hp a = some o) : W.put a o = W := by
  have : dput W.hp a o = W.hp := by
    funext b
    by_cases q : b = a
    · subst q; rw [dput_same, h]
    · rw [dput_ne q]
  unfold Wd.put; rw [this]
def intOf : D → Int
  | .int i => i
  | _ => 0
def HandedOk (first : Int) (hs : List (Int × Str × List Int)) : Prop := hs.map (·.1) = (List.range hs.length).map (fun i : Nat => first + (i : Int)) ∧ ∀ x ∈ hs, x.2.2.length ≤ 5
theorem HandedOk.nil {first : Int} : HandedOk first [] := ⟨rfl, nofun⟩
theorem HandedOk.snoc {first : Int} {hs : List (Int × Str × List Int)} (h : HandedOk first hs) {x : Int × Str × List Int} (e : x.1 = first + hs.length) (l : x.2.2.length ≤ 5) : HandedOk first (hs ++ [x]) := by
  refine ⟨?_, fun y hy => ?_⟩
  · rw [List.map_append, h.1, List.length_append, List.length_singleton, List.range_succ, List.map_append, List.map_cons, List.map_nil, e]; rfl
  · rcases List.mem_append.mp hy with hy | hy
    · exact h.2 y hy
    · rw [List.mem_singleton] at hy; subst hy; exact l
theorem HandedOk.num {first : Int} {hs : List (Int × Str × List Int)} (h : HandedOk first hs) : ∀ i ∈ hs.map (·.1), first ≤ i ∧ i < first + hs.length := fun i hi => by
  rw [h.1] at hi
  obtain ⟨j, hj, rfl⟩ := List.mem_map.mp hi
  have := List.mem_range.mp hj
  omega
theorem HandedOk.rise {first : Int} {hs : List (Int × Str × List Int)} (h : HandedOk first hs) : (hs.map (·.1)).Pairwise (· < ·) := by
  rw [h.1]
  refine List.pairwise_map.mpr (List.pairwise_lt_range.imp ?_)
  intro a b h; omega
theorem put_swap {W : Wd} {a b : Addr} {o o' u : DO} (n : a ≠ b) : ((W.put a o).put b u).put a o' = (W.put a o').put b u := by
  have : dput (dput (dput W.hp a o) b u) a o' = dput (dput W.hp a o') b u := by
    funext x
    by_cases q : x = a
    · subst q; rw [dput_same, dput_ne n, dput_same]
    · rw [dput_ne q]
      by_cases q2 : x = b
      · subst q2; rw [dput_same, dput_same]
      · rw [dput_ne q2, dput_ne q2, dput_ne q, dput_ne q]
  unfold Wd.put; rw [this]
section
variable {cs : List WorkM} {d n : Int} {s : Str} {r : List Int}
theorem full_snoc_t : fullKV (cs ++ [⟨d, n, s, r, true⟩]) = fullKV cs ++ [(.inl n, .int d)] := num_snoc.trans (if_pos rfl)
theorem full_snoc_f : fullKV (cs ++ [⟨d, n, s, r, false⟩]) = fullKV cs := num_snoc.trans (if_neg Bool.false_ne_true)
theorem work_snoc_t : workKV (cs ++ [⟨d, n, s, r, true⟩]) = workKV cs := num_snoc.trans (if_neg Bool.false_ne_true)
theorem work_snoc_f : workKV (cs ++ [⟨d, n, s, r, false⟩]) = workKV cs ++ [(.inl n, .tup [.int d, .tup (r.map .int)])] := num_snoc.trans (if_pos rfl)
end
theorem come_mem {m : DoerM} {tick : Int} {w : WorkM} : ∀ {hs : List (Int × Str × List Int)} {ws : List WorkM}, w ∈ hs.foldl (comeM m tick) ws → w ∈ ws ∨ ∃ x ∈ hs, w.number = x.1 ∧ w.row = x.2.2 ∧ (w.due = tick + 1 ∨ w.due = tick + m.slow + 7 * x.1 % m.spread)
  | [], ws, h => .inl h
  | x :: r, ws, h => by
    rw [List.foldl_cons] at h
    rcases come_mem h with h | ⟨y, hy, e⟩
    · unfold comeM at h
      rcases List.mem_append.mp h with h | h
      · exact .inl h
      · rw [List.mem_singleton] at h
        subst h
        refine .inr ⟨x, List.mem_cons_self, ?_⟩
        split
        · exact ⟨rfl, rfl, .inl rfl⟩
        · exact ⟨rfl, rfl, .inr rfl⟩
    · exact .inr ⟨y, List.mem_cons_of_mem _ hy, e⟩
theorem came_len {m : DoerM} {tick : Int} {hs : List (Int × Str × List Int)} {ws : List WorkM} : (hs.foldl (comeM m tick) ws).length = ws.length + hs.length := by
  have := congrArg List.length (came_nums (m := m) (tick := tick) (hs := hs) (ws := ws))
  rw [List.length_map, List.length_append, List.length_map, List.length_map] at this
  exact this
/-- what is known of a doer without faults, all of whose numbers are below first -/
structure M48 (m : DoerM) (first : Int) (l : Nat) : Prop where
  plain : Plain m
  rise : Rising m.came
  low : ∀ w ∈ m.came, w.number < first
  row : ∀ w ∈ m.came, w.row.length ≤ 50
  len : m.came.length ≤ l
theorem M48.done {m : DoerM} {first : Int} {l : Nat} (h : M48 m first l) {tick : Int} : M48 (doneM m tick) first l := by
  rw [done_plain h.plain]
  exact ⟨h.plain, h.rise.filter _, fun w hw => h.low w (List.mem_filter.mp hw).1, fun w hw => h.row w (List.mem_filter.mp hw).1, Nat.le_trans (List.length_filter_le _ _) h.len⟩
theorem M48.nums {m : DoerM} {first : Int} {l : Nat} (h : M48 m first l) {hs : List (Int × Str × List Int)} (ho : HandedOk first hs) : (m.came.map (·.number) ++ hs.map (·.1)).Pairwise (· < ·) := by
  refine List.pairwise_append.mpr ⟨List.pairwise_map.mpr h.rise, ho.rise, fun a ha b hb => ?_⟩
  obtain ⟨w, hw, rfl⟩ := List.mem_map.mp ha
  have := h.low w hw
  have := (ho.num b hb).1
  omega
theorem M48.take {m : DoerM} {first : Int} {l : Nat} (h : M48 m first l) {hs : List (Int × Str × List Int)} (ho : HandedOk first hs) {tick : Int} : M48 (takeM m tick hs) (first + (hs.length : Nat)) (l + hs.length) := by
  refine ⟨h.plain, ?_, fun w hw => ?_, fun w hw => ?_, ?_⟩
  · have := h.nums ho
    rw [← came_nums (m := m) (tick := tick)] at this
    exact List.pairwise_map.mp this
  · rcases come_mem hw with hw | ⟨x, hx, e, _⟩
    · have := h.low w hw; omega
    · have := ho.num x.1 (List.mem_map_of_mem hx); omega
  · rcases come_mem hw with hw | ⟨x, hx, _, e, _⟩
    · exact h.row w hw
    · rw [e]; have := ho.2 x hx; omega
  · show (hs.foldl (comeM m tick) m.came).length ≤ _
    rw [came_len]; have := h.len; omega
theorem M48.up {m : DoerM} {first f2 : Int} {l l2 : Nat} (h : M48 m first l) (e : first ≤ f2) (e2 : l ≤ l2) : M48 m f2 l2 := ⟨h.plain, h.rise, fun w hw => by have := h.low w hw; omega, h.row, Nat.le_trans h.len e2⟩
end DL

namespace DL
open PySem L2 PySem.Spec PyProof.Rows
/-! ### x in a tuple, items of any depth -/
section
variable {X : Cx}
def rInTD (K : PySem.W.Frag) : R2 := fun x y H Q => ∃ d ds, Dp K H x d ∧ Dp K H y (.tuple ds) ∧ SeqAt.shaped d = true ∧ SeqAt.shaped (.list ds) = true ∧ Q (.bl (ds.any fun z => PyData.eqv z d)) H
def rNotInTD (K : PySem.W.Frag) : R2 := fun x y H Q => ∃ d ds, Dp K H x d ∧ Dp K H y (.tuple ds) ∧ SeqAt.shaped d = true ∧ SeqAt.shaped (.list ds) = true ∧ Q (.bl (!ds.any fun z => PyData.eqv z d)) H
theorem op_inTD (hu : X.A.units + 65 < cLine) : OpR X (compareOp .In) (rInTD X.K) := by
  intro pins s σ H x y v u Q I rx ry h
  obtain ⟨d, ds, hd, he, sd, se, q⟩ := h
  obtain ⟨as, r1⟩ := Dp.reads I d x v hd rx
  obtain ⟨bs, r2⟩ := Dp.reads I (.tuple ds) y u he ry
  exact SeqAt.in_tuple_reads r2 r1 (SeqAt.canLay_of_shaped se) (SeqAt.canLay_of_shaped sd) (room_in_shaped sd hu) ⟨.bl _, H, I, rfl, q⟩
theorem op_notInTD (hu : X.A.units + 65 < cLine) : OpR X (compareOp .NotIn) (rNotInTD X.K) := by
  intro pins s σ H x y v u Q I rx ry h
  obtain ⟨d, ds, hd, he, sd, se, q⟩ := h
  obtain ⟨as, r1⟩ := Dp.reads I d x v hd rx
  obtain ⟨bs, r2⟩ := Dp.reads I (.tuple ds) y u he ry
  exact SeqAt.notIn_tuple_reads r2 r1 (SeqAt.canLay_of_shaped se) (SeqAt.canLay_of_shaped sd) (room_in_shaped sd hu) ⟨.bl _, H, I, rfl, q⟩
def memT (W : Wd) (x y : D) (f : Bool → Prop) : Prop := match y with
  | .tup es => ∃ p ps, pyIn (rfD W.hp deepN) x = some p ∧ pyIns (rfD W.hp deepN) es = some ps ∧ SeqAt.shaped p = true ∧ SeqAt.shaped (.list ps) = true ∧ f (ps.any fun z => PyData.eqv z p)
  | _ => False
def dInT : DR2 := fun x y W q => memT W x y fun b => q (.bl b) W
def dNotInT : DR2 := fun x y W q => memT W x y fun b => q (.bl (!b)) W
theorem dop_inT (hu : X.A.units + 65 < cLine) : DOp X (compareOp .In) dInT := (op_inTD hu).imp fun x y H Q h => by
  obtain ⟨d, e, W, P, q, r1, r2, rw, h, k⟩ := h
  cases e with
  | tup es =>
    obtain ⟨p, ps, e1, e2, s1, s2, h⟩ := h
    obtain ⟨a, xs, rfl, hs, r⟩ := r2
    exact ⟨p, ps, dp_in (dp_rf rw _) _ r1 e1, .tup hs.1 (dp_ins (dp_rf rw _) _ r e2), s1, s2, k (.bl _) W P _ H .refl rfl rw h⟩
  | _ => exact h.elim
theorem dop_notInT (hu : X.A.units + 65 < cLine) : DOp X (compareOp .NotIn) dNotInT := (op_notInTD hu).imp fun x y H Q h => by
  obtain ⟨d, e, W, P, q, r1, r2, rw, h, k⟩ := h
  cases e with
  | tup es =>
    obtain ⟨p, ps, e1, e2, s1, s2, h⟩ := h
    obtain ⟨a, xs, rfl, hs, r⟩ := r2
    exact ⟨p, ps, dp_in (dp_rf rw _) _ r1 e1, .tup hs.1 (dp_ins (dp_rf rw _) _ r e2), s1, s2, k (.bl _) W P _ H .refl rfl rw h⟩
  | _ => exact h.elim
end
def pairP (e : Str × Int) : PyData := .tuple [.str e.1, .int e.2]
theorem pair_plain {e : Str × Int} {n : Nat} (h : PyData.strOk e.1 = true) : plainD (n + 2) (pairD2 e) = true := by
  show plainD (n + 2) (.tup [.str e.1, .int e.2]) = true
  rw [plain_tup, List.all_cons, plain_str h, List.all_cons, plain_int]; rfl
theorem py_pair {rf : Addr → Option PyData} {e : Str × Int} : pyIn rf (pairD2 e) = some (pairP e) := by
  show pyIn rf (.tup [.str e.1, .int e.2]) = _
  simp only [pyIn, pyIns]; rfl
theorem py_pairs {rf : Addr → Option PyData} : ∀ {L : List (Str × Int)}, pyIns rf (L.map pairD2) = some (L.map pairP)
  | [] => rfl
  | e :: r => by simp only [List.map_cons, pyIns, py_pair, py_pairs (L := r)]
theorem shaped_pair {e : Str × Int} (h : PyData.strOk e.1 = true) : SeqAt.shaped (pairP e) = true := by
  obtain ⟨p, e1, c, d⟩ := pyIn_plain (rf := fun _ => none) 2 _ (pair_plain (n := 0) h)
  rw [py_pair] at e1
  cases e1
  unfold SeqAt.shaped
  rw [c, Bool.true_and, decide_eq_true_eq]; omega
theorem shaped_pairs {L : List (Str × Int)} (h : ∀ e ∈ L, PyData.strOk e.1 = true) : SeqAt.shaped (.list (L.map pairP)) = true := by
  have hp : plainD 3 (.tup (L.map pairD2)) = true := by
    rw [plain_tup, List.all_eq_true]
    intro d hd
    obtain ⟨e, he, rfl⟩ := List.mem_map.mp hd
    exact pair_plain (n := 0) (h e he)
  obtain ⟨p, e1, c, d⟩ := pyIn_plain (rf := fun _ => none) 3 _ hp
  simp only [pyIn, py_pairs] at e1
  cases e1
  unfold SeqAt.shaped
  rw [Bool.and_eq_true, decide_eq_true_eq]
  refine ⟨?_, ?_⟩
  · simpa only [PyData.canLay0] using c
  · simp only [PyData.depth] at d ⊢; omega
theorem any_pair {n : Str} {k : Int} {L : List (Str × Int)} : ((L.map pairP).any fun z => PyData.eqv z (pairP (n, k))) = decide ((n, k) ∈ L) := by
  rw [Bool.eq_iff_iff, List.any_eq_true, decide_eq_true_eq]
  have he : ∀ e : Str × Int, PyData.eqv (pairP e) (pairP (n, k)) = true ↔ e = (n, k) := fun e => by
    unfold pairP
    simp only [PyData.eqv, PyData.eqvAll, Bool.and_true, Bool.and_eq_true, beq_iff_eq]
    exact ⟨fun ⟨a, b⟩ => Prod.ext a b, fun q => by rw [q]; exact ⟨rfl, rfl⟩⟩
  constructor
  · rintro ⟨x, hx, h⟩
    obtain ⟨e, he', rfl⟩ := List.mem_map.mp hx
    rw [← (he e).mp h]; exact he'
  · intro h
    exact ⟨_, List.mem_map.mpr ⟨_, h, rfl⟩, (he _).mpr rfl⟩
theorem mem_pair {W : Wd} {n : Str} {k : Int} {L : List (Str × Int)} {f : Bool → Prop} (hn : PyData.strOk n = true) (hL : ∀ e ∈ L, PyData.strOk e.1 = true) (h : f (decide ((n, k) ∈ L))) : memT W (.tup [.str n, .int k]) (.tup (L.map pairD2)) f :=
  ⟨_, _, py_pair (e := (n, k)), py_pairs, shaped_pair (e := (n, k)) hn, shaped_pairs hL, by rw [any_pair]; exact h⟩
theorem rv_inT {W : Wd} {n : Str} {k : Int} {L : List (Str × Int)} {q : DK} (hn : PyData.strOk n = true) (hL : ∀ e ∈ L, PyData.strOk e.1 = true) (h : q (.bl (decide ((n, k) ∈ L))) W) : dInT (.tup [.str n, .int k]) (.tup (L.map pairD2)) W q := mem_pair hn hL h
theorem memB_pair {rf : Addr → Option PyData} {n : Str} {k : Int} {L : List (Str × Int)} (hn : PyData.strOk n = true) (hL : ∀ e ∈ L, PyData.strOk e.1 = true) : memB rf (.tup [.str n, .int k]) (L.map pairD2) = some (decide ((n, k) ∈ L)) := by
  have e1 := py_pair (rf := rf) (e := (n, k))
  have e2 : pyIn rf (.tup [.str n, .int k]) = some (pairP (n, k)) := e1
  unfold memB
  rw [show flatD (.tup [.str n, .int k]) = false from rfl, Bool.false_and, if_neg Bool.false_ne_true, e2, py_pairs]
  simp only [shaped_pair (e := (n, k)) hn, shaped_pairs hL, Bool.and_self, if_true, any_pair]
end DL

namespace DL
open PySem L2
/-! ### looking up what was put; a doer with faults, plainly -/
theorem val_setD {κ : Type} [DecidableEq κ] {t : List (κ × D)} {k j : κ} {v : D} : valD (setD t k v) j = if j = k then some v else valD t j := by
  unfold valD setD
  induction t with
  | nil =>
    by_cases q : j = k
    · simp [q]
    · simp [q, Ne.symm q]
  | cons e r ih =>
    by_cases qe : e.1 = k
    · simp only [List.any_cons, qe, decide_true, Bool.true_or, if_true, List.map_cons]
      by_cases q : j = k
      · simp [q]
      · rw [List.find?_cons, decide_eq_false (Ne.symm q), List.find?_cons, show decide (e.1 = j) = false by rw [qe]; exact decide_eq_false (Ne.symm q), if_neg q]
        rw [List.find?_map]
        have : ((fun e : κ × D => decide (e.1 = j)) ∘ fun e : κ × D => if e.1 = k then (e.1, v) else e) = fun e => decide (e.1 = j) := by
          funext x
          by_cases qx : x.1 = k
          · simp [qx]
          · simp [qx]
        rw [this]
        cases hf : List.find? (fun e : κ × D => decide (e.1 = j)) r with
        | none => rfl
        | some x =>
          have hx := List.find?_some hf
          have hx : x.1 = j := by simpa using hx
          simp [hx, q]
    · simp only [List.any_cons, qe, decide_false, Bool.false_or]
      by_cases qa : (r.any fun e => decide (e.1 = k)) = true
      · rw [if_pos qa] at ih ⊢
        rw [List.map_cons, if_neg qe, List.find?_cons, List.find?_cons]
        by_cases q2 : e.1 = j
        · rw [decide_eq_true q2, if_neg (by rintro rfl; exact qe q2)]
        · rw [decide_eq_false q2]; exact ih
      · rw [if_neg qa] at ih ⊢
        rw [List.cons_append, List.find?_cons, List.find?_cons]
        by_cases q2 : e.1 = j
        · rw [decide_eq_true q2, if_neg (by rintro rfl; exact qe q2)]
        · rw [decide_eq_false q2]; exact ih
theorem pk_inj {a n : Str} {b k : Int} : pk a b = pk n k ↔ (a, b) = (n, k) := by
  unfold pk
  simp only [List.cons.injEq, Sum.inr.injEq, Sum.inl.injEq, and_true, Prod.mk.injEq]
def ToldOk (t : TK) (L : List (Str × Int)) : Prop := ∀ n k, hasK t (pk n k) = decide ((n, k) ∈ L)
theorem ToldOk.nil : ToldOk [] [] := fun _ _ => rfl
theorem ToldOk.put {t : TK} {L : List (Str × Int)} (h : ToldOk t L) {n : Str} {k : Int} {v : D} : ToldOk (setD t (pk n k) v) (L ++ [(n, k)]) := fun a b => by
  unfold hasK
  rw [val_setD]
  by_cases q : pk a b = pk n k
  · rw [if_pos q, pk_inj.mp q]; simp
  · rw [if_neg q]
    have := h a b
    unfold hasK at this
    rw [this]
    have q2 : ¬ (a, b) = (n, k) := fun e => q (pk_inj.mpr e)
    simp only [List.mem_append, List.mem_singleton, q2, or_false]
theorem pairs_told {ps : List (Str × Int)} : ToldOk (pairsOf ps) ps := by
  suffices this : ∀ (l : List (Str × Int)) (t : TK) (L : List (Str × Int)), ToldOk t L → ToldOk (l.foldl (fun t f => setD t (pk f.1 f.2) (.bl true)) t) (L ++ l) from (by have h := this ps [] [] .nil; rwa [List.nil_append] at h)
  intro l
  induction l with
  | nil => intro t L h; rwa [List.append_nil]
  | cons f r ih =>
    intro t L h
    have := ih _ _ (h.put (n := f.1) (k := f.2) (v := .bl true))
    rwa [List.append_assoc] at this
def fFind (fs : List (Str × Int × Str)) (n : Str) (k : Int) : Option (Str × Int × Str) := fs.find? fun f => decide (f.1 = n ∧ f.2.1 = k)
theorem words_val {n : Str} {k : Int} {fs : List (Str × Int × Str)} (hn : (fs.map fun f => (f.1, f.2.1)).Nodup) : valD (wordsOf fs) (pk n k) = (fFind fs n k).map fun f => .str f.2.2 := by
  suffices this : ∀ (l pre : List (Str × Int × Str)), ((pre ++ l).map fun f => (f.1, f.2.1)).Nodup → valD (wordsOf pre) (pk n k) = ((fFind pre n k).map fun f => D.str f.2.2) → valD (wordsOf (pre ++ l)) (pk n k) = (fFind (pre ++ l) n k).map fun f => D.str f.2.2 from this fs [] hn rfl
  intro l
  induction l with
  | nil => intro pre _ h; rwa [List.append_nil]
  | cons f r ih =>
    intro pre hn h
    have e : pre ++ f :: r = (pre ++ [f]) ++ r := by rw [List.append_assoc]; rfl
    rw [e] at hn ⊢
    refine ih _ hn ?_
    rw [wordsOf_snoc, val_setD]
    unfold fFind at h ⊢
    rw [List.find?_append]
    by_cases q : pk n k = pk f.1 f.2.1
    · have q1 := pk_inj.mp q
      simp only [Prod.mk.injEq] at q1
      have hnone : pre.find? (fun f => decide (f.1 = n ∧ f.2.1 = k)) = none := by
        rw [List.find?_eq_none]
        intro x hx hc
        have hc := of_decide_eq_true hc
        rw [List.map_append, List.map_append, List.nodup_append] at hn
        have := (List.nodup_append.mp hn.1).2.2 (x.1, x.2.1) (List.mem_map_of_mem hx) (f.1, f.2.1) (List.mem_map_of_mem List.mem_cons_self)
        exact this (by rw [hc.1, hc.2, q1.1, q1.2])
      rw [if_pos q, hnone, Option.none_or, List.find?_cons, decide_eq_true ⟨q1.1.symm, q1.2.symm⟩]; rfl
    · have q1 : ¬ (f.1 = n ∧ f.2.1 = k) := fun ⟨a, b⟩ => q (by rw [a, b])
      rw [if_neg q, h, List.find?_cons, decide_eq_false q1, List.find?_nil, Option.or_none]
def aloneD (fs : List (Str × Int × Str)) (ps : List (Str × Int)) (n : Str) (k : Int) : D :=
  if (n, k) ∈ ps then .tup [.str "fault", .str "poison"] else match fFind fs n k with
  | some f => .tup [.str "fault", .str f.2.2]
  | none => .tup [.str "value", .int (3 * k + 1)]
structure ManM where
  slow : Int
  spread : Int
  work : Int
  fs : List (Str × Int × Str)
  ps : List (Str × Int)
  ss : List (Str × Int)
def ManM.d (M : ManM) : D := .tup [.int M.slow, .int M.spread, .int M.work, .tup (M.fs.map faultD), .tup (M.ps.map pairD2), .tup (M.ss.map pairD2)]
def ManM.doer (M : ManM) (t : TK) : DoerM := ⟨M.slow, M.spread, M.work, wordsOf M.fs, pairsOf M.ps, pairsOf M.ss, [], t⟩
structure ManOk (M : ManM) : Prop where
  f : ∀ f ∈ M.fs, PyData.strOk f.1 = true ∧ PyData.strOk f.2.2 = true
  p : ∀ e ∈ M.ps, PyData.strOk e.1 = true
  s : ∀ e ∈ M.ss, PyData.strOk e.1 = true
  nd : (M.fs.map fun f => (f.1, f.2.1)).Nodup
  lf : M.fs.length ≤ 1000
  lp : M.ps.length ≤ 1000
  ls : M.ss.length ≤ 1000
def resL (M : ManM) (L : List (Str × Int)) (n : Str) (k : Int) : D × List (Str × Int) :=
  if (n, k) ∈ M.ss ∧ ¬ (n, k) ∈ L then (.tup [.str "again"], L ++ [(n, k)]) else (aloneD M.fs M.ps n k, L)
def rowsL (M : ManM) (n : Str) : List (Str × Int) → List Int → List D × List (Str × Int)
  | L, [] => ([], L)
  | L, k :: r => ((resL M L n k).1 :: (rowsL M n (resL M L n k).2 r).1, (rowsL M n (resL M L n k).2 r).2)
def ansL (M : ManM) (L : List (Str × Int)) (n : Str) (ks : List Int) : D × List (Str × Int) :=
  if (ks.any fun k => decide ((n, k) ∈ M.ps)) = true then (.tup [.str "whole", .str "poison"], L)
  else (.tup [.str "list", .tup (rowsL M n L ks).1], (rowsL M n L ks).2)
theorem rowsL_app {M : ManM} {n : Str} : ∀ {a b : List Int} {L : List (Str × Int)}, rowsL M n L (a ++ b) = ((rowsL M n L a).1 ++ (rowsL M n (rowsL M n L a).2 b).1, (rowsL M n (rowsL M n L a).2 b).2)
  | [], b, L => rfl
  | k :: r, b, L => by
    show (_ :: (rowsL M n (resL M L n k).2 (r ++ b)).1, (rowsL M n (resL M L n k).2 (r ++ b)).2) = _
    rw [rowsL_app]; rfl
theorem resL_eq {M : ManM} (hM : ManOk M) {m : DoerM} (e1 : m.words = wordsOf M.fs) (e2 : m.shy = pairsOf M.ss) {t : TK} {L : List (Str × Int)} (h : ToldOk t L) {n : Str} {k : Int} (hp : ¬ (n, k) ∈ M.ps) :
    (resD m t n k).1 = (resL M L n k).1 ∧ ToldOk (resD m t n k).2 (resL M L n k).2 := by
  unfold resD resL
  rw [e1, e2, pairs_told n k, h n k]
  by_cases c : (n, k) ∈ M.ss ∧ ¬ (n, k) ∈ L
  · rw [if_pos c, decide_eq_true c.1, decide_eq_false c.2, if_pos (show (true && !false) = true from rfl)]
    exact ⟨rfl, h.put⟩
  · rw [if_neg c, if_neg]
    · refine ⟨?_, h⟩
      rw [words_val hM.nd]
      unfold aloneD
      rw [if_neg hp]
      cases fFind M.fs n k <;> rfl
    · rw [Bool.and_eq_true, decide_eq_true_eq, Bool.not_eq_true', decide_eq_false_iff_not]; exact c
theorem rowsL_eq {M : ManM} (hM : ManOk M) {m : DoerM} (e1 : m.words = wordsOf M.fs) (e2 : m.shy = pairsOf M.ss) {n : Str} : ∀ {ks : List Int} {t : TK} {L : List (Str × Int)}, ToldOk t L → (∀ k ∈ ks, ¬ (n, k) ∈ M.ps) →
    (rowsD m n t ks).1 = (rowsL M n L ks).1 ∧ ToldOk (rowsD m n t ks).2 (rowsL M n L ks).2
  | [], t, L, h, _ => ⟨rfl, h⟩
  | k :: r, t, L, h, hp => by
    obtain ⟨a, b⟩ := resL_eq hM e1 e2 h (hp k List.mem_cons_self)
    obtain ⟨c, d⟩ := rowsL_eq hM e1 e2 b fun j hj => hp j (List.mem_cons_of_mem _ hj)
    exact ⟨by unfold rowsD rowsL; rw [a, c], d⟩
theorem ansL_eq {M : ManM} (hM : ManOk M) {m : DoerM} (e1 : m.words = wordsOf M.fs) (e2 : m.shy = pairsOf M.ss) (e3 : m.poisons = pairsOf M.ps) {t : TK} {L : List (Str × Int)} (h : ToldOk t L) {w : WorkM} (hw : w.full = false) :
    (ansD m t w).1 = (ansL M L w.name w.row).1 ∧ ToldOk (ansD m t w).2 (ansL M L w.name w.row).2 := by
  unfold ansD ansL
  rw [hw, if_neg Bool.false_ne_true, e3]
  have e : (w.row.any fun k => hasK (pairsOf M.ps) (pk w.name k)) = (w.row.any fun k => decide ((w.name, k) ∈ M.ps)) := by
    congr 1; funext k; exact pairs_told _ _
  rw [e]
  by_cases c : (w.row.any fun k => decide ((w.name, k) ∈ M.ps)) = true
  · rw [if_pos c, if_pos c]; exact ⟨rfl, h⟩
  · rw [if_neg c, if_neg c]
    obtain ⟨a, b⟩ := rowsL_eq hM e1 e2 (n := w.name) (ks := w.row) h fun k hk hp => c (List.any_eq_true.mpr ⟨k, hk, decide_eq_true hp⟩)
    exact ⟨by rw [a], b⟩
theorem fFind_mem {fs : List (Str × Int × Str)} {n : Str} {k : Int} {f : Str × Int × Str} (h : fFind fs n k = some f) : f ∈ fs := List.mem_of_find?_eq_some h
theorem alone_plain {M : ManM} (hM : ManOk M) {n : Str} {k : Int} {j : Nat} : plainD (j + 1) (aloneD M.fs M.ps n k) = true := by
  unfold aloneD
  split
  · rw [plain_tup, List.all_cons, plain_str (by decide +kernel), List.all_cons, plain_str (by decide +kernel)]; rfl
  · split
    · rename_i f hf
      rw [plain_tup, List.all_cons, plain_str (by decide +kernel), List.all_cons, plain_str (hM.f f (fFind_mem hf)).2]; rfl
    · exact plain_val
theorem rowsL_plain {M : ManM} (hM : ManOk M) {n : Str} {j : Nat} : ∀ {ks : List Int} {L : List (Str × Int)}, (rowsL M n L ks).1.all (plainD (j + 1)) = true
  | [], L => rfl
  | k :: r, L => by
    show (plainD (j + 1) (resL M L n k).1 && (rowsL M n (resL M L n k).2 r).1.all (plainD (j + 1))) = true
    rw [rowsL_plain hM, Bool.and_true]
    unfold resL
    split
    · rw [plain_tup, List.all_cons, plain_str (by decide +kernel)]; rfl
    · exact alone_plain hM
theorem ansL_plain {M : ManM} (hM : ManOk M) {n : Str} {ks : List Int} {L : List (Str × Int)} {j : Nat} : plainD (j + 3) (ansL M L n ks).1 = true := by
  unfold ansL
  split
  · rw [plain_tup, List.all_cons, plain_str (by decide +kernel), List.all_cons, plain_str (by decide +kernel)]; rfl
  · rw [plain_tup, List.all_cons, plain_str (by decide +kernel), List.all_cons, plain_tup, rowsL_plain hM]; rfl
theorem resL_len {M : ManM} {L : List (Str × Int)} {n : Str} {k : Int} : (resL M L n k).2.length ≤ L.length + 1 := by
  unfold resL; split <;> simp
theorem rowsL_len {M : ManM} {n : Str} : ∀ {ks : List Int} {L : List (Str × Int)}, (rowsL M n L ks).2.length ≤ L.length + ks.length
  | [], L => Nat.le_refl _
  | k :: r, L => by
    have h1 := resL_len (M := M) (L := L) (n := n) (k := k)
    have h2 := rowsL_len (M := M) (n := n) (ks := r) (L := (resL M L n k).2)
    show (rowsL M n (resL M L n k).2 r).2.length ≤ _
    rw [List.length_cons]; omega
theorem ansL_len {M : ManM} {L : List (Str × Int)} {n : Str} {ks : List Int} : (ansL M L n ks).2.length ≤ L.length + ks.length := by
  unfold ansL; split
  · exact Nat.le_add_right _ _
  · exact rowsL_len
theorem rowsL_ok {M : ManM} {n : Str} (hn : PyData.strOk n = true) : ∀ {ks : List Int} {L : List (Str × Int)}, (∀ e ∈ L, PyData.strOk e.1 = true) → ∀ e ∈ (rowsL M n L ks).2, PyData.strOk e.1 = true
  | [], L, h => h
  | k :: r, L, h => by
    refine rowsL_ok hn (L := (resL M L n k).2) ?_
    unfold resL
    split
    · intro e he
      rcases List.mem_append.mp he with he | he
      · exact h e he
      · rw [List.mem_singleton] at he; subst he; exact hn
    · exact h
theorem ansL_ok {M : ManM} {n : Str} (hn : PyData.strOk n = true) {ks : List Int} {L : List (Str × Int)} (h : ∀ e ∈ L, PyData.strOk e.1 = true) : ∀ e ∈ (ansL M L n ks).2, PyData.strOk e.1 = true := by
  unfold ansL; split
  · exact h
  · exact rowsL_ok hn h
theorem man_plain {M : ManM} (hM : ManOk M) : plainD 60 M.d = true := by
  have hf : ∀ j, plainD (j + 2) (.tup (M.fs.map faultD)) = true := fun j => by
    rw [plain_tup, List.all_eq_true]
    intro d hd
    obtain ⟨f, h, rfl⟩ := List.mem_map.mp hd
    show plainD (j + 1) (.tup [.str f.1, .int f.2.1, .str f.2.2]) = true
    rw [plain_tup, List.all_cons, plain_str (hM.f f h).1, List.all_cons, plain_int, List.all_cons, plain_str (hM.f f h).2]; rfl
  have hp : ∀ (L : List (Str × Int)) j, (∀ e ∈ L, PyData.strOk e.1 = true) → plainD (j + 3) (.tup (L.map pairD2)) = true := fun L j h => by
    rw [plain_tup, List.all_eq_true]
    intro d hd
    obtain ⟨f, hf, rfl⟩ := List.mem_map.mp hd
    exact pair_plain (h f hf)
  unfold ManM.d
  rw [plain_tup, List.all_cons, plain_int, List.all_cons, plain_int, List.all_cons, plain_int, List.all_cons, hf 57, List.all_cons, hp _ 56 hM.p, List.all_cons, hp _ 56 hM.s]; rfl
theorem rowsL_one {M : ManM} {n : Str} : ∀ {ks : List Int} {L : List (Str × Int)}, (rowsL M n L ks).1.length = ks.length
  | [], L => rfl
  | k :: r, L => by
    show ((rowsL M n (resL M L n k).2 r).1).length + 1 = _
    rw [rowsL_one]; rfl
def keys12 (base : Int) : List Int := (List.range 12).map fun i : Nat => base + (i : Int)
def all49 (base : Int) : List (Str × Int) := (["a", "bc"] : List Str).flatMap fun nm => (keys12 base).map fun k => (nm, k)
theorem keys12_nodup {base : Int} : (keys12 base).Nodup := by
  unfold keys12
  refine List.pairwise_map.mpr (List.pairwise_lt_range.imp ?_)
  intro a b h; omega
theorem all49_nodup {base : Int} : (all49 base).Nodup := by
  unfold all49
  rw [List.flatMap_cons, List.flatMap_cons, List.flatMap_nil, List.append_nil, List.nodup_append]
  have h : ∀ nm : Str, ((keys12 base).map fun k => (nm, k)).Nodup := fun nm => List.pairwise_map.mpr (keys12_nodup.imp fun h e => h (congrArg Prod.snd e))
  refine ⟨h _, h _, fun a ha b hb e => ?_⟩
  obtain ⟨k, _, rfl⟩ := List.mem_map.mp ha
  obtain ⟨j, _, rfl⟩ := List.mem_map.mp hb
  exact absurd (show (Str.ofString "a") = Str.ofString "bc" from congrArg Prod.fst e) (by decide +kernel)
theorem all49_name {base : Int} {e : Str × Int} (h : e ∈ all49 base) : e.1 = "a" ∨ e.1 = "bc" := by
  obtain ⟨nm, hn, h⟩ := List.mem_flatMap.mp h
  obtain ⟨k, _, rfl⟩ := List.mem_map.mp h
  rcases List.mem_cons.mp hn with rfl | hn
  · exact .inl rfl
  · rw [List.mem_singleton] at hn; exact .inr hn
theorem name_ok {s : Str} (h : s = "a" ∨ s = "bc") : PyData.strOk s = true := by
  rcases h with rfl | rfl <;> decide +kernel
theorem all49_len {base : Int} : (all49 base).length = 24 := rfl
structure P49 (n : Nat) (dn : List (Str × Int)) (n' : Nat) (fs : List (Str × Int × Str)) (ps ss : List (Str × Int)) : Prop where
  n : n' ≤ n + 4 * dn.length
  f : (fs.map fun f => (f.1, f.2.1)).Sublist dn
  p : ps.Sublist dn
  s : ss.Sublist dn
  w : ∀ f ∈ fs, PyData.strOk f.2.2 = true
def addB (b : Bool) (x : Str × Int) (L : List (Str × Int)) : List (Str × Int) := if b = true then L ++ [x] else L
def addF (o : Option Str) (x : Str × Int) (L : List (Str × Int × Str)) : List (Str × Int × Str) := match o with
  | some z => L ++ [(x.1, x.2, z)]
  | none => L
theorem addB_sub {b : Bool} {x : Str × Int} {L dn : List (Str × Int)} (h : L.Sublist dn) : (addB b x L).Sublist (dn ++ [x]) := by
  unfold addB
  split
  · exact List.Sublist.append h (List.Sublist.refl _)
  · exact h.trans (List.sublist_append_left _ _)
theorem P49.step {n : Nat} {dn : List (Str × Int)} {n' n2 : Nat} {fs : List (Str × Int × Str)} {ps ss : List (Str × Int)} (h : P49 n dn n' fs ps ss) {x : Str × Int} {o : Option Str} {b1 b2 : Bool} (ho : ∀ z, o = some z → PyData.strOk z = true) (hn : n2 ≤ n' + 4) :
    P49 n (dn ++ [x]) n2 (addF o x fs) (addB b1 x ps) (addB b2 x ss) := by
  refine ⟨by have := h.n; rw [List.length_append, List.length_singleton]; omega, ?_, addB_sub h.p, addB_sub h.s, ?_⟩
  · cases o with
    | none => exact h.f.trans (List.sublist_append_left _ _)
    | some z =>
      show ((fs ++ [(x.1, x.2, z)]).map _).Sublist _
      rw [List.map_append]
      exact List.Sublist.append h.f (List.Sublist.refl _)
  · cases o with
    | none => exact h.w
    | some z =>
      intro f hf
      rcases List.mem_append.mp hf with hf | hf
      · exact h.w f hf
      · rw [List.mem_singleton] at hf; subst hf; exact ho z rfl
theorem P49.man {n : Nat} {base : Int} {n' : Nat} {fs : List (Str × Int × Str)} {ps ss : List (Str × Int)} (h : P49 n (all49 base) n' fs ps ss) {slow spread work : Int} : ManOk ⟨slow, spread, work, fs, ps, ss⟩ ∧ (∀ f ∈ fs, f.1 = "a" ∨ f.1 = "bc") ∧ ∀ f ∈ ps, f.1 = "a" ∨ f.1 = "bc" := by
  have hf : ∀ f ∈ fs, f.1 = "a" ∨ f.1 = "bc" := fun f hf => all49_name (h.f.subset (List.mem_map_of_mem (f := fun f : Str × Int × Str => (f.1, f.2.1)) hf))
  have hp : ∀ f ∈ ps, f.1 = "a" ∨ f.1 = "bc" := fun f hf => all49_name (h.p.subset hf)
  have lf := h.f.length_le
  have lp := h.p.length_le
  have ls := h.s.length_le
  rw [all49_len] at lf lp ls
  rw [List.length_map] at lf
  exact ⟨⟨fun f q => ⟨name_ok (hf f q), h.w f q⟩, fun e q => name_ok (hp e q), fun e q => name_ok (all49_name (h.s.subset q)), h.f.nodup all49_nodup, by show fs.length ≤ 1000; omega, by show ps.length ≤ 1000; omega, by show ss.length ≤ 1000; omega⟩, hf, hp⟩
structure S49 (W W' : Wd) (p f g s : Addr) (n' : Nat) (fs : List (Str × Int × Str)) (ps ss : List (Str × Int)) : Prop where
  hid : W'.hid = hset W.hid p (.law n')
  sub : Sub W.hp W'.hp
  f : W'.hp f = some (.lst (fs.map faultD))
  g : W'.hp g = some (.lst (ps.map pairD2))
  s : W'.hp s = some (.lst (ss.map pairD2))
section
variable {W W' : Wd} {p f g s : Addr} {n' n2 : Nat} {fs : List (Str × Int × Str)} {ps ss : List (Str × Int)}
theorem S49.pick (h : S49 W W' p f g s n' fs ps ss) : S49 W (W'.hide p (.law n2)) p f g s n2 fs ps ss :=
  ⟨by rw [wd_hide_hid, h.hid, hset_hset], h.sub, h.f, h.g, h.s⟩
theorem sub_put {h k : Dh} {a : Addr} {o : DO} (e : h a = none) (q : Sub h k) : Sub h (dput k a o) := fun b u hb => by
  have : b ≠ a := by rintro rfl; rw [e] at hb; cases hb
  rw [dput_ne this]; exact q b u hb
theorem S49.putf (h : S49 W W' p f g s n' fs ps ss) (e : W.hp f = none) (n1 : g ≠ f) (n3 : s ≠ f) {x : Str × Int} {z : Str} : S49 W (W'.put f (.lst (fs.map faultD ++ [.tup [.str x.1, .int x.2, .str z]]))) p f g s n' (addF (some z) x fs) ps ss :=
  ⟨h.hid, sub_put e h.sub, by rw [wd_put_hp, dput_same]; unfold addF; rw [List.map_append]; rfl, by rw [wd_put_hp, dput_ne n1]; exact h.g, by rw [wd_put_hp, dput_ne n3]; exact h.s⟩
theorem S49.putg (h : S49 W W' p f g s n' fs ps ss) (e : W.hp g = none) (n1 : g ≠ f) (n3 : s ≠ g) {x : Str × Int} : S49 W (W'.put g (.lst (ps.map pairD2 ++ [.tup [.str x.1, .int x.2]]))) p f g s n' fs (addB true x ps) ss :=
  ⟨h.hid, sub_put e h.sub, by rw [wd_put_hp, dput_ne n1.symm]; exact h.f, by rw [wd_put_hp, dput_same]; unfold addB; rw [if_pos rfl, List.map_append]; rfl, by rw [wd_put_hp, dput_ne n3]; exact h.s⟩
theorem S49.puts (h : S49 W W' p f g s n' fs ps ss) (e : W.hp s = none) (n1 : s ≠ f) (n3 : s ≠ g) {x : Str × Int} : S49 W (W'.put s (.lst (ss.map pairD2 ++ [.tup [.str x.1, .int x.2]]))) p f g s n' fs ps (addB true x ss) :=
  ⟨h.hid, sub_put e h.sub, by rw [wd_put_hp, dput_ne n1.symm]; exact h.f, by rw [wd_put_hp, dput_ne n3.symm]; exact h.g, by rw [wd_put_hp, dput_same]; unfold addB; rw [if_pos rfl, List.map_append]; rfl⟩
end
end DL

namespace DL
open PySem L2 PySem.Spec PyProof.Rows
/-! ### set(l) of a list of ints -/
section
variable {P : Program} {w : World} {A : Around} {E : Value → Shared → Prop} {s : Shared}
abbrev fset (w : World) : Obj := { cls := .type "set", dict := none, data := .set #[] 0 (.fresh 0 0 (!w.params.followText "set-order")) }
theorem set_list {l : Addr} {its : Array Value} (ns : List Int) {Q : Value → Shared → Prop} (hh : A.handled = none) (hl : s.heap.IsList l its) (hi : IntsAre its.toList ns) (hb : ns.length + 1 < scanBound)
    (kk : ∀ (g : Heap) (tk c : Nat), SetR w g s.heap.objs.size (fun j => decide (j ∈ ns)) c → c ≤ ns.length → (∀ b o, s.heap.get? b = some o → g.get? b = some o) → Q (.ref s.heap.objs.size) { s with heap := g, toks := tk }) :
    wpAny (model P w) A (call (.type "set") [.ref l]) Q E s := by
  have hn : its.size = ns.length := (Array.length_toList (xs := its)).symm.trans hi.length
  have x1 := F.called_set.notType; have x2 := F.called_set.canCreate; have x3 := F.typeCall_set_1 (.ref l); have x4 := F.called_set.made; have x5 := F.called_set.sub
  obtain ⟨c0, t0, x6⟩ := F.called_set.mro
  refine wpAny_call (codeAny_of_tree ?_)
  show wpAny _ _ (callAny (.type "set") ⟨[.ref l], []⟩) _ _ _
  refine wpAny_pure ⟨Code.quiet_builtin ⟨[.type "set", .ref l], []⟩ (by decide +kernel), codeAny_builtin F.entry_type_call ?_⟩
  rw [Around.under_plain (weight_type_call_type "set" [.ref l] []) (by rfl)]
  repeat (any_goals (first | assumption | wp_step))
  refine codeAny_mono (code_set_led1 (.ref l) (E := E) (Q₁ := fun u z => u = .ref s.heap.objs.size ∧ z = { s with heap := s.heap.push (fset w) }) ⟨rfl, rfl⟩) fun r z hr => ?_
  match r, hr with
  | .error e, hr => exact hr
  | .ok .next, hr | .ok .brk, hr | .ok .cont, hr => exact hr.elim
  | .ok (.ret u), hr =>
  obtain ⟨rfl, rfl⟩ := hr
  have f1 : (s.heap.push (fset w)).get? s.heap.objs.size = some (fset w) := Heap.get?_push_size _ rfl
  have f2 : Shared.TypeIs { s with heap := s.heap.push (fset w) } (.ref s.heap.objs.size) "set" := ⟨_, f1, rfl⟩
  have f3 := F.called_set.init.lookup; have f4 := F.called_set.init.bind (.ref s.heap.objs.size)
  repeat (any_goals (first | assumption | wp_step))
  refine codeAny_mono (codeAny_call_builtin (R := wants (fun r z => r = .none ∧ ∃ g tk c, z = { s with heap := g, toks := tk } ∧ SetR w g s.heap.objs.size (fun j => decide (j ∈ ns)) c ∧ c ≤ ns.length ∧
    (∀ b o, s.heap.get? b = some o → g.get? b = some o)) E) F.called_set.init.plain F.entry_set_init (check_set_init_1 f2 ?_)) fun r z hr => ?_
  · obtain ⟨⟨lc, ld, ldata, lsl⟩, e0, e1, n0, e2⟩ := hl
    simp only at e1 e2
    subst e1; subst e2
    have e3 : (s.heap.push (fset w)).get? l = some { cls := .type "list", dict := ld, data := .seq its n0, slots := lsl } := Heap.get?_push_of_some (fset w) e0
    have y1 := F.sub_list_set; have y2 := F.sub_list_frozenset
    have y3 : (Value.type "list" == Value.type "dict") = false := by decide
    have e4 : (s.heap.push (fset w)).IsList l its := ⟨_, e3, rfl, n0, rfl⟩
    unfold Builtin.«set.__init__» noKeywords Builtin.Frozenset.updateFrom
    generalize hPI : pyIter = PI
    wp_walk
    subst hPI
    refine wpAny_pyIter_list e4 (wpAny_bind (wpAny_runValue ?_))
    have ll : l < s.heap.objs.size := Heap.lt_size e0
    have sz : (s.heap.push (fset w)).objs.size = s.heap.objs.size + 1 := Heap.size_push ..
    have a1 : A.in1.in1.in1.handled = none := by simp [hh]
    have a2 : l ≠ (s.heap.push (fset w)).objs.size := by rw [sz]; exact Nat.ne_of_lt (Nat.lt_succ_of_lt ll)
    have a3 : s.heap.objs.size ∉ [(s.heap.push (fset w)).objs.size, l] := by
      rw [sz]
      intro h
      rcases List.mem_cons.mp h with h | h
      · exact Nat.ne_of_lt (Nat.lt_succ_self _) h
      · exact Nat.ne_of_gt ll (List.mem_singleton.mp h)
    have a4 : ∀ (i : Nat) (v : Value), its[i]? = some v → ∃ k t, ns[i]? = some k ∧ v = .int k t := fun i v e => by
      have hlt : i < ns.length := by rw [← hn]; exact (Array.getElem?_eq_some_iff.mp e).1
      obtain ⟨t, ev⟩ := PyProof.Rows.IntsAre.int_at hi i v (by rw [Array.getElem?_toList]; exact e)
      exact ⟨ns[i], t, List.getElem?_eq_getElem hlt, by rw [ev, List.getD_eq_getElem?_getD, List.getElem?_eq_getElem hlt]; rfl⟩
    refine set_update_ints ((Walks.list a1 _ l a2 its).toS) s.heap.objs.size a3 ns hn hb a4 (its.size - 0) 0 _ (by omega) (Nat.zero_le _) ⟨⟨_, Heap.get?_push_size _ rfl, rfl, rfl⟩, e4.push _⟩ ⟨0, Nat.le_refl 0, setR_new_at (Heap.get?_push_of_some _ f1)⟩ ?_
    rintro ⟨g, gg, gd, gt, go⟩ c hm hc hS
    obtain rfl : gg = s.gens := hm.gens
    obtain rfl : gd = s.drawn := hm.drawn
    obtain rfl : go = s.os := hm.os
    rw [hn] at hc
    show wpAny _ _ _ _ _ { heap := g, gens := s.gens, drawn := s.drawn, toks := gt, os := s.os }
    refine wpAny_pure (show wpAny _ _ (ret Value.none) _ _ { heap := g, gens := s.gens, drawn := s.drawn, toks := gt, os := s.os } from ?_)
    refine wpAny_pure ⟨rfl, g, gt, c, rfl, hS, hc, fun b o e => ?_⟩
    have hb0 : b < s.heap.objs.size := Heap.lt_size e
    refine hm.heap b o (fun h => ?_) (Heap.get?_push_of_some _ (Heap.get?_push_of_some _ e))
    rw [sz] at h
    rcases List.mem_cons.mp h with h | h
    · exact Nat.ne_of_lt hb0 h
    · exact Nat.ne_of_lt (Nat.lt_succ_of_lt hb0) (List.mem_singleton.mp h)
  · match r, hr with
    | .error e, hr => exact hr
    | .ok .next, hr | .ok .brk, hr | .ok .cont, hr => exact hr.elim
    | .ok (.ret u), hr =>
    obtain ⟨rfl, g, tk, c, rfl, hS, hc, hk⟩ := hr
    repeat (any_goals (first | assumption | wp_step))
    exact kk _ _ _ hS hc hk
end
/-! ### sorted(x), what x gives being known only when it is walked -/
section
variable {X : Cx} {pins : List (Addr × Obj)} {σ : L2.St} {H : Hp} {s : Shared}
theorem sorted_gen2 {x : Value} {W : Wd} {P : Addr → Dh} {q : List D → Wd → Prop} {Q : VK} (rw : RepW X.K W P H) (kk : ArrL X.K W P H q Q)
    (coll : ∀ (R : List Value → Shared → Prop) (E : Value → Shared → Prop), (∀ (us : List Value) (xs : List V) (ds : List D) (z : Shared), Inv X pins σ H z → Vals xs us → repVs X.K H ds xs → xs.length ≤ sizeLine → rSortT ds W q → R us z) → wpAny (model X.prog X.w) X.A.in1 (collect x) R E s)
    (harg : argsOk "sorted" ⟨[x], []⟩) :
    wpAny (model X.prog X.w) X.A (call (.builtin "sorted") [x]) (EP X pins σ Q) X.xe s := by
  refine Calls.call_function_entry kind_sorted plain_sorted entry_sorted harg ?_
  unfold Builtin.«sorted»
  refine wpAny_bind (m := checkCount "sorted" 1 1 _) (wpAny_pure ?_)
  refine wpAny_bind (coll _ _ fun its xs ds z I1 rv r1 hz h => ?_)
  obtain ⟨h1, zg, zd, tk1, zo⟩ := z
  obtain ⟨b, m, kf, hbm, hm, hk, hn, hq⟩ := h
  have hzi : its.length ≤ sizeLine := by rw [← rv.length]; exact hz
  refine wpAny_bind (wpAny_newList ?_ hzi)
  have hoL : (h1.push (seqObj "list" its.toArray 0)).get? h1.objs.size = some (seqObj "list" its.toArray 0) := Heap.get?_push_size _ rfl
  have k2 : ∀ b o, h1.get? b = some o → (h1.push (seqObj "list" its.toArray 0)).get? b = some o := fun b o e => Heap.get?_push_of_some _ e
  have r1' : repVs X.K H (ds.map id) xs := by rw [List.map_id]; exact r1
  show wpAny _ _ _ _ _ { heap := h1.push (seqObj "list" its.toArray 0), gens := zg, drawn := zd, toks := tk1, os := zo }
  refine wpAny_bind (wpAny_holding (wpAny_call_entry slot_list_sort ⟨_, hoL, rfl⟩ entry_list_sort (SrtO.list_sort_ord (ltv := fun v u => lexI (kOf h1 m v) (kOf h1 m u)) (swo_lexI fun v : Value => kOf h1 m v) hoL hzi (fun h2 => ?_) fun out hs hb => ⟨_, rfl, ?_⟩) (args_list_sort _)))
  · intro h' kp'
    exact rank_cmp (s := { heap := h1, gens := zg, drawn := zd, toks := tk1, os := zo }) (s' := { heap := h', gens := zg, drawn := zd, toks := tk1, os := zo }) I1 hbm hm hk hn r1' rv h2 fun b o hc ho => by
      refine kp' b o (fun e => ?_) (k2 b o ho)
      rw [e] at ho
      exact absurd (Heap.lt_size ho) (Nat.lt_irrefl _)
  · have hp : (out.map fun v => ((v, v) : Keyed)).Perm (its.zip its) := by
      have := hb.perm.map fun v : Value => ((v, v) : Keyed)
      rw [SrtR.zip_self]
      exact this
    have hs' : SrtO.Srtd (fun p q : Keyed => lexI (kOf h1 m p.1) (kOf h1 m q.1)) (out.map fun v => ((v, v) : Keyed)) := List.pairwise_map.mpr hs
    obtain ⟨ds', ys, g1, g2, g3, g4⟩ := rank_out I1 hk r1' rv r1 rv hp hs'
    have g4 : Vals ys out := by
      have e : (out.map fun v => ((v, v) : Keyed)).map (fun p => p.2) = out := by rw [List.map_map]; exact List.map_id _
      rw [e] at g4
      exact g4
    obtain ⟨ep, he'⟩ := sortedHeap_at (out := out.toArray) hoL
    have hlen : ys.length ≤ sizeLine := by
      rw [← repVs_len g3, g1.length_eq, repVs_len r1]; exact hz
    have k3 : ∀ b o, h1.get? b = some o → (sortedHeap (h1.push (seqObj "list" its.toArray 0)) h1.objs.size its out.toArray).get? b = some o := fun b o e => by
      have hlt := Heap.lt_size e
      rw [sortedHeap_old (Nat.ne_of_lt hlt) (by rw [size_push']; exact Nat.lt_succ_of_lt hlt)]
      exact k2 b o e
    have hf : H h1.objs.size = none := I1.hok.fresh (Nat.le_refl _)
    refine wpAny_pure ⟨_, rfl, ?_⟩
    refine ⟨.ref _, upd H h1.objs.size (.lst ys), I1.laid (t' := tk1) k3 (Nat.le_refl _) ⟨hlen, out, ep, g4, he'⟩, rfl, ?_⟩
    exact kk ds' W P _ ys _ (Step.new hf) hf upd_same (fun h => (rw.tracked h) hf) (repVs_mono (tupLe_upd (.inl hf)) ds' g3) (rw.new hf) (hq ds' g1 g2)
end
/-! ### sorted(set(l)), ints -/
def kfI : D → List Int := fun d => match d with
  | .int i => [i]
  | _ => []
theorem sorted_ints_of {ns : List Int} {ds' : List D} (hp : ds'.Perm (ns.map D.int)) (hs : ds'.Pairwise (fun x y => lexI (kfI y) (kfI x) = false)) : ∃ ns' : List Int, ds' = ns'.map D.int ∧ ns'.Perm ns ∧ ns'.Pairwise (· ≤ ·) := by
  have h1 : ∀ d ∈ ds', ∃ i, d = D.int i := fun d hd => by
    obtain ⟨i, _, e⟩ := List.mem_map.mp (hp.mem_iff.mp hd)
    exact ⟨i, e.symm⟩
  obtain ⟨ns', rfl⟩ : ∃ ns' : List Int, ds' = ns'.map D.int := by
    clear hp hs
    induction ds' with
    | nil => exact ⟨[], rfl⟩
    | cons d r ih =>
      obtain ⟨i, rfl⟩ := h1 _ List.mem_cons_self
      obtain ⟨t, rfl⟩ := ih fun d hd => h1 d (List.mem_cons_of_mem _ hd)
      exact ⟨i :: t, rfl⟩
  refine ⟨ns', rfl, ?_, ?_⟩
  · have := hp.map (fun d : D => match d with | .int i => i | _ => 0)
    rw [List.map_map, List.map_map] at this
    simpa [Function.comp_def] using this
  · refine (List.pairwise_map.mp hs).imp fun {x y} h => ?_
    have : lexI [y] [x] = false := h
    simp only [lexI] at this
    by_cases c : y = x
    · omega
    · rw [if_neg c, decide_eq_false_iff_not] at this; omega
def rSortSet : List D → Wd → (List D → Wd → Prop) → Prop := fun ds W q => ∃ ns : List Int, ds = ns.map D.int ∧ ns.length ≤ 4000 ∧ ∀ ns' : List Int, ns'.Pairwise (· < ·) → (∀ k : Int, k ∈ ns' ↔ k ∈ ns) → q (ns'.map D.int) W
def dSortSet (tA : TAD) : TAD := fun δ W q => tA δ W fun ds W1 => rSortSet ds W1 q
theorem rd_sortSet {tA : TAD} {δ : Sd} {W : Wd} {q : List D → Wd → Prop} : dSortSet tA δ W q = tA δ W fun ds W1 => rSortSet ds W1 q := rfl
section
variable {X : Cx} {Ed : WXD} {Ex : WX} {a : Expr} {tA : TAD} {ta : TED} {p p2 q pos cpos apos : Pos}
theorem dl_sortSet (hg : Gl X "sorted") (hm : X.mg "sorted" = none) (hg2 : Gl X "set") (hm2 : X.mg "set" = none) (ha : PE X a (upM X.K Ed Ex tA)) (hc : X.calm = true := by rfl)
    (na : starEach [a] X.env = (false, eval a X.env) :: starEach [] X.env := by rfl) : PE X (.Call (.Name "sorted" p) [.Call (.Name "set" p2) [a] [] q] [] pos) (upL X.K Ed Ex (dSortSet tA)) := by
  refine ⟨fun pins s σ H Q I h => ?_⟩
  obtain ⟨δ, W, P, qd, rs, rw, x, h, kk⟩ := h
  refine Call_ (ld_blt I hg hm bb_sorted ?_)
  refine PyProof.Rows.callWith_builtin1 (PyProof.Rows.args_cons ?_ (by rfl)) (by rfl) (by rfl)
  refine Call_ (ld_blt I hg2 hm2 boot_set ?_)
  refine PyProof.Rows.callWith_type1 (PyProof.Rows.args_cons (thn (ha.run pins s σ H (fun v H1 => ∃ l xs ds W1 P1, v = .ref l ∧ H1 l = some (.lst xs) ∧ repVs X.K H1 ds xs ∧ RepW X.K W1 P1 H1 ∧ Step X.K W P H W1 P1 H1 ∧ rSortSet ds W1 qd) I ⟨δ, W, P, _, rs, rw, x, h, fun ds W1 P1 l xs H1 s1 g1 r1 rw1 h1 => ⟨l, xs, ds, W1, P1, rfl, g1, r1, rw1, s1, h1⟩⟩) fun v s1 ⟨x, H1, I1, r1, q1⟩ => PyProof.Rows.args_nil ?_) na) na (by rfl)
  obtain ⟨l, xs, ds, W1, P1, rfl, g1, r2, rw1, st, ns, rfl, hlen, hq⟩ := q1
  cases r1
  obtain rfl := repVs_ints_inv r2
  obtain ⟨its, rv, pl, hz⟩ := I1.list (.of g1)
  refine set_list ns (I1.ok.hd hc) pl.isList (by simpa using ints_of_vals rv) (by unfold scanBound; omega) fun g tk c hS hcl hk => ?_
  have I2 : Inv X pins σ H1 { s1 with heap := g, toks := tk } := I1.kept hk
  refine PyProof.Rows.args_nil ?_
  obtain ⟨o, es, ep, t, ho, hex, hd, gd, nd, hmem, hb, hf, hnn, hr, hled⟩ := hS
  refine sorted_gen2 (W := W1) (P := P1) (q := qd) rw1 (kk.after st) (fun R E hR => ?_) (args_sorted1 _)
  refine collect_set (A := X.A.in1) (I1.ok.hd hc) ⟨o, ho, hex.1, hd⟩ hf hb hr hled fun z vs k1 hz g1 o1 pm => ?_
  have hI : IntsAre vs (vs.map Builtin.Re.reRawOf) := ints_of vs fun v hv => by
    obtain ⟨e, he, q⟩ := List.mem_map.mp (pm.mem_iff.mp hv)
    obtain ⟨k, tk, h1, _⟩ := gd e he
    exact ⟨k, tk, by rw [← q]; exact h1⟩
  have pk : (vs.map Builtin.Re.reRawOf).Perm (es.toList.map L2.keyOf) := by
    have q := pm.map Builtin.Re.reRawOf
    rw [List.map_map] at q
    exact q
  have nk : (vs.map Builtin.Re.reRawOf).Nodup := pk.nodup_iff.mpr nd
  have mk : ∀ k, k ∈ vs.map Builtin.Re.reRawOf ↔ k ∈ ns := fun k => by
    rw [pk.mem_iff, ← hmem k]; simp
  have I3 : Inv X pins σ H1 z := I2.call' (ch := []) o1 (Un.kept k1) (I2.hok.kept k1) (by rw [g1]; exact I2.bare) (fun _ z => nomatch z)
  generalize hks : vs.map Builtin.Re.reRawOf = ks at hI pk nk mk
  have hvl : vs.length = ks.length := hI.length
  refine hR vs (ks.map V.int) (ks.map D.int) z I3 (vals_of_ints hI) (repVs_ints ks) ?_ ⟨true, 1, kfI, fun _ => rfl, Nat.le_refl 1, ?_, .inr ?_, fun ds' hp hs => ?_⟩
  · rw [List.length_map, pk.length_eq, List.length_map, Array.length_toList, hnn, sizeLine_eq]; omega
  · intro d hd
    obtain ⟨i, _, rfl⟩ := List.mem_map.mp hd
    exact ⟨i, rfl, rfl⟩
  · intro d hd
    obtain ⟨i, _, rfl⟩ := List.mem_map.mp hd
    exact .inl ⟨i, rfl⟩
  · obtain ⟨ns', rfl, h1, h2⟩ := sorted_ints_of hp hs
    exact hq ns' (lt_of_le_nodup ns' h2 (h1.nodup_iff.mpr nk)) fun k => by rw [h1.mem_iff, mk]
end
/-! ### min, max, sum of lists of ints -/
section
variable {X : Cx}
def dMinM : List D → Wd → DK → Prop := fun ds W q => ∃ ns : List Int, ds = ns.map D.int ∧ 0 < ns.length ∧ ∀ m, m ∈ ns → (∀ y, y ∈ ns → m ≤ y) → q (.int m) W
def dMaxM : List D → Wd → DK → Prop := fun ds W q => ∃ ns : List Int, ds = ns.map D.int ∧ 0 < ns.length ∧ ∀ m, m ∈ ns → (∀ y, y ∈ ns → y ≤ m) → q (.int m) W
def dSumM : List D → Wd → DK → Prop := fun ds W q => ∃ ns : List Int, ds = ns.map D.int ∧ q (.int ns.sum) W
theorem dc_minM (hc : X.calm = true) : CallR X (.builtin "min") (upCM X.K dMinM) := (cr_min hc).imp fun xs H Q h => by
  obtain ⟨a, ys, ds, W, P, q, rfl, ha, r, rw, ⟨ns, rfl, hl, h⟩, k⟩ := h
  obtain rfl := repVs_ints_inv r
  exact ⟨a, ns, rfl, .of ha, hl, fun m h1 h2 => k (.int m) W P _ H .refl rfl rw (h m h1 h2)⟩
theorem dc_maxM (hc : X.calm = true) : CallR X (.builtin "max") (upCM X.K dMaxM) := (cr_max hc).imp fun xs H Q h => by
  obtain ⟨a, ys, ds, W, P, q, rfl, ha, r, rw, ⟨ns, rfl, hl, h⟩, k⟩ := h
  obtain rfl := repVs_ints_inv r
  exact ⟨a, ns, rfl, .of ha, hl, fun m h1 h2 => k (.int m) W P _ H .refl rfl rw (h m h1 h2)⟩
theorem dc_sumM (hc : X.calm = true) : CallR X (.builtin "sum") (upCM X.K dSumM) := (cr_sum hc).imp fun xs H Q h => by
  obtain ⟨a, ys, ds, W, P, q, rfl, ha, r, rw, ⟨ns, rfl, h⟩, k⟩ := h
  obtain rfl := repVs_ints_inv r
  exact ⟨a, ns, rfl, .of ha, k (.int _) W P _ H .refl rfl rw h⟩
end
/-! ### list(range(a)), list(range(a, b)) -/
theorem rgV_upto {a b : Int} : rgV a b = (List.range (b - a).toNat).map fun i : Nat => V.int (a + i) := rfl
theorem rep_rg {K : PySem.W.Frag} {H : Hp} {a b : Int} : repVs K H (upto a (b - a).toNat) (rgV a b) := by
  have := repVs_ints (K := K) (H := H) ((List.range (b - a).toNat).map fun i : Nat => a + (i : Int))
  rw [List.map_map, List.map_map] at this
  exact this
def rgD (a b : Int) (W : Wd) (q : List D → Wd → Prop) : Prop := RgOk a b ∧ q (upto a (b - a).toNat) W
def rg1V (d : D) (W : Wd) (q : List D → Wd → Prop) : Prop := match d with
  | .int n => rgD 0 n W q
  | _ => False
def rg2V (d e : D) (W : Wd) (q : List D → Wd → Prop) : Prop := match d, e with
  | .int m, .int n => rgD m n W q
  | _, _ => False
def dLstR1 (ta : TED) : TAD := fun δ W q => ta δ W fun d W1 => rg1V d W1 q
def dLstR2 (ta tb : TED) : TAD := fun δ W q => ta δ W fun d W1 => tb δ W1 fun e W2 => rg2V d e W2 q
theorem rd_lstR1 {ta : TED} {δ : Sd} {W : Wd} {q : List D → Wd → Prop} : dLstR1 ta δ W q = ta δ W fun d W1 => rg1V d W1 q := rfl
theorem rd_lstR2 {ta tb : TED} {δ : Sd} {W : Wd} {q : List D → Wd → Prop} : dLstR2 ta tb δ W q = ta δ W fun d W1 => tb δ W1 fun e W2 => rg2V d e W2 q := rfl
theorem rg1_int {n : Int} {W : Wd} {q : List D → Wd → Prop} : rg1V (.int n) W q = rgD 0 n W q := rfl
theorem rg2_int {m n : Int} {W : Wd} {q : List D → Wd → Prop} : rg2V (.int m) (.int n) W q = rgD m n W q := rfl
section
variable {X : Cx} {Ed : WXD} {Ex : WX} {a b : Expr} {ta tb : TED} {p p2 q pos : Pos}
theorem dl_listR1 (hg : Gl X "list") (hm : X.mg "list" = none) (hg2 : Gl X "range") (hm2 : X.mg "range" = none) (ha : PE X a (upE X.K Ed Ex ta)) (hc : X.calm = true := by rfl) (na : starEach [a] X.env = (false, eval a X.env) :: starEach [] X.env := by rfl)
    (nb : starEach [.Call (.Name "range" p2) [a] [] q] X.env = (false, eval (.Call (.Name "range" p2) [a] [] q) X.env) :: starEach [] X.env := by rfl) : PE X (.Call (.Name "list" p) [.Call (.Name "range" p2) [a] [] q] [] pos) (upL X.K Ed Ex (dLstR1 ta)) :=
  (pe_listRg hc hg hm (prg_1 hg2 hm2 ha na) nb).imp fun σ H Q h => by
  obtain ⟨δ, W, P, q, rs, rw, x, h, k⟩ := h
  refine ⟨δ, W, P, _, rs, rw, x, h, fun d W1 P1 v H1 s1 r1 rw1 h1 => ?_⟩
  cases d with
  | int n => exact ⟨n, r1, h1.1, fun p hp => (k.after s1) _ W1 P1 p _ _ (Step.new hp) hp upd_same (fun f => rw1.tracked f hp) rep_rg (rw1.new hp) h1.2⟩
  | _ => exact h1.elim
theorem dl_listR2 (hg : Gl X "list") (hm : X.mg "list" = none) (hg2 : Gl X "range") (hm2 : X.mg "range" = none) (ha : PE X a (upE X.K Ed Ex ta)) (hb : PE X b (upE X.K Ed Ex tb)) (hc : X.calm = true := by rfl)
    (na : starEach [a, b] X.env = (false, eval a X.env) :: starEach [b] X.env := by rfl) (nn : starEach [b] X.env = (false, eval b X.env) :: starEach [] X.env := by rfl) (hp : (backTo q (starEach [b] X.env)).any (·.1) = false := by rfl)
    (nb : starEach [.Call (.Name "range" p2) [a, b] [] q] X.env = (false, eval (.Call (.Name "range" p2) [a, b] [] q) X.env) :: starEach [] X.env := by rfl) : PE X (.Call (.Name "list" p) [.Call (.Name "range" p2) [a, b] [] q] [] pos) (upL X.K Ed Ex (dLstR2 ta tb)) :=
  (pe_listRg hc hg hm (prg_2 hg2 hm2 ha hb na nn hp) nb).imp fun σ H Q h => by
  obtain ⟨δ, W, P, q, rs, rw, x, h, k⟩ := h
  refine ⟨δ, W, P, _, rs, rw, x, h, fun d W1 P1 v H1 s1 r1 rw1 h1 => ?_⟩
  refine ⟨δ, W1, P1, _, rs.step s1, rw1, x.after s1, h1, fun e W2 P2 u H2 s2 r2 rw2 h2 => ?_⟩
  cases d with
  | int m => cases e with
    | int n => exact ⟨m, n, repV_step r1 s2, r2, h2.1, fun p hp => (k.after (s1.trans s2)) _ W2 P2 p _ _ (Step.new hp) hp upd_same (fun f => rw2.tracked f hp) rep_rg (rw2.new hp) h2.2⟩
    | _ => exact h2.elim
  | _ => exact h2.elim
end
/-! ### l.remove(x) over data -/
def firstD (ps : List PyData) (p : PyData) (j : Nat) : Prop := (∃ z, ps[j]? = some z ∧ PyData.eqv z p = true) ∧ ∀ (m : Nat) (z : PyData), m < j → ps[m]? = some z → PyData.eqv z p = false
section
variable {X : Cx}
def rRemD (K : PySem.W.Frag) : V → List V → Hp → VK → Prop := fun x xs H Q => ∃ (a : Addr) (y : V) (ys : List V) (d : PyData) (ds : List PyData) (j : Nat), x = V.ref a ∧ xs = [y] ∧ H a = some (.lst ys) ∧ DpAll K H ys ds ∧ Dp K H y d ∧
  SeqAt.shaped (.list ds) = true ∧ SeqAt.shaped d = true ∧ firstD ds d j ∧ Q .non (upd H a (.lst (ys.eraseIdx j)))
theorem mt_removeD (hu : X.A.units + 65 < cLine) : MtR X "list.remove" (rRemD X.K) := by
  intro pins s σ H x xs v us Q I rx rxs h
  obtain ⟨a, y, ys, d, ds, j, rfl, rfl, ha, hl, hy, sl, sd, ⟨⟨z, hz, hzj⟩, hno⟩, q⟩ := h
  cases rx
  obtain ⟨uy, rfl, ry⟩ := rxs.one
  obtain ⟨bs, r1⟩ := Dp.reads I d y uy hy ry
  have c1 : PyData.canLayAll0 ds = true := SeqAt.canLay_of_shaped sl
  have c2 : X.A.units + 1 + min (PyData.depthAll ds) d.depth < cLine := room_in_shaped sd hu
  obtain ⟨zl, its, n, rv, hll, e⟩ := I.lstM ha
  obtain ⟨as, h4⟩ := Dp.readsAll I ds _ its hl rv
  have hn : its.length = ds.length := SeqAt.ReadsAll.length ds its as h4
  have hmap : its.map (SeqAt.readOf s.heap) = ds := SeqAt.readsAll_map ds its as c1 h4
  have hj : j < its.toArray.size := by rw [List.size_toArray, hn]; exact (List.getElem?_eq_some_iff.mp hz).1
  have rd : ∀ (m : Nat) (hm : m < its.toArray.size) (z' : PyData), ds[m]? = some z' → SeqAt.readOf s.heap its.toArray[m] = z' := fun m hm z' e' => by
    have hml : m < its.length := by simpa using hm
    rw [← hmap, List.getElem?_map, List.getElem?_eq_getElem hml] at e'
    simpa using Option.some.inj e'
  refine call_meets PySem.F.slot_list_remove ⟨_, e, rfl⟩ PySem.F.entry_list_remove (PySem.F.args_list_remove_2 _ _) (SeqAt.list_removeAt a its.toArray n none #[] uy (fun u => PyData.eqv (SeqAt.readOf s.heap u) d) j hj ?_ ?_ (by rw [List.size_toArray, ← hll]; exact zl))
    ⟨e, SeqAt.items_eqAt (vs := its.toArray) (show ReadsAll s.heap its.toArray.toList ds as from h4) r1 c1 (SeqAt.canLay_of_shaped sd) c2, ?_⟩
  · show PyData.eqv (SeqAt.readOf s.heap its.toArray[j]) d = true
    rw [rd j hj z hz]; exact hzj
  · intro m hm hmj
    have e' : ds[m]? = some (ds[m]'(by rw [List.size_toArray, hn] at hm; exact hm)) := List.getElem?_eq_getElem _
    show PyData.eqv (SeqAt.readOf s.heap its.toArray[m]) d = false
    rw [rd m hm _ e']; exact hno m _ hmj e'
  · have f : its.toArray.eraseIdxIfInBounds j = (its.eraseIdx j).toArray := List.eraseIdxIfInBounds_toArray ..
    exact ⟨.non, _, I.lset (its' := its.eraseIdx j) (t' := s.toks) ha e f (rv.eraseIdx j) (Nat.le_trans (List.length_eraseIdx_le ..) zl), rfl, q⟩
end
theorem repVs_erase {K : PySem.W.Frag} {H : Hp} : ∀ {ds : List D} {xs : List V} (i : Nat), repVs K H ds xs → repVs K H (ds.eraseIdx i) (xs.eraseIdx i)
  | [], _, _, h => by simp only [repVs] at h; subst h; rfl
  | d :: ds, _, 0, h => by
    simp only [repVs] at h
    obtain ⟨x, r, rfl, h1, h2⟩ := h
    exact h2
  | d :: ds, _, i + 1, h => by
    simp only [repVs] at h
    obtain ⟨x, r, rfl, h1, h2⟩ := h
    exact ⟨x, _, rfl, h1, repVs_erase i h2⟩
def rmV (o x : D) (W : Wd) (q : DK) : Prop := match o with
  | .ref a => (match W.hp a with
    | some (.lst ds) => ∃ p ps j, pyIn (rfD W.hp deepN) x = some p ∧ pyIns (rfD W.hp deepN) ds = some ps ∧ SeqAt.shaped p = true ∧ SeqAt.shaped (.list ps) = true ∧ firstD ps p j ∧ q .non (W.put a (.lst (ds.eraseIdx j)))
    | _ => False)
  | _ => False
def rmL (W : Wd) (a : Addr) (ds : List D) (x : D) (q : DK) : Prop := ∃ p ps j, pyIn (rfD W.hp deepN) x = some p ∧ pyIns (rfD W.hp deepN) ds = some ps ∧ SeqAt.shaped p = true ∧ SeqAt.shaped (.list ps) = true ∧ firstD ps p j ∧ q .non (W.put a (.lst (ds.eraseIdx j)))
theorem rd_rmV {a : Addr} {x : D} {W : Wd} {q : DK} : rmV (.ref a) x W q = onLst (W.hp a) fun ds => rmL W a ds x q := by
  show (match W.hp a with | some (.lst ds) => _ | _ => False) = _
  unfold onLst rmL
  split <;> simp_all
def dRemove (to te : TED) : TED := fun δ W q => to δ W fun o W1 => lstAt W1 o fun _ => te δ W1 fun d W2 => rmV o d W2 q
theorem rd_remove {to te : TED} {δ : Sd} {W : Wd} {q : DK} : dRemove to te δ W q = to δ W fun o W1 => lstAt W1 o fun _ => te δ W1 fun d W2 => rmV o d W2 q := rfl
section
variable {X : Cx} {Ed : WXD} {Ex : WX} {to te : TED}
theorem de_remove {ce : Expr} (h : PE X ce (tBM X.K "list" (rRemD X.K) (upE X.K Ed Ex to) (tCons (upE X.K Ed Ex te) tNil))) : PE X ce (upE X.K Ed Ex (dRemove to te)) := h.imp fun σ H Q h => by
  obtain ⟨δ, W, P, q, rs, rw, x, h, k⟩ := h
  refine ⟨δ, W, P, _, rs, rw, x, h, fun d W1 P1 v H1 s1 r1 rw1 h1 => ?_⟩
  obtain ⟨a, ds, xs, rfl, rfl, _, g1, g2, h2⟩ := lstAt_rep rw1 r1 h1
  refine ⟨tyV_list g1, δ, W1, P1, _, rs.step s1, rw1, x.after s1, h2, fun d2 W2 P2 v2 H2 s2 r2 rw2 h3 => ?_⟩
  rw [rd_rmV] at h3
  unfold onLst at h3
  split at h3
  · rename_i ds2 eds
    obtain ⟨p, ps, j, e1, e2, c1, c2, hf, h4⟩ := h3
    obtain ⟨u, f1, ys, rfl, f2⟩ := rw2.vis _ _ eds
    have sw := Step.write (o := .lst (ys.eraseIdx j)) (d := .lst (ds2.eraseIdx j)) rw2 eds
    exact ⟨a, v2, ys, p, ps, j, rfl, rfl, f1, dp_ins (dp_rf rw2 _) _ f2 e2, dp_in (dp_rf rw2 _) _ r2 e1, c2, c1, hf, k .non _ P2 _ _ ((s1.trans s2).trans sw) rfl (rw2.write eds ⟨_, rfl, repVs_step (repVs_erase j f2) sw⟩) h4⟩
  · exact h3.elim
end
end DL

namespace DL
open PySem L2 PySem.Spec PyProof.Rows
/-! ### dicts by their lists -/
section
variable {κ : Type} [DecidableEq κ]
theorem valD_none {t : List (κ × D)} {k : κ} : valD t k = none ↔ ∀ e ∈ t, e.1 ≠ k := by
  unfold valD
  rw [Option.map_eq_none_iff, List.find?_eq_none]
  simp
theorem valD_mem {t : List (κ × D)} {k : κ} {d : D} (h : valD t k = some d) : (k, d) ∈ t := by
  unfold valD at h
  obtain ⟨e, h1, rfl⟩ := Option.map_eq_some_iff.mp h
  have h2 := List.find?_some h1
  have h3 := List.mem_of_find?_eq_some h1
  have : e.1 = k := by simpa using h2
  rw [← this]; exact h3
theorem valD_of {t : List (κ × D)} {k : κ} {d : D} (hn : (t.map (·.1)).Nodup) (h : (k, d) ∈ t) : valD t k = some d := by
  induction t with
  | nil => cases h
  | cons e r ih =>
    rw [List.map_cons, List.nodup_cons] at hn
    unfold valD
    rw [List.find?_cons]
    by_cases c : e.1 = k
    · rcases List.mem_cons.mp h with h | h
      · subst h; simp
      · exact absurd (List.mem_map.mpr ⟨_, h, c.symm⟩) hn.1
    · rw [show decide (e.1 = k) = false from decide_eq_false c]
      rcases List.mem_cons.mp h with h | h
      · subst h; exact absurd rfl c
      · exact ih hn.2 h
theorem cutK_map {α : Type} {f : α → κ} {g : α → D} {l : List α} {k : κ} : cutK (l.map fun a => (f a, g a)) k = (l.filter fun a => decide (f a ≠ k)).map fun a => (f a, g a) := by
  unfold cutK
  rw [List.filter_map]; rfl
end
theorem uniq_of_strict {α : Type} {lt : α → α → Prop} (irr : ∀ a, ¬ lt a a) (asy : ∀ a b, lt a b → ¬ lt b a) : ∀ {l m : List α}, l.Pairwise lt → m.Pairwise lt → (∀ x, x ∈ l ↔ x ∈ m) → l = m
  | [], [], _, _, _ => rfl
  | [], b :: m, _, _, h => nomatch (h b).mpr List.mem_cons_self
  | a :: l, [], _, _, h => nomatch (h a).mp List.mem_cons_self
  | a :: l, b :: m, h1, h2, h => by
    obtain ⟨x1, y1⟩ := List.pairwise_cons.mp h1
    obtain ⟨x2, y2⟩ := List.pairwise_cons.mp h2
    have e : a = b := by
      rcases List.mem_cons.mp ((h a).mp List.mem_cons_self) with q | q
      · exact q
      · rcases List.mem_cons.mp ((h b).mpr List.mem_cons_self) with z | z
        · exact z.symm
        · exact absurd (x2 a q) (asy _ _ (x1 b z))
    subst e
    rw [uniq_of_strict irr asy y1 y2 fun x => ⟨fun q => ?_, fun q => ?_⟩]
    · rcases List.mem_cons.mp ((h x).mp (List.mem_cons_of_mem _ q)) with z | z
      · subst z; exact absurd (x1 x q) (irr x)
      · exact z
    · rcases List.mem_cons.mp ((h x).mpr (List.mem_cons_of_mem _ q)) with z | z
      · subst z; exact absurd (x2 x q) (irr x)
      · exact z
theorem ints_uniq {l m : List Int} (h1 : l.Pairwise (· < ·)) (h2 : m.Pairwise (· < ·)) (h : ∀ x, x ∈ l ↔ x ∈ m) : l = m := uniq_of_strict (fun a q => Int.lt_irrefl a q) (fun a b q z => Int.lt_irrefl a (Int.lt_trans q z)) h1 h2 h
/-! ### a Waiting -/
structure Row where
  tk : Int
  key : Int
  due : Int
  came : Int
structure GW where
  key : Int
  at_ : Addr
  asks : List (Int × Int × Int)
def gKV (G : List GW) : List (Key × D) := G.map fun g => (.inl g.key, .ref g.at_)
def aKV (L : List (Int × Int × Int)) : List (Key × D) := L.map fun a => (.inl a.1, .tup [.int a.2.1, .int a.2.2])
def tKV (T : List (Int × Int)) : List (Key × D) := T.map fun e => (.inl e.1, .int e.2)
theorem keys_gKV {G : List GW} (h : (G.map (·.key)).Nodup) : ((gKV G).map (·.1)).Nodup := by
  unfold gKV
  rw [List.map_map]
  exact List.pairwise_map.mpr ((List.pairwise_map.mp h).imp fun n e => n (Sum.inl.inj e))
theorem keys_aKV {L : List (Int × Int × Int)} (h : (L.map (·.1)).Nodup) : ((aKV L).map (·.1)).Nodup := by
  unfold aKV
  rw [List.map_map]
  exact List.pairwise_map.mpr ((List.pairwise_map.mp h).imp fun n e => n (Sum.inl.inj e))
theorem keys_tKV {T : List (Int × Int)} (h : (T.map (·.1)).Nodup) : ((tKV T).map (·.1)).Nodup := by
  unfold tKV
  rw [List.map_map]
  exact List.pairwise_map.mpr ((List.pairwise_map.mp h).imp fun n e => n (Sum.inl.inj e))
def waitO (C : Addr) (most wait : Int) (d1 d2 : Addr) : DO := .ins C [("most", .int most), ("wait", .int wait), ("asks_by_key", .ref d1), ("key_by_ticket", .ref d2)]
structure WtR (p C : Addr) (most wait : Int) (n : Nat) (R : List Row) (h : Dh) (d1 d2 : Addr) (G : List GW) (T : List (Int × Int)) : Prop where
  self : h p = some (waitO C most wait d1 d2)
  g1 : h d1 = some (.dK (gKV G))
  t1 : h d2 = some (.dK (tKV T))
  at_ : ∀ g ∈ G, h g.at_ = some (.dK (aKV g.asks))
  n3 : d1 ≠ d2
  n4 : ∀ g ∈ G, g.at_ ≠ d1 ∧ g.at_ ≠ d2
  nd : (G.map (·.at_)).Nodup
  nk : (G.map (·.key)).Nodup
  nt : (T.map (·.1)).Nodup
  na : ∀ g ∈ G, (g.asks.map (·.1)).Nodup
  ne : ∀ g ∈ G, g.asks ≠ []
  szT : T.length ≤ n
  szG : G.length ≤ n
  szA : ∀ g ∈ G, g.asks.length ≤ n
  rowT : ∀ t k, (t, k) ∈ T ↔ ∃ r ∈ R, r.tk = t ∧ r.key = k
  rowG : ∀ t k d c, (⟨t, k, d, c⟩ : Row) ∈ R ↔ ∃ g ∈ G, g.key = k ∧ (t, d, c) ∈ g.asks
section
variable {p C d1 d2 f : Addr} {most wait : Int} {n : Nat} {R R' : List Row} {h h' : Dh} {G G1 G2 : List GW} {T : List (Int × Int)} {t k d c : Int} {g : GW}
theorem WtR.np1 (r : WtR p C most wait n R h d1 d2 G T) : p ≠ d1 := by
  rintro rfl
  have := r.self
  rw [r.g1] at this
  unfold waitO at this; cases this
theorem WtR.np2 (r : WtR p C most wait n R h d1 d2 G T) : p ≠ d2 := by
  rintro rfl
  have := r.self
  rw [r.t1] at this
  unfold waitO at this; cases this
theorem WtR.npg (r : WtR p C most wait n R h d1 d2 G T) (hg : g ∈ G) : p ≠ g.at_ := by
  intro e
  have := r.self
  rw [e, r.at_ g hg] at this
  unfold waitO at this; cases this
theorem WtR.valT (r : WtR p C most wait n R h d1 d2 G T) : (valD (tKV T) (.inl t) = none ∧ ∀ x ∈ R, x.tk ≠ t) ∨ ∃ x ∈ R, x.tk = t ∧ valD (tKV T) (.inl t) = some (.int x.key) := by
  cases e : valD (tKV T) (.inl t) with
  | none =>
    refine .inl ⟨rfl, fun x hx ex => ?_⟩
    have h1 := (r.rowT t x.key).mpr ⟨x, hx, ex, rfl⟩
    exact valD_none.mp e _ (List.mem_map.mpr ⟨_, h1, rfl⟩) rfl
  | some v =>
    refine .inr ?_
    obtain ⟨⟨t', k'⟩, h1, h2⟩ := List.mem_map.mp (valD_mem e)
    cases h2
    obtain ⟨x, hx, e1, e2⟩ := (r.rowT t' k').mp h1
    exact ⟨x, hx, e1, by rw [e2]⟩
theorem WtR.valG (r : WtR p C most wait n R h d1 d2 G T) : (valD (gKV G) (.inl k) = none ∧ ∀ g ∈ G, g.key ≠ k) ∨ ∃ G1 g G2, G = G1 ++ g :: G2 ∧ g.key = k ∧ valD (gKV G) (.inl k) = some (.ref g.at_) := by
  cases e : valD (gKV G) (.inl k) with
  | none => exact .inl ⟨rfl, fun g hg ex => valD_none.mp e _ (List.mem_map.mpr ⟨g, hg, rfl⟩) (by rw [ex])⟩
  | some v =>
    obtain ⟨g, h1, h2⟩ := List.mem_map.mp (valD_mem e)
    cases h2
    obtain ⟨G1, G2, e1⟩ := List.append_of_mem h1
    exact .inr ⟨G1, g, G2, e1, rfl, rfl⟩
theorem WtR.hasG (r : WtR p C most wait n R h d1 d2 G T) : (valD (gKV G) (.inl k)).isSome = R.any fun x => decide (x.key = k) := by
  rw [Bool.eq_iff_iff, List.any_eq_true]
  constructor
  · intro q
    rcases r.valG (k := k) with ⟨e, _⟩ | ⟨G1, g, G2, rfl, e2, _⟩
    · rw [e] at q; cases q
    · have hg : g ∈ G1 ++ g :: G2 := by simp
      obtain ⟨⟨t, d, c⟩, ha⟩ := List.exists_mem_of_ne_nil _ (r.ne g hg)
      exact ⟨⟨t, g.key, d, c⟩, (r.rowG _ _ _ _).mpr ⟨g, hg, rfl, ha⟩, by simpa using e2⟩
  · rintro ⟨⟨t, k', d, c⟩, hx, e⟩
    have e : k' = k := by simpa using e
    obtain ⟨g, hg, e1, _⟩ := (r.rowG _ _ _ _).mp hx
    rcases r.valG (k := k) with ⟨_, h2⟩ | ⟨_, _, _, _, _, h3⟩
    · exact absurd (e1.trans e) (h2 g hg)
    · rw [h3]; rfl
theorem WtR.start (h1 : h p = some (waitO C most wait d1 d2)) (h2 : h d1 = some (.dK [])) (h3 : h d2 = some (.dK [])) (h4 : d1 ≠ d2) : WtR p C most wait 0 [] h d1 d2 [] [] :=
  ⟨h1, h2, h3, nofun, h4, nofun, List.nodup_nil, List.nodup_nil, List.nodup_nil, nofun, nofun, Nat.le_refl _, Nat.le_refl _, nofun, fun t k => ⟨nofun, nofun⟩, fun t k d c => ⟨nofun, nofun⟩⟩
theorem nodup_snoc {α : Type} {l : List α} {a : α} (h : l.Nodup) (n : a ∉ l) : (l ++ [a]).Nodup := by
  rw [List.nodup_append]
  exact ⟨h, by simp, fun x hx y hy e => n (by rw [List.mem_singleton] at hy; subst hy; subst e; exact hx)⟩
theorem WtR.put_new (r : WtR p C most wait n R h d1 d2 G T) (hR : ∀ x, x ∈ R' ↔ x = ⟨t, k, d, c⟩ ∨ x ∈ R) (ht : ∀ x ∈ R, x.tk ≠ t) (hk : ∀ g ∈ G, g.key ≠ k) (hf : h f = none)
    (e1 : h' d1 = some (.dK (gKV G ++ [(.inl k, .ref f)]))) (e2 : h' d2 = some (.dK (tKV T ++ [(.inl t, .int k)]))) (e3 : h' f = some (.dK [(.inl t, .tup [.int d, .int c])])) (eo : ∀ b o, b ≠ d1 → b ≠ d2 → h b = some o → h' b = some o) :
    WtR p C most wait (n + 1) R' h' d1 d2 (G ++ [⟨k, f, [(t, d, c)]⟩]) (T ++ [(t, k)]) := by
  have nf : ∀ b o, h b = some o → f ≠ b := by rintro b o e rfl; rw [hf] at e; cases e
  have mem : ∀ g' ∈ G ++ [(⟨k, f, [(t, d, c)]⟩ : GW)], g' ∈ G ∨ g' = ⟨k, f, [(t, d, c)]⟩ := fun g' h1 => by
    rcases List.mem_append.mp h1 with h1 | h1
    · exact .inl h1
    · exact .inr (List.mem_singleton.mp h1)
  refine ⟨eo _ _ r.np1 r.np2 r.self, by rw [e1]; unfold gKV; rw [List.map_append]; rfl, by rw [e2]; unfold tKV; rw [List.map_append]; rfl, ?_, r.n3, ?_, ?_, ?_, ?_, ?_, ?_, ?_, ?_, ?_, ?_, ?_⟩
  · intro g' h1
    rcases mem g' h1 with h1 | rfl
    · exact eo _ _ (r.n4 g' h1).1 (r.n4 g' h1).2 (r.at_ g' h1)
    · exact e3
  · intro g' h1
    rcases mem g' h1 with h1 | rfl
    · exact r.n4 g' h1
    · exact ⟨nf _ _ r.g1, nf _ _ r.t1⟩
  · rw [List.map_append]
    refine nodup_snoc r.nd fun h1 => ?_
    obtain ⟨g', h2, h3⟩ := List.mem_map.mp h1
    exact nf _ _ (r.at_ g' h2) h3.symm
  · rw [List.map_append]
    refine nodup_snoc r.nk fun h1 => ?_
    obtain ⟨g', h2, h3⟩ := List.mem_map.mp h1
    exact hk g' h2 h3
  · rw [List.map_append]
    refine nodup_snoc r.nt fun h1 => ?_
    obtain ⟨⟨t', k'⟩, h2, h3⟩ := List.mem_map.mp h1
    obtain ⟨x, hx, q1, q2⟩ := (r.rowT _ _).mp h2
    exact ht x hx (q1.trans h3)
  · intro g' h1
    rcases mem g' h1 with h1 | rfl
    · exact r.na g' h1
    · simp
  · intro g' h1
    rcases mem g' h1 with h1 | rfl
    · exact r.ne g' h1
    · simp
  · rw [List.length_append]; exact Nat.succ_le_succ r.szT
  · rw [List.length_append]; exact Nat.succ_le_succ r.szG
  · intro g' h1
    rcases mem g' h1 with h1 | rfl
    · exact Nat.le_succ_of_le (r.szA g' h1)
    · simp
  · intro t' k'
    rw [List.mem_append, List.mem_singleton, r.rowT]
    constructor
    · rintro (⟨x, hx, q⟩ | q)
      · exact ⟨x, (hR x).mpr (.inr hx), q⟩
      · cases q; exact ⟨⟨t, k, d, c⟩, (hR _).mpr (.inl rfl), rfl, rfl⟩
    · rintro ⟨x, hx, q1, q2⟩
      rcases (hR x).mp hx with rfl | hx
      · exact .inr (by rw [← q1, ← q2])
      · exact .inl ⟨x, hx, q1, q2⟩
  · intro t' k' d' c'
    rw [hR, r.rowG]
    constructor
    · rintro (q | ⟨g', h1, q⟩)
      · cases q; exact ⟨⟨k, f, [(t, d, c)]⟩, by simp, rfl, by simp⟩
      · exact ⟨g', List.mem_append.mpr (.inl h1), q⟩
    · rintro ⟨g', h1, q1, q2⟩
      rcases mem g' h1 with h1 | rfl
      · exact .inr ⟨g', h1, q1, q2⟩
      · rw [List.mem_singleton] at q2
        cases q2
        exact .inl (by rw [← q1])
theorem WtR.put_old (r : WtR p C most wait n R h d1 d2 (G1 ++ g :: G2) T) (hR : ∀ x, x ∈ R' ↔ x = ⟨t, g.key, d, c⟩ ∨ x ∈ R) (ht : ∀ x ∈ R, x.tk ≠ t)
    (e1 : h' g.at_ = some (.dK (aKV g.asks ++ [(.inl t, .tup [.int d, .int c])]))) (e2 : h' d2 = some (.dK (tKV T ++ [(.inl t, .int g.key)]))) (eo : ∀ b o, b ≠ g.at_ → b ≠ d2 → h b = some o → h' b = some o) :
    WtR p C most wait (n + 1) R' h' d1 d2 (G1 ++ ⟨g.key, g.at_, g.asks ++ [(t, d, c)]⟩ :: G2) (T ++ [(t, g.key)]) := by
  have hg : g ∈ G1 ++ g :: G2 := by simp
  have nd := r.nd
  rw [List.map_append, List.map_cons, List.nodup_append, List.nodup_cons] at nd
  have mem : ∀ g' ∈ G1 ++ (⟨g.key, g.at_, g.asks ++ [(t, d, c)]⟩ : GW) :: G2, (g' ∈ G1 ++ g :: G2 ∧ g'.at_ ≠ g.at_) ∨ g' = ⟨g.key, g.at_, g.asks ++ [(t, d, c)]⟩ := fun g' h1 => by
    rcases List.mem_append.mp h1 with h1 | h1
    · exact .inl ⟨List.mem_append.mpr (.inl h1), fun e => nd.2.2 _ (List.mem_map.mpr ⟨g', h1, rfl⟩) _ List.mem_cons_self e⟩
    · rcases List.mem_cons.mp h1 with h1 | h1
      · exact .inr h1
      · exact .inl ⟨by simp [h1], fun e => nd.2.1.1 (List.mem_map.mpr ⟨g', h1, e⟩)⟩
  have memr : ∀ g' ∈ G1 ++ g :: G2, g' ∈ G1 ++ (⟨g.key, g.at_, g.asks ++ [(t, d, c)]⟩ : GW) :: G2 ∨ g' = g := fun g' h1 => by
    rcases List.mem_append.mp h1 with h1 | h1
    · exact .inl (List.mem_append.mpr (.inl h1))
    · rcases List.mem_cons.mp h1 with h1 | h1
      · exact .inr h1
      · exact .inl (by simp [h1])
  have hkv : gKV (G1 ++ (⟨g.key, g.at_, g.asks ++ [(t, d, c)]⟩ : GW) :: G2) = gKV (G1 ++ g :: G2) := by unfold gKV; rw [List.map_append, List.map_append]; rfl
  have fresh : t ∉ g.asks.map (·.1) := fun h1 => by
    obtain ⟨⟨t', d', c'⟩, h2, h3⟩ := List.mem_map.mp h1
    exact ht _ ((r.rowG _ _ _ _).mpr ⟨g, hg, rfl, h2⟩) h3
  refine ⟨eo _ _ (r.npg hg) r.np2 r.self, ?_, by rw [e2]; unfold tKV; rw [List.map_append]; rfl, ?_, r.n3, ?_, ?_, ?_, ?_, ?_, ?_, ?_, ?_, ?_, ?_, ?_⟩
  · rw [hkv]; exact eo _ _ (fun e => (r.n4 g hg).1 e.symm) r.n3 r.g1
  · intro g' h1
    rcases mem g' h1 with ⟨h1, h2⟩ | rfl
    · exact eo _ _ h2 (r.n4 g' h1).2 (r.at_ g' h1)
    · rw [e1]; unfold aKV; rw [List.map_append]; rfl
  · intro g' h1
    rcases mem g' h1 with ⟨h1, _⟩ | rfl
    · exact r.n4 g' h1
    · exact r.n4 g hg
  · have := r.nd; rw [List.map_append, List.map_cons] at this ⊢; exact this
  · have := r.nk; rw [List.map_append, List.map_cons] at this ⊢; exact this
  · rw [List.map_append]
    refine nodup_snoc r.nt fun h1 => ?_
    obtain ⟨⟨t', k'⟩, h2, h3⟩ := List.mem_map.mp h1
    obtain ⟨x, hx, q1, q2⟩ := (r.rowT _ _).mp h2
    exact ht x hx (q1.trans h3)
  · intro g' h1
    rcases mem g' h1 with ⟨h1, _⟩ | rfl
    · exact r.na g' h1
    · show ((g.asks ++ [(t, d, c)]).map (·.1)).Nodup
      rw [List.map_append]
      exact nodup_snoc (r.na g hg) fresh
  · intro g' h1
    rcases mem g' h1 with ⟨h1, _⟩ | rfl
    · exact r.ne g' h1
    · simp
  · rw [List.length_append]; exact Nat.succ_le_succ r.szT
  · have := r.szG
    simp only [List.length_append, List.length_cons] at this ⊢; omega
  · intro g' h1
    rcases mem g' h1 with ⟨h1, _⟩ | rfl
    · exact Nat.le_succ_of_le (r.szA g' h1)
    · show (g.asks ++ [(t, d, c)]).length ≤ _
      rw [List.length_append]; exact Nat.succ_le_succ (r.szA g hg)
  · intro t' k'
    rw [List.mem_append, List.mem_singleton, r.rowT]
    constructor
    · rintro (⟨x, hx, q⟩ | q)
      · exact ⟨x, (hR x).mpr (.inr hx), q⟩
      · cases q; exact ⟨⟨t, g.key, d, c⟩, (hR _).mpr (.inl rfl), rfl, rfl⟩
    · rintro ⟨x, hx, q1, q2⟩
      rcases (hR x).mp hx with rfl | hx
      · exact .inr (by rw [← q1, ← q2])
      · exact .inl ⟨x, hx, q1, q2⟩
  · intro t' k' d' c'
    rw [hR, r.rowG]
    constructor
    · rintro (q | ⟨g', h1, q1, q2⟩)
      · cases q; exact ⟨⟨g.key, g.at_, g.asks ++ [(t, d, c)]⟩, by simp, rfl, by simp⟩
      · rcases memr g' h1 with h1 | rfl
        · exact ⟨g', h1, q1, q2⟩
        · exact ⟨⟨g'.key, g'.at_, g'.asks ++ [(t, d, c)]⟩, by simp, q1, by simp [q2]⟩
    · rintro ⟨g', h1, q1, q2⟩
      rcases mem g' h1 with ⟨h1, _⟩ | rfl
      · exact .inr ⟨g', h1, q1, q2⟩
      · rcases List.mem_append.mp q2 with q2 | q2
        · exact .inr ⟨g, hg, q1, q2⟩
        · rw [List.mem_singleton] at q2
          cases q2
          exact .inl (by rw [← q1])
/-- the rows of one ticket -/
theorem WtR.one (r : WtR p C most wait n R h d1 d2 G T) {x y : Row} (hx : x ∈ R) (hy : y ∈ R) (e : x.tk = y.tk) : x = y := by
  obtain ⟨t1, k1, u1, c1⟩ := x
  obtain ⟨t2, k2, u2, c2⟩ := y
  have e : t1 = t2 := e
  subst e
  have m1 := (r.rowT t1 k1).mpr ⟨_, hx, rfl, rfl⟩
  have m2 := (r.rowT t1 k2).mpr ⟨_, hy, rfl, rfl⟩
  have z1 := valD_of (keys_tKV r.nt) (List.mem_map.mpr ⟨_, m1, rfl⟩ : ((Sum.inl t1 : Key), D.int k1) ∈ tKV T)
  have z2 := valD_of (keys_tKV r.nt) (List.mem_map.mpr ⟨_, m2, rfl⟩ : ((Sum.inl t1 : Key), D.int k2) ∈ tKV T)
  rw [z1] at z2
  cases z2
  obtain ⟨g1, hg1, e1, a1⟩ := (r.rowG _ _ _ _).mp hx
  obtain ⟨g2, hg2, e2, a2⟩ := (r.rowG _ _ _ _).mp hy
  have y1 := valD_of (keys_gKV r.nk) (List.mem_map.mpr ⟨g1, hg1, rfl⟩ : ((Sum.inl g1.key : Key), D.ref g1.at_) ∈ gKV G)
  have y2 := valD_of (keys_gKV r.nk) (List.mem_map.mpr ⟨g2, hg2, rfl⟩ : ((Sum.inl g2.key : Key), D.ref g2.at_) ∈ gKV G)
  rw [e1] at y1; rw [e2] at y2; rw [y1] at y2
  have ea : g1.at_ = g2.at_ := D.ref.inj (Option.some.inj y2)
  have b1 := r.at_ g1 hg1
  have b2 := r.at_ g2 hg2
  rw [ea, b2] at b1
  have b3 : aKV g2.asks = aKV g1.asks := DO.dK.inj (Option.some.inj b1)
  have w1 := valD_of (keys_aKV (r.na g1 hg1)) (List.mem_map.mpr ⟨_, a1, rfl⟩ : ((Sum.inl t1 : Key), D.tup [.int u1, .int c1]) ∈ aKV g1.asks)
  have w2 := valD_of (keys_aKV (r.na g2 hg2)) (List.mem_map.mpr ⟨_, a2, rfl⟩ : ((Sum.inl t1 : Key), D.tup [.int u2, .int c2]) ∈ aKV g2.asks)
  rw [b3, w1] at w2
  cases w2
  rfl
theorem nodup_filter_map {α β : Type} {f : α → β} {l : List α} {c : α → Bool} (h : (l.map f).Nodup) : ((l.filter c).map f).Nodup := h.sublist (List.filter_sublist.map f)
theorem cut_gKV {k : Int} : cutK (gKV G) (.inl k) = gKV (G.filter fun g => decide (g.key ≠ k)) := by
  unfold gKV
  rw [cutK_map]
  congr 1
  apply List.filter_congr
  intro g _
  simp
theorem cut_tKV {k : Int} : cutK (tKV T) (.inl k) = tKV (T.filter fun g => decide (g.1 ≠ k)) := by
  unfold tKV
  rw [cutK_map]
  congr 1
  apply List.filter_congr
  intro g _
  simp
theorem cut_aKV {L : List (Int × Int × Int)} {k : Int} : cutK (aKV L) (.inl k) = aKV (L.filter fun g => decide (g.1 ≠ k)) := by
  unfold aKV
  rw [cutK_map]
  congr 1
  apply List.filter_congr
  intro g _
  simp
theorem filter_key (hn : ((G1 ++ g :: G2).map (·.key)).Nodup) : (G1 ++ g :: G2).filter (fun x => decide (x.key ≠ g.key)) = G1 ++ G2 := by
  rw [List.map_append, List.map_cons, List.nodup_append, List.nodup_cons] at hn
  rw [List.filter_append, List.filter_cons_of_neg (by simp)]
  congr 1
  · rw [List.filter_eq_self]
    intro x hx
    exact decide_eq_true fun e => hn.2.2 _ (List.mem_map.mpr ⟨x, hx, rfl⟩) _ List.mem_cons_self e
  · rw [List.filter_eq_self]
    intro x hx
    exact decide_eq_true fun e => hn.2.1.1 (List.mem_map.mpr ⟨x, hx, e⟩)
theorem WtR.take_rowT (r : WtR p C most wait n R h d1 d2 G T) (hR : ∀ x, x ∈ R' ↔ x ∈ R ∧ x.tk ≠ t) : ∀ t' k', (t', k') ∈ T.filter (fun e => decide (e.1 ≠ t)) ↔ ∃ r ∈ R', r.tk = t' ∧ r.key = k' := by
  intro t' k'
  rw [List.mem_filter, r.rowT]
  constructor
  · rintro ⟨⟨x, hx, q1, q2⟩, q3⟩
    exact ⟨x, (hR x).mpr ⟨hx, by rw [q1]; exact of_decide_eq_true q3⟩, q1, q2⟩
  · rintro ⟨x, hx, q1, q2⟩
    obtain ⟨h1, h2⟩ := (hR x).mp hx
    exact ⟨⟨x, h1, q1, q2⟩, decide_eq_true (by rw [← q1]; exact h2)⟩
theorem WtR.take_keep (r : WtR p C most wait n R h d1 d2 (G1 ++ g :: G2) T) {x : Row} (hx : x ∈ R) (hk : g.key = x.key) (hR : ∀ y, y ∈ R' ↔ y ∈ R ∧ y.tk ≠ x.tk) (hne : g.asks.filter (fun a => decide (a.1 ≠ x.tk)) ≠ [])
    (e1 : h' g.at_ = some (.dK (aKV (g.asks.filter fun a => decide (a.1 ≠ x.tk))))) (e2 : h' d2 = some (.dK (tKV (T.filter fun e => decide (e.1 ≠ x.tk))))) (eo : ∀ b o, b ≠ g.at_ → b ≠ d2 → h b = some o → h' b = some o) :
    WtR p C most wait n R' h' d1 d2 (G1 ++ ⟨g.key, g.at_, g.asks.filter fun a => decide (a.1 ≠ x.tk)⟩ :: G2) (T.filter fun e => decide (e.1 ≠ x.tk)) := by
  have hg : g ∈ G1 ++ g :: G2 := by simp
  have nd := r.nd
  rw [List.map_append, List.map_cons, List.nodup_append, List.nodup_cons] at nd
  have nk := r.nk
  rw [List.map_append, List.map_cons, List.nodup_append, List.nodup_cons] at nk
  have mem : ∀ g' ∈ G1 ++ (⟨g.key, g.at_, g.asks.filter fun a => decide (a.1 ≠ x.tk)⟩ : GW) :: G2, (g' ∈ G1 ++ g :: G2 ∧ g'.at_ ≠ g.at_ ∧ g'.key ≠ g.key) ∨ g' = ⟨g.key, g.at_, g.asks.filter fun a => decide (a.1 ≠ x.tk)⟩ := fun g' h1 => by
    rcases List.mem_append.mp h1 with h1 | h1
    · exact .inl ⟨List.mem_append.mpr (.inl h1), fun e => nd.2.2 _ (List.mem_map.mpr ⟨g', h1, rfl⟩) _ List.mem_cons_self e, fun e => nk.2.2 _ (List.mem_map.mpr ⟨g', h1, rfl⟩) _ List.mem_cons_self e⟩
    · rcases List.mem_cons.mp h1 with h1 | h1
      · exact .inr h1
      · exact .inl ⟨by simp [h1], fun e => nd.2.1.1 (List.mem_map.mpr ⟨g', h1, e⟩), fun e => nk.2.1.1 (List.mem_map.mpr ⟨g', h1, e⟩)⟩
  have memr : ∀ g' ∈ G1 ++ g :: G2, g' ∈ G1 ++ (⟨g.key, g.at_, g.asks.filter fun a => decide (a.1 ≠ x.tk)⟩ : GW) :: G2 ∨ g' = g := fun g' h1 => by
    rcases List.mem_append.mp h1 with h1 | h1
    · exact .inl (List.mem_append.mpr (.inl h1))
    · rcases List.mem_cons.mp h1 with h1 | h1
      · exact .inr h1
      · exact .inl (by simp [h1])
  have hkv : gKV (G1 ++ (⟨g.key, g.at_, g.asks.filter fun a => decide (a.1 ≠ x.tk)⟩ : GW) :: G2) = gKV (G1 ++ g :: G2) := by unfold gKV; rw [List.map_append, List.map_append]; rfl
  refine ⟨eo _ _ (r.npg hg) r.np2 r.self, ?_, e2, ?_, r.n3, ?_, ?_, ?_, nodup_filter_map r.nt, ?_, ?_, Nat.le_trans (List.length_filter_le _ _) r.szT, ?_, ?_, r.take_rowT hR, ?_⟩
  · rw [hkv]; exact eo _ _ (fun e => (r.n4 g hg).1 e.symm) r.n3 r.g1
  · intro g' h1
    rcases mem g' h1 with ⟨h1, h2, _⟩ | rfl
    · exact eo _ _ h2 (r.n4 g' h1).2 (r.at_ g' h1)
    · exact e1
  · intro g' h1
    rcases mem g' h1 with ⟨h1, _⟩ | rfl
    · exact r.n4 g' h1
    · exact r.n4 g hg
  · have := r.nd; rw [List.map_append, List.map_cons] at this ⊢; exact this
  · have := r.nk; rw [List.map_append, List.map_cons] at this ⊢; exact this
  · intro g' h1
    rcases mem g' h1 with ⟨h1, _⟩ | rfl
    · exact r.na g' h1
    · exact nodup_filter_map (r.na g hg)
  · intro g' h1
    rcases mem g' h1 with ⟨h1, _⟩ | rfl
    · exact r.ne g' h1
    · exact hne
  · have := r.szG
    simp only [List.length_append, List.length_cons] at this ⊢; omega
  · intro g' h1
    rcases mem g' h1 with ⟨h1, _⟩ | rfl
    · exact r.szA g' h1
    · exact Nat.le_trans (List.length_filter_le _ _) (r.szA g hg)
  · intro t' k' d' c'
    rw [hR, r.rowG]
    constructor
    · rintro ⟨⟨g', h1, q1, q2⟩, q3⟩
      rcases memr g' h1 with h1 | rfl
      · exact ⟨g', h1, q1, q2⟩
      · exact ⟨_, List.mem_append.mpr (.inr List.mem_cons_self), q1, List.mem_filter.mpr ⟨q2, decide_eq_true q3⟩⟩
    · rintro ⟨g', h1, q1, q2⟩
      rcases mem g' h1 with ⟨h1, _, h3⟩ | rfl
      · refine ⟨⟨g', h1, q1, q2⟩, fun e => h3 ?_⟩
        have := r.one ((r.rowG t' k' d' c').mpr ⟨g', h1, q1, q2⟩) hx e
        rw [q1, hk, ← this]
      · obtain ⟨q3, q4⟩ := List.mem_filter.mp q2
        exact ⟨⟨g, hg, q1, q3⟩, of_decide_eq_true q4⟩
theorem WtR.take_drop (r : WtR p C most wait n R h d1 d2 (G1 ++ g :: G2) T) {x : Row} (hx : x ∈ R) (hk : g.key = x.key) (hR : ∀ y, y ∈ R' ↔ y ∈ R ∧ y.tk ≠ x.tk) (hne : g.asks.filter (fun a => decide (a.1 ≠ x.tk)) = [])
    (e1 : h' d1 = some (.dK (gKV (G1 ++ G2)))) (e2 : h' d2 = some (.dK (tKV (T.filter fun e => decide (e.1 ≠ x.tk))))) (eo : ∀ b o, b ≠ g.at_ → b ≠ d1 → b ≠ d2 → h b = some o → h' b = some o) :
    WtR p C most wait n R' h' d1 d2 (G1 ++ G2) (T.filter fun e => decide (e.1 ≠ x.tk)) := by
  have hg : g ∈ G1 ++ g :: G2 := by simp
  have sub : (G1 ++ G2).Sublist (G1 ++ g :: G2) := (List.sublist_cons_self g G2).append_left G1
  have nd := r.nd
  rw [List.map_append, List.map_cons, List.nodup_append, List.nodup_cons] at nd
  have nk := r.nk
  rw [List.map_append, List.map_cons, List.nodup_append, List.nodup_cons] at nk
  have mem : ∀ g' ∈ G1 ++ G2, g' ∈ G1 ++ g :: G2 ∧ g'.at_ ≠ g.at_ ∧ g'.key ≠ g.key := fun g' h1 => by
    refine ⟨sub.subset h1, ?_⟩
    rcases List.mem_append.mp h1 with h1 | h1
    · exact ⟨fun e => nd.2.2 _ (List.mem_map.mpr ⟨g', h1, rfl⟩) _ List.mem_cons_self e, fun e => nk.2.2 _ (List.mem_map.mpr ⟨g', h1, rfl⟩) _ List.mem_cons_self e⟩
    · exact ⟨fun e => nd.2.1.1 (List.mem_map.mpr ⟨g', h1, e⟩), fun e => nk.2.1.1 (List.mem_map.mpr ⟨g', h1, e⟩)⟩
  have memr : ∀ g' ∈ G1 ++ g :: G2, g' ∈ G1 ++ G2 ∨ g' = g := fun g' h1 => by
    rcases List.mem_append.mp h1 with h1 | h1
    · exact .inl (List.mem_append.mpr (.inl h1))
    · rcases List.mem_cons.mp h1 with h1 | h1
      · exact .inr h1
      · exact .inl (by simp [h1])
  refine ⟨eo _ _ (r.npg hg) r.np1 r.np2 r.self, e1, e2, fun g' h1 => eo _ _ (mem g' h1).2.1 (r.n4 g' (mem g' h1).1).1 (r.n4 g' (mem g' h1).1).2 (r.at_ g' (mem g' h1).1), r.n3, fun g' h1 => r.n4 g' (mem g' h1).1, r.nd.sublist (sub.map _), r.nk.sublist (sub.map _), nodup_filter_map r.nt, fun g' h1 => r.na g' (mem g' h1).1,
    fun g' h1 => r.ne g' (mem g' h1).1, Nat.le_trans (List.length_filter_le _ _) r.szT, Nat.le_trans sub.length_le r.szG, fun g' h1 => r.szA g' (mem g' h1).1, r.take_rowT hR, ?_⟩
  intro t' k' d' c'
  rw [hR, r.rowG]
  constructor
  · rintro ⟨⟨g', h1, q1, q2⟩, q3⟩
    rcases memr g' h1 with h1 | rfl
    · exact ⟨g', h1, q1, q2⟩
    · exact absurd (List.mem_filter.mpr ⟨q2, decide_eq_true q3⟩) (by rw [hne]; exact nofun)
  · rintro ⟨g', h1, q1, q2⟩
    refine ⟨⟨g', (mem g' h1).1, q1, q2⟩, fun e => (mem g' h1).2.2 ?_⟩
    have := r.one ((r.rowG t' k' d' c').mpr ⟨g', (mem g' h1).1, q1, q2⟩) hx e
    rw [q1, hk, ← this]
end
def WaitS (C : Addr) (most wait : Int) (n : Nat) (R : List Row) (p : Addr) (h : Dh) : Prop := ∃ d1 d2 G T, WtR p C most wait n R h d1 d2 G T
def waitH (C : Addr) (most wait : Int) (n : Nat) (R : List Row) : HD := .obj C (WaitS C most wait n R) (fun p h ⟨_, _, _, _, r⟩ => ⟨_, r.self, by simp [objNames]⟩)
theorem waitH_cls {C : Addr} {most wait : Int} {n : Nat} {R : List Row} : (waitH C most wait n R).cls = some C := rfl
/-! ### entries -/
structure Ent where
  key : Int
  first : Int
  due : Int
  ts : List Int
def entD (e : Ent) : D := .tup [.int e.key, .int e.first, .int e.due, .tup (e.ts.map D.int)]
def EntL (L : List (Int × Int × Int)) (e : Ent) : Prop := (∃ a ∈ L, a.2 = (e.due, e.first)) ∧ (∀ a ∈ L, e.due < a.2.1 ∨ (e.due = a.2.1 ∧ e.first ≤ a.2.2)) ∧ e.ts.Pairwise (· < ·) ∧ ∀ t, t ∈ e.ts ↔ ∃ a ∈ L, a.1 = t
def IsEnt (R : List Row) (e : Ent) : Prop := (∃ r ∈ R, r.key = e.key ∧ r.due = e.due ∧ r.came = e.first) ∧ (∀ r ∈ R, r.key = e.key → e.due < r.due ∨ (e.due = r.due ∧ e.first ≤ r.came)) ∧ e.ts.Pairwise (· < ·) ∧ ∀ t, t ∈ e.ts ↔ ∃ r ∈ R, r.key = e.key ∧ r.tk = t
theorem ent_uniq {R : List Row} {e f : Ent} (h1 : IsEnt R e) (h2 : IsEnt R f) (hk : e.key = f.key) : e = f := by
  obtain ⟨⟨r1, m1, a1, b1, c1⟩, l1, s1, t1⟩ := h1
  obtain ⟨⟨r2, m2, a2, b2, c2⟩, l2, s2, t2⟩ := h2
  have q1 := l1 r2 m2 (by rw [a2, hk])
  have q2 := l2 r1 m1 (by rw [a1, hk])
  have ht := ints_uniq s1 s2 fun x => by rw [t1, t2, hk]
  obtain ⟨k, fi, du, ts⟩ := e
  obtain ⟨k', fi', du', ts'⟩ := f
  simp only at *
  have e1 : du = du' := by omega
  have e2 : fi = fi' := by omega
  subst hk; subst e1; subst e2; subst ht
  rfl
def entLt (a b : Ent) : Prop := a.due < b.due ∨ (a.due = b.due ∧ a.key < b.key)
def EntsOk (R : List Row) (es : List Ent) : Prop := es.Pairwise entLt ∧ (∀ e, e ∈ es ↔ IsEnt R e) ∧ ∀ r ∈ R, ∃ e ∈ es, e.key = r.key
theorem ents_uniq {R : List Row} {es fs : List Ent} (h1 : EntsOk R es) (h2 : EntsOk R fs) : es = fs :=
  uniq_of_strict (fun a q => by unfold entLt at q; omega) (fun a b q z => by unfold entLt at q z; omega) h1.1 h2.1 fun e => by rw [h1.2.1, h2.2.1]
theorem WtR.ent {p C d1 d2 : Addr} {most wait : Int} {n : Nat} {R : List Row} {h : Dh} {G : List GW} {T : List (Int × Int)} (r : WtR p C most wait n R h d1 d2 G T) {e : Ent} : IsEnt R e ↔ ∃ g ∈ G, g.key = e.key ∧ EntL g.asks e := by
  constructor
  · rintro ⟨⟨⟨t, k, d, c⟩, hx, q1, q2, q3⟩, hl, hs, ht⟩
    obtain ⟨g, hg, e1, ha⟩ := (r.rowG _ _ _ _).mp hx
    have q1 : k = e.key := q1
    have q2 : d = e.due := q2
    have q3 : c = e.first := q3
    subst q1; subst q2; subst q3
    have one : ∀ g' ∈ G, g'.key = e.key → g' = g := fun g' h1 h2 => by
      have nk := r.nk
      obtain ⟨i, hi, e3⟩ := List.getElem_of_mem h1
      obtain ⟨j, hj, e4⟩ := List.getElem_of_mem hg
      rcases Nat.lt_trichotomy i j with q | q | q
      · exact absurd (by rw [List.getElem_map, List.getElem_map, e3, e4, h2, e1]) (List.pairwise_iff_getElem.mp nk i j (by simpa using hi) (by simpa using hj) q)
      · subst q; rw [← e3, e4]
      · exact absurd (by rw [List.getElem_map, List.getElem_map, e3, e4, h2, e1]) (List.pairwise_iff_getElem.mp nk j i (by simpa using hj) (by simpa using hi) q)
    refine ⟨g, hg, e1, ⟨_, ha, rfl⟩, ?_, hs, ?_⟩
    · rintro ⟨t', d', c'⟩ h1
      exact hl _ ((r.rowG t' e.key d' c').mpr ⟨g, hg, e1, h1⟩) rfl
    · intro t'
      rw [ht]
      constructor
      · rintro ⟨⟨t2, k2, d2, c2⟩, h1, h2, h3⟩
        obtain ⟨g', hg', e2, ha'⟩ := (r.rowG _ _ _ _).mp h1
        have := one g' hg' (e2.trans h2)
        subst this
        exact ⟨_, ha', h3⟩
      · rintro ⟨⟨t2, d2, c2⟩, h1, h2⟩
        exact ⟨_, (r.rowG t2 e.key d2 c2).mpr ⟨g, hg, e1, h1⟩, rfl, h2⟩
  · rintro ⟨g, hg, e1, ⟨⟨t, d, c⟩, ha, q⟩, hl, hs, ht⟩
    have q1 : d = e.due := congrArg Prod.fst q
    have q2 : c = e.first := congrArg Prod.snd q
    have one : ∀ g' ∈ G, g'.key = e.key → g' = g := fun g' h1 h2 => by
      have nk := r.nk
      obtain ⟨i, hi, e3⟩ := List.getElem_of_mem h1
      obtain ⟨j, hj, e4⟩ := List.getElem_of_mem hg
      rcases Nat.lt_trichotomy i j with q | q | q
      · exact absurd (by rw [List.getElem_map, List.getElem_map, e3, e4, h2, e1]) (List.pairwise_iff_getElem.mp nk i j (by simpa using hi) (by simpa using hj) q)
      · subst q; rw [← e3, e4]
      · exact absurd (by rw [List.getElem_map, List.getElem_map, e3, e4, h2, e1]) (List.pairwise_iff_getElem.mp nk j i (by simpa using hj) (by simpa using hi) q)
    refine ⟨⟨⟨t, e.key, d, c⟩, (r.rowG _ _ _ _).mpr ⟨g, hg, e1, ha⟩, rfl, q1, q2⟩, ?_, hs, ?_⟩
    · rintro ⟨t', k', d', c'⟩ h1 h2
      obtain ⟨g', hg', e2, ha'⟩ := (r.rowG _ _ _ _).mp h1
      have := one g' hg' (e2.trans h2)
      subst this
      exact hl _ ha'
    · intro t'
      rw [ht]
      constructor
      · rintro ⟨⟨t2, d2, c2⟩, h1, h2⟩
        exact ⟨_, (r.rowG t2 e.key d2 c2).mpr ⟨g, hg, e1, h1⟩, rfl, h2⟩
      · rintro ⟨⟨t2, k2, d2, c2⟩, h1, h2, h3⟩
        obtain ⟨g', hg', e2, ha'⟩ := (r.rowG _ _ _ _).mp h1
        have := one g' hg' (e2.trans h2)
        subst this
        exact ⟨_, ha', h3⟩
theorem wd_back {W : Wd} {a : Addr} {o x : DO} (h : W.hp a = some o) : (W.put a x).put a o = W := by
  unfold Wd.put
  congr 1
  funext b
  show dput (dput W.hp a x) a o b = W.hp b
  by_cases q : b = a
  · subst q; rw [dput_same, h]
  · rw [dput_ne q, dput_ne q]
end DL

namespace DL
open PySem L2 PySem.Spec PyProof.Rows
/-! ### a method of a hidden object that gives a new object: it is shown -/
def revH (C : Addr) (g : Dh) (a : Addr) (o : DO) : HD := .obj C (fun p h => h = dput g a o ∧ ∃ fs : List (Str × D), h p = some (.ins C fs) ∧ ∀ f ∈ fs, f.1 ∈ objNames) (fun _ _ h => h.2)
def revQ (W : Wd) (p : Addr) (q : DK) : DK := fun d V => ∃ (ψ : HD) (g : Dh) (a : Addr) (o : DO) (C : Addr), V = W.hide p (revH C g a o) ∧ g a = none ∧ ψ.sem p g ∧ g p ≠ none ∧ (W.hp a = none → W.hid a = none → q d ((W.hide p ψ).put a o))
theorem arr_reveal {K : PySem.W.Frag} {W : Wd} {P : Addr → Dh} {H : Hp} {q : DK} {Q : VK} {p : Addr} (k : Arr K W P H q Q) : Arr K W P H (revQ W p q) Q := by
  rintro d W' P' v H' s rv rw ⟨ψ, g, a, o, C, rfl, ga, gs, gp, hq⟩
  have hP : P' p = dput g a o := (rw.hid p _ hset_same).1
  have nap : a ≠ p := by rintro rfl; exact gp ga
  have pa : P' p a ≠ none := by rw [hP, dput_same]; simp
  have hWa : W.hp a = none := rw.sep1 p a pa
  have hid0 : ∀ b, b ≠ p → (W.hide p (revH C g a o)).hid b = W.hid b := fun b hb => hset_ne hb
  have hHa : W.hid a = none := by
    cases e : W.hid a with
    | none => rfl
    | some φ =>
      have := rw.own a φ (by rw [hid0 a nap]; exact e)
      exact absurd (rw.sep2 a p a this pa) nap
  let P2 : Addr → Dh := fun k => if k = p then g else P' k
  have P2p : P2 p = g := if_pos rfl
  have P2n : ∀ k, k ≠ p → P2 k = P' k := fun k h => if_neg h
  have sub : ∀ k b, P2 k b ≠ none → P' k b ≠ none := fun k b h => by
    by_cases hk : k = p
    · subst hk
      rw [P2p] at h
      rw [hP]
      by_cases hb : b = a
      · subst hb; exact absurd ga h
      · rw [dput_ne hb]; exact h
    · rwa [P2n k hk] at h
  have ft : ∀ b, foot ((W.hide p ψ).put a o) P2 b → foot (W.hide p (revH C g a o)) P' b := fun b f => by
    rcases f with f | ⟨k, f⟩
    · by_cases hb : b = a
      · subst hb; exact .inr ⟨p, pa⟩
      · rw [show ((W.hide p ψ).put a o).hp b = W.hp b from dput_ne hb] at f
        exact .inl f
    · exact .inr ⟨k, sub k b f⟩
  have rw2 : RepW K ((W.hide p ψ).put a o) P2 H' := by
    refine ⟨fun b u e => ?_, fun k b u e => ?_, fun k φ' e => ?_, fun k e b => ?_, fun k φ' e => ?_, fun k b f => ?_, fun k j b f h => rw.sep2 k j b (sub _ _ f) (sub _ _ h)⟩
    · by_cases hb : b = a
      · subst hb
        rw [show ((W.hide p ψ).put b o).hp b = some o from dput_same] at e
        cases e
        exact rw.prv p b o (by rw [hP, dput_same])
      · rw [show ((W.hide p ψ).put a o).hp b = W.hp b from dput_ne hb] at e
        exact rw.vis b u e
    · by_cases hk : k = p
      · subst hk
        rw [P2p] at e
        refine rw.prv k b u ?_
        rw [hP, dput_ne]; exact e
        rintro rfl; rw [ga] at e; cases e
      · rw [P2n k hk] at e; exact rw.prv k b u e
    · by_cases hk : k = p
      · subst hk
        rw [show ((W.hide k ψ).put a o).hid k = some ψ from hset_same] at e
        cases e
        rw [P2p]; exact gs
      · rw [show ((W.hide p ψ).put a o).hid k = W.hid k from hset_ne hk] at e
        rw [P2n k hk]; exact rw.hid k φ' (by rw [hid0 k hk]; exact e)
    · by_cases hk : k = p
      · subst hk
        rw [show ((W.hide k ψ).put a o).hid k = some ψ from hset_same] at e
        cases e
      · rw [show ((W.hide p ψ).put a o).hid k = W.hid k from hset_ne hk] at e
        rw [P2n k hk]; exact rw.non k (by rw [hid0 k hk]; exact e) b
    · by_cases hk : k = p
      · subst hk; rw [P2p]; exact gp
      · rw [show ((W.hide p ψ).put a o).hid k = W.hid k from hset_ne hk] at e
        rw [P2n k hk]; exact rw.own k φ' (by rw [hid0 k hk]; exact e)
    · have h1 := sub k b f
      by_cases hb : b = a
      · subst hb
        have : k = p := rw.sep2 k p b h1 pa
        subst this
        rw [P2p] at f
        exact absurd ga f
      · rw [show ((W.hide p ψ).put a o).hp b = W.hp b from dput_ne hb]
        exact rw.sep1 k b h1
  exact k d _ P2 v H' ⟨s.tup, s.keep, fun b f => s.grow b (ft b f), s.stay⟩ rv rw2 (hq hWa hHa)
/-- where the small world ends so, it is shown -/
theorem rev_end {W : Wd} {p a C : Addr} {q : DK} {d : D} {ψ : HD} {g : Dh} {o : DO} {fs : List (Str × D)} {V : Wd} (ev : V = wdOf (dput g a o)) (ga : g a = none) (gs : ψ.sem p g) (gp : g p = some (.ins C fs)) (hn : ∀ f ∈ fs, f.1 ∈ objNames) (hq : W.hp a = none → W.hid a = none → q d ((W.hide p ψ).put a o)) :
    ∃ φ : HD, V.hid = noHid ∧ φ.sem p V.hp ∧ V.hp p ≠ none ∧ revQ W p q d (W.hide p φ) := by
  subst ev
  have nap : p ≠ a := by rintro rfl; rw [ga] at gp; cases gp
  refine ⟨revH C g a o, rfl, ⟨rfl, fs, by rw [show (wdOf (dput g a o)).hp = dput g a o from rfl, dput_ne nap]; exact gp, hn⟩, ?_, ψ, g, a, o, C, rfl, ga, gs, by rw [gp]; simp, hq⟩
  rw [show (wdOf (dput g a o)).hp p = dput g a o p from rfl, dput_ne nap, gp]; simp
theorem WtR.re {p C d1 d2 : Addr} {most wait : Int} {n : Nat} {R R' : List Row} {h : Dh} {G : List GW} {T : List (Int × Int)} (r : WtR p C most wait n R h d1 d2 G T) (e : ∀ x, x ∈ R ↔ x ∈ R') : WtR p C most wait n R' h d1 d2 G T :=
  { r with
    rowT := fun t k => by rw [r.rowT]; exact ⟨fun ⟨x, hx, q⟩ => ⟨x, (e x).mp hx, q⟩, fun ⟨x, hx, q⟩ => ⟨x, (e x).mpr hx, q⟩⟩
    rowG := fun t k d c => by rw [← e, r.rowG] }
theorem WtR.rowOfKey {p C d1 d2 : Addr} {most wait : Int} {n : Nat} {R : List Row} {h : Dh} {G : List GW} {T : List (Int × Int)} (r : WtR p C most wait n R h d1 d2 G T) {x : Row} (hx : x ∈ R) : ∃ g ∈ G, g.key = x.key := by
  obtain ⟨t, k, d, c⟩ := x
  obtain ⟨g, hg, e, _⟩ := (r.rowG _ _ _ _).mp hx
  exact ⟨g, hg, e⟩
theorem WtR.freshA {p C d1 d2 : Addr} {most wait : Int} {n : Nat} {R : List Row} {h : Dh} {G : List GW} {T : List (Int × Int)} (r : WtR p C most wait n R h d1 d2 G T) {g : GW} {t : Int} (hg : g ∈ G) (ht : ∀ x ∈ R, x.tk ≠ t) : valD (aKV g.asks) (.inl t) = none := by
  rw [valD_none]
  intro e he q
  obtain ⟨⟨t', d, c⟩, h1, rfl⟩ := List.mem_map.mp he
  exact ht _ ((r.rowG t' g.key d c).mpr ⟨g, hg, rfl, h1⟩) (Sum.inl.inj q)
/-! ### a law's asks -/
structure AskR where
  tk : Int
  key : Int
  came : Int
  lat : Int
def askD (a : AskR) : D := .tup [.int a.tk, .int a.key, .int a.came, .int a.lat]
def rowOf (wait : Int) (a : AskR) : Row := ⟨a.tk, a.key, max a.came (min (a.came + wait) (a.lat - 1)), a.came⟩
theorem WtR.valA {p C d1 d2 : Addr} {most wait : Int} {n : Nat} {R : List Row} {h : Dh} {G : List GW} {T : List (Int × Int)} (r : WtR p C most wait n R h d1 d2 G T) {x : Row} {g : GW} (hx : x ∈ R) (hg : g ∈ G) (e : g.key = x.key) : valD (aKV g.asks) (.inl x.tk) = some (.tup [.int x.due, .int x.came]) := by
  obtain ⟨t, k, d, c⟩ := x
  obtain ⟨g', hg', e', ha⟩ := (r.rowG _ _ _ _).mp hx
  have y1 := valD_of (keys_gKV r.nk) (List.mem_map.mpr ⟨g, hg, rfl⟩ : ((Sum.inl g.key : Key), D.ref g.at_) ∈ gKV G)
  have y2 := valD_of (keys_gKV r.nk) (List.mem_map.mpr ⟨g', hg', rfl⟩ : ((Sum.inl g'.key : Key), D.ref g'.at_) ∈ gKV G)
  have e : g.key = k := e
  rw [e] at y1; rw [e', y1] at y2
  have ea : g.at_ = g'.at_ := D.ref.inj (Option.some.inj y2)
  have b1 := r.at_ g hg
  rw [ea, r.at_ g' hg'] at b1
  have b3 : aKV g'.asks = aKV g.asks := DO.dK.inj (Option.some.inj b1)
  rw [← b3]
  exact valD_of (keys_aKV (r.na g' hg')) (List.mem_map.mpr ⟨_, ha, rfl⟩)
/-! ### comprehensions over a list of one's own; sorted -/
theorem lc_list {α : Type} {guard : Wd → Prop} {g : Tg} {tt : TTD} {te : TED} {δ : Sd} {q : List D → Wd → Prop} {L : List α} {f : α → D} {W : Wd} (c : α → Bool) (v : α → D)
    (hs : ∀ (e : α) (N : List D → Wd → Prop), e ∈ L → ∀ acc, (c e = true → N (acc ++ [v e]) W) → (c e = false → N acc W) → tgD g (f e) δ W fun δ2 W2 => tt δ2 W2 fun b W3 => if b = true then te δ2 W3 fun d W4 => guard W4 ∧ N (acc ++ [d]) W4 else guard W3 ∧ N acc W3)
    (hd : q ((L.filter c).map v) W) : dLcGo guard g tt te δ (L.map f) [] W q := by
  refine lc_by (fun r a W' => W' = W ∧ ∃ s t, L = s ++ t ∧ r = t.map f ∧ a = (s.filter c).map v) ⟨rfl, [], L, rfl, rfl, rfl⟩ ?_ ?_
  · rintro x r a W' N ⟨rfl, s, t, e1, e2, rfl⟩ k
    cases t with
    | nil => cases e2
    | cons y t =>
      cases e2
      refine hs y N (by rw [e1]; simp) _ (fun hc => k _ _ ⟨rfl, s ++ [y], t, by rw [e1]; simp, rfl, by simp [hc]⟩) (fun hc => k _ _ ⟨rfl, s ++ [y], t, by rw [e1]; simp, rfl, by simp [hc]⟩)
  · rintro a W' ⟨rfl, s, t, e1, e2, rfl⟩
    cases t with
    | cons y t => cases e2
    | nil =>
      rw [List.append_nil] at e1
      subst e1
      exact hd
theorem filter_all {α : Type} {l : List α} : l.filter (fun _ => true) = l := List.filter_eq_self.mpr fun _ _ => rfl
theorem perm_map_inv {α β : Type} {f : α → β} : ∀ {l : List β} {L : List α}, l.Perm (L.map f) → ∃ L' : List α, L'.Perm L ∧ l = L'.map f
  | [], L, h => by
    have := h.length_eq
    rw [List.length_map] at this
    cases L with
    | nil => exact ⟨[], .refl _, rfl⟩
    | cons a r => cases this
  | b :: t, L, h => by
    obtain ⟨a, ha, e⟩ := List.mem_map.mp (h.mem_iff.mp List.mem_cons_self)
    obtain ⟨s, u, rfl⟩ := List.append_of_mem ha
    subst e
    rw [List.map_append, List.map_cons] at h
    have h2 := (h.trans List.perm_middle).cons_inv
    rw [← List.map_append] at h2
    obtain ⟨L', p, rfl⟩ := perm_map_inv h2
    exact ⟨a :: L', (List.Perm.cons a p).trans List.perm_middle.symm, rfl⟩
def keyI (m : Nat) (d : D) : List Int := match d with
  | .tup ds => (ds.take m).map intOf
  | .int i => [i]
  | _ => []
theorem sortT_ints {ns : List Int} {W : Wd} {q : List D → Wd → Prop} (h : ∀ ns' : List Int, ns'.Perm ns → ns'.Pairwise (· ≤ ·) → q (ns'.map D.int) W) : rSortT (ns.map D.int) W q := by
  refine ⟨true, 1, kfI, fun _ => rfl, Nat.le_refl 1, ?_, .inr ?_, fun ds' hp hs => ?_⟩
  · intro d hd
    obtain ⟨i, _, rfl⟩ := List.mem_map.mp hd
    exact ⟨i, rfl, rfl⟩
  · intro d hd
    obtain ⟨i, _, rfl⟩ := List.mem_map.mp hd
    exact .inl ⟨i, rfl⟩
  · obtain ⟨ns', rfl, h1, h2⟩ := sorted_ints_of hp hs
    exact h ns' h1 h2
theorem sortT_by {α : Type} {L : List α} {f : α → D} {W : Wd} {q : List D → Wd → Prop} (m : Nat) (hm : 1 ≤ m) (hk : ∀ a ∈ L, KeyD false m (f a) (keyI m (f a))) (hu : KeysU (L.map f) id (keyI m))
    (h : ∀ L' : List α, L'.Perm L → L'.Pairwise (fun x y => lexI (keyI m (f y)) (keyI m (f x)) = false) → q (L'.map f) W) : rSortT (L.map f) W q := by
  refine ⟨false, m, keyI m, (fun e => nomatch e), hm, ?_, hu, fun ds' hp hs => ?_⟩
  · intro d hd
    obtain ⟨a, ha, rfl⟩ := List.mem_map.mp hd
    exact hk a ha
  · obtain ⟨L', p, rfl⟩ := perm_map_inv hp
    exact h L' p (List.pairwise_map.mp hs)
def pairII (p : Int × Int) : D := .tup [.int p.1, .int p.2]
theorem lexI2 {a b c d : Int} : lexI [a, b] [c, d] = false ↔ c < a ∨ (c = a ∧ d ≤ b) := by
  simp only [lexI]
  by_cases q : a = c
  · rw [if_pos q]
    by_cases z : b = d
    · rw [if_pos z]; simp; omega
    · rw [if_neg z, decide_eq_false_iff_not]; omega
  · rw [if_neg q, decide_eq_false_iff_not]; omega
theorem sortT_pairs {ps : List (Int × Int)} {W : Wd} {q : List D → Wd → Prop} (h : ∀ ps' : List (Int × Int), ps'.Perm ps → ps'.Pairwise (fun x y => x.1 < y.1 ∨ (x.1 = y.1 ∧ x.2 ≤ y.2)) → q (ps'.map pairII) W) : rSortT (ps.map pairII) W q := by
  refine sortT_by 2 (by decide) (fun a _ => ⟨rfl, [], rfl⟩) (.inr fun x hx => ?_) fun L' p hs => h L' p (hs.imp fun {x y} h => lexI2.mp h)
  obtain ⟨a, _, rfl⟩ := List.mem_map.mp hx
  exact .inr rfl
theorem isi_lst {W : Wd} {a : Addr} {ds : List D} (h : W.hp a = some (.lst ds)) {q : DK} : dIsi [.ref a, .ty "list"] W q = q (.bl true) W := by
  show (match tyNm W (.ref a) with | some n => (match isiB n "list" with | some b => q (.bl b) W | none => False) | none => False) = _
  have : tyNm W (.ref a) = some "list" := by
    show (match W.hp a with | some (.lst _) => some "list" | some (.dK _) => some "dict" | some (.dT _) => some "dict" | some (.set _ _) => some "set" | _ => none) = _
    rw [h]
  rw [this]; rfl
theorem inV_int {i : Int} {ns : List Int} : inV (.int i) (ns.map V.int) = decide (i ∈ ns) := by
  induction ns with
  | nil => rfl
  | cons z r ih =>
    show (eqV (V.int z) (V.int i) || inV (V.int i) (r.map V.int)) = _
    rw [ih, show eqV (V.int z) (V.int i) = decide (z = i) by show (z == i) = _; rw [Bool.eq_iff_iff, beq_iff_eq, decide_eq_true_eq], Bool.eq_iff_iff]
    simp only [Bool.or_eq_true, decide_eq_true_eq, List.mem_cons]
    exact ⟨fun h => h.imp Eq.symm id, fun h => h.imp Eq.symm id⟩
theorem memB_int {rf : Addr → Option PyData} {s : Int} {ss : List Int} : memB rf (.int s) (ss.map D.int) = some (decide (s ∈ ss)) := by
  unfold memB
  have h : (ss.map D.int).all flatD = true := by rw [List.all_eq_true]; intro d h; obtain ⟨i, _, rfl⟩ := List.mem_map.mp h; rfl
  rw [h, show flatD (.int s) = true from rfl, Bool.and_self, if_pos rfl, List.map_map, show (toV ∘ D.int) = V.int from rfl, show toV (.int s) = V.int s from rfl, inV_int]
theorem pairUp_self {α : Type} {f : α → D} {l : List α} : pairUp (l.map f) (l.map f) = l.map fun e => .tup [f e, f e] := by
  unfold pairUp
  induction l with
  | nil => rfl
  | cons a r ih => simp only [List.map_cons, List.zipWith_cons_cons, ih]
def kdE : D → D := fun d => match d with
  | .tup [a, _, c, _] => .tup [c, a]
  | _ => d
def kfE : D → List Int := fun d => match d with
  | .tup [.int a, _, .int c, _] => [c, a]
  | _ => []
theorem nodup_keys {es : List Ent} (h : (es.map (·.key)).Nodup) : ((es.map entD).map kfE).Nodup := by
  rw [List.map_map]
  refine List.pairwise_map.mpr ((List.pairwise_map.mp h).imp fun {a b} n e => n ?_)
  have e : [a.due, a.key] = [b.due, b.key] := e
  simp only [List.cons.injEq] at e
  exact e.2.1
theorem ent_strict {es es' : List Ent} (h : (es.map (·.key)).Nodup) (hp : (es'.map entD).Perm (es.map entD)) (hs : (es'.map entD).Pairwise (fun x y => lexI (kfE y) (kfE x) = false)) : es'.Pairwise entLt := by
  have := List.pairwise_map.mp (sorted_strict hp hs (nodup_keys h))
  refine this.imp fun {a b} q => ?_
  have q : lexI [a.due, a.key] [b.due, b.key] = true := q
  unfold entLt
  by_cases c : b.due < a.due ∨ (b.due = a.due ∧ b.key ≤ a.key)
  · have z : lexI [b.due, b.key] [a.due, a.key] = true ∨ lexI [b.due, b.key] [a.due, a.key] = false := by cases lexI [b.due, b.key] [a.due, a.key] <;> simp
    have := lexI2 (a := a.due) (b := a.key) (c := b.due) (d := b.key)
    rw [q] at this
    have := this.mpr (by omega)
    cases this
  · omega
theorem cut4_3 {a b c d : D} : cutD [a, b, c, d] none (some 3) = [a, b, c] := rfl
theorem nodup_len {α : Type} [DecidableEq α] : ∀ {l m : List α}, l.Nodup → (∀ x ∈ l, x ∈ m) → l.length ≤ m.length
  | [], _, _, _ => Nat.zero_le _
  | x :: l, m, h, s => by
    obtain ⟨h1, h2⟩ := List.nodup_cons.mp h
    have hx := s x List.mem_cons_self
    have := nodup_len (m := m.erase x) h2 fun y hy => (List.mem_erase_of_ne (by rintro rfl; exact h1 hy)).mpr (s y (List.mem_cons_of_mem _ hy))
    have e := List.length_erase_of_mem hx
    have := List.length_pos_of_mem hx
    rw [List.length_cons]; omega
theorem IsEnt.len {R : List Row} {e : Ent} (h : IsEnt R e) : e.ts.length ≤ R.length := by
  have := nodup_len (l := e.ts) (m := R.map (·.tk)) (h.2.2.1.imp fun {a b} q => by omega) fun t ht => by
    obtain ⟨r, hr, _, q⟩ := (h.2.2.2 t).mp ht
    exact List.mem_map.mpr ⟨r, hr, q⟩
  rwa [List.length_map] at this
theorem EntsOk.len {R : List Row} {es : List Ent} (h : EntsOk R es) : ∀ e ∈ es, e.ts.length ≤ R.length := fun e he => ((h.2.1 e).mp he).len
theorem ix_zero {n : Nat} : ixN (n + 1) 0 = some 0 := by
  unfold ixN
  rw [if_pos (Int.le_refl 0), if_pos (by omega)]; rfl
theorem ent_of_sorts {A : List AskR} {wait key due first : Int} {tl : List (Int × Int)} {ts : List Int} (hn : (A.map (·.tk)).Nodup) (hp : ((due, first) :: tl).Perm ((A.filter fun a => decide (a.key = key)).map fun a => ((rowOf wait a).due, a.came)))
    (hs : ((due, first) :: tl).Pairwise (fun x y => x.1 < y.1 ∨ (x.1 = y.1 ∧ x.2 ≤ y.2))) (ht : ts.Perm ((A.filter fun a => decide (a.key = key)).map (·.tk))) (hts : ts.Pairwise (· ≤ ·)) : IsEnt (A.map (rowOf wait)) ⟨key, first, due, ts⟩ := by
  have hnt : ts.Nodup := ht.nodup_iff.mpr (hn.sublist (List.filter_sublist.map _))
  refine ⟨?_, ?_, lt_of_le_nodup ts hts hnt, fun t => ?_⟩
  · obtain ⟨a, ha, e⟩ := List.mem_map.mp (hp.mem_iff.mp List.mem_cons_self)
    obtain ⟨h1, h2⟩ := List.mem_filter.mp ha
    cases e
    exact ⟨_, List.mem_map.mpr ⟨a, h1, rfl⟩, of_decide_eq_true h2, rfl, rfl⟩
  · intro r hr hk
    obtain ⟨a, ha, rfl⟩ := List.mem_map.mp hr
    have hk : a.key = key := hk
    have := hp.mem_iff.mpr (List.mem_map.mpr ⟨a, List.mem_filter.mpr ⟨ha, decide_eq_true hk⟩, rfl⟩)
    rcases List.mem_cons.mp this with q | q
    · have q1 : (rowOf wait a).due = due := congrArg Prod.fst q
      have q2 : a.came = first := congrArg Prod.snd q
      exact .inr ⟨q1.symm, Int.le_of_eq q2.symm⟩
    · exact (List.pairwise_cons.mp hs).1 _ q
  · show t ∈ ts ↔ _
    rw [ht.mem_iff, List.mem_map]
    constructor
    · rintro ⟨a, ha, e⟩
      obtain ⟨h1, h2⟩ := List.mem_filter.mp ha
      exact ⟨_, List.mem_map.mpr ⟨a, h1, rfl⟩, of_decide_eq_true h2, e⟩
    · rintro ⟨r, hr, h1, h2⟩
      obtain ⟨a, ha, rfl⟩ := List.mem_map.mp hr
      exact ⟨a, List.mem_filter.mpr ⟨ha, decide_eq_true h1⟩, h2⟩
def entQ (e : Ent) : D := .tup [.int e.due, .int e.key, .int e.first, .tup (e.ts.map D.int)]
theorem sortT_ents {es : List Ent} {W : Wd} {q : List D → Wd → Prop} (hn : (es.map (·.key)).Nodup) (h : ∀ es' : List Ent, es'.Perm es → es'.Pairwise entLt → q (es'.map entQ) W) : rSortT (es.map entQ) W q := by
  have hk : ∀ e : Ent, keyI 2 (entQ e) = [e.due, e.key] := fun _ => rfl
  refine sortT_by 2 (by decide) (fun a _ => ⟨rfl, _, rfl⟩) (.inl ?_) fun L' p hs => h L' p ?_
  · rw [List.map_map]
    refine List.pairwise_map.mpr ((List.pairwise_map.mp hn).imp fun {a b} n e => n ?_)
    have e : [a.due, a.key] = [b.due, b.key] := e
    simp only [List.cons.injEq] at e
    exact e.2.1
  · have hn2 : (L'.map (·.key)).Nodup := (p.map _).nodup_iff.mpr hn
    refine (List.pairwise_and_iff.mpr ⟨hs, List.pairwise_map.mp hn2⟩).imp fun {a b} ⟨q, n⟩ => ?_
    rw [hk, hk, lexI2] at q
    unfold entLt
    omega
theorem ents_done {R : List Row} {ks : List Int} {es es' : List Ent} (hk : es.map (·.key) = ks) (hm : ∀ k, k ∈ ks ↔ ∃ r ∈ R, r.key = k) (he : ∀ e ∈ es, IsEnt R e) (hp : es'.Perm es) (hs : es'.Pairwise entLt) : EntsOk R es' := by
  refine ⟨hs, fun e => ?_, fun r hr => ?_⟩
  rotate_left
  · have : r.key ∈ es.map (·.key) := by rw [hk, hm]; exact ⟨r, hr, rfl⟩
    obtain ⟨e, h2, h3⟩ := List.mem_map.mp this
    exact ⟨e, hp.mem_iff.mpr h2, h3⟩
  rw [hp.mem_iff]
  refine ⟨he e, fun h => ?_⟩
  obtain ⟨r, hr, h1, _⟩ := h.1
  have : e.key ∈ es.map (·.key) := by rw [hk, hm]; exact ⟨r, hr, h1⟩
  obtain ⟨e', h2, h3⟩ := List.mem_map.mp this
  rw [← ent_uniq (he e' h2) h h3]; exact h2
def pyAsk (a : AskR) : PyData := .tuple [.int a.tk, .int a.key, .int a.came, .int a.lat]
theorem ask_plain {a : AskR} {n : Nat} : plainD (n + 2) (askD a) = true := by
  unfold askD
  rw [plain_tup, List.all_cons, List.all_cons, List.all_cons, List.all_cons, plain_int, plain_int, plain_int, plain_int]; rfl
theorem py_ask {rf : Addr → Option PyData} {a : AskR} : pyIn rf (askD a) = some (pyAsk a) := by
  unfold askD
  simp only [pyIn, pyIns]; rfl
theorem py_asks {rf : Addr → Option PyData} : ∀ {L : List AskR}, pyIns rf (L.map askD) = some (L.map pyAsk)
  | [] => rfl
  | e :: r => by simp only [List.map_cons, pyIns, py_ask, py_asks (L := r)]
theorem shaped_ask {a : AskR} : SeqAt.shaped (pyAsk a) = true := by
  obtain ⟨p, e1, c, d⟩ := pyIn_plain (rf := fun _ => none) 2 _ (ask_plain (a := a) (n := 0))
  rw [py_ask] at e1
  cases e1
  unfold SeqAt.shaped
  rw [c, Bool.true_and, decide_eq_true_eq]; omega
theorem shaped_asks {L : List AskR} : SeqAt.shaped (.list (L.map pyAsk)) = true := by
  have hp : plainD 3 (.tup (L.map askD)) = true := by
    rw [plain_tup, List.all_eq_true]
    intro d hd
    obtain ⟨e, he, rfl⟩ := List.mem_map.mp hd
    exact ask_plain (n := 0)
  obtain ⟨p, e1, c, d⟩ := pyIn_plain (rf := fun _ => none) 3 _ hp
  simp only [pyIn, py_asks] at e1
  cases e1
  unfold SeqAt.shaped
  rw [Bool.and_eq_true, decide_eq_true_eq]
  refine ⟨?_, ?_⟩
  · simpa only [PyData.canLay0] using c
  · simp only [PyData.depth] at d ⊢; omega
theorem eqv_ask {a b : AskR} : PyData.eqv (pyAsk a) (pyAsk b) = true → a.tk = b.tk := by
  unfold pyAsk
  simp only [PyData.eqv, PyData.eqvAll, Bool.and_true, Bool.and_eq_true, beq_iff_eq]
  exact fun h => h.1
theorem eqv_ask_self {a : AskR} : PyData.eqv (pyAsk a) (pyAsk a) = true := by
  unfold pyAsk
  simp only [PyData.eqv, PyData.eqvAll, Bool.and_true, beq_self_eq_true]
theorem rm_ask {W : Wd} {c : Addr} {s t : List AskR} {g : AskR} {q : DK} (hn : ((s ++ g :: t).map (·.tk)).Nodup) (h : q .non (W.put c (.lst ((s ++ t).map askD)))) : rmL W c ((s ++ g :: t).map askD) (askD g) q := by
  refine ⟨pyAsk g, (s ++ g :: t).map pyAsk, s.length, py_ask, py_asks, shaped_ask, shaped_asks, ⟨⟨pyAsk g, by simp, eqv_ask_self⟩, fun m z hm hz => ?_⟩, ?_⟩
  · rw [List.map_append, List.getElem?_append_left (by rw [List.length_map]; exact hm), List.getElem?_map, List.getElem?_eq_getElem hm] at hz
    cases hz
    cases e : PyData.eqv (pyAsk s[m]) (pyAsk g) with
    | false => rfl
    | true =>
      rw [List.map_append, List.map_cons, List.nodup_append] at hn
      exact absurd (eqv_ask e) (hn.2.2 _ (List.mem_map.mpr ⟨s[m], List.getElem_mem _, rfl⟩) _ List.mem_cons_self)
  · have : ((s ++ g :: t).map askD).eraseIdx s.length = (s ++ t).map askD := by
      rw [List.map_append, List.eraseIdx_append_of_length_le (by rw [List.length_map]; exact Nat.le_refl _), List.length_map, Nat.sub_self, List.map_append]; rfl
    rw [this]; exact h
theorem rows_cut {s t : List AskR} {g : AskR} {wait : Int} (hn : ((s ++ g :: t).map (·.tk)).Nodup) : ∀ x, x ∈ (s ++ t).map (rowOf wait) ↔ x ∈ (s ++ g :: t).map (rowOf wait) ∧ x.tk ≠ g.tk := by
  rw [List.map_append, List.map_cons, List.nodup_append, List.nodup_cons] at hn
  intro x
  constructor
  · intro h
    obtain ⟨a, ha, rfl⟩ := List.mem_map.mp h
    refine ⟨List.mem_map.mpr ⟨a, ?_, rfl⟩, fun e => ?_⟩
    · rcases List.mem_append.mp ha with q | q <;> simp [q]
    · have e : a.tk = g.tk := e
      rcases List.mem_append.mp ha with q | q
      · exact hn.2.2 _ (List.mem_map.mpr ⟨a, q, rfl⟩) _ List.mem_cons_self e
      · exact hn.2.1.1 (List.mem_map.mpr ⟨a, q, e⟩)
  · rintro ⟨h, n⟩
    obtain ⟨a, ha, rfl⟩ := List.mem_map.mp h
    refine List.mem_map.mpr ⟨a, ?_, rfl⟩
    rcases List.mem_append.mp ha with q | q
    · simp [q]
    · rcases List.mem_cons.mp q with q | q
      · subst q; exact absurd rfl n
      · simp [q]
theorem rows_put {A : List AskR} {a : AskR} {wait : Int} : ∀ x, x ∈ (A ++ [a]).map (rowOf wait) ↔ x = rowOf wait a ∨ x ∈ A.map (rowOf wait) := fun x => by
  rw [List.map_append, List.mem_append, List.map_cons, List.map_nil, List.mem_singleton]
  exact Or.comm
theorem Sub.none {h g : Dh} {a : Addr} (s : DL.Sub h g) (e : g a = none) : h a = none := by
  cases q : h a with
  | none => rfl
  | some o => rw [s a o q] at e; cases e
section
variable {p C d1 d2 : Addr} {most wait : Int} {n : Nat} {R R' : List Row} {h h' : Dh} {G : List GW} {T : List (Int × Int)} {b a : Addr} {L : List D} {g : GW}
theorem WtR.nl1 (r : WtR p C most wait n R h d1 d2 G T) (hb : h b = some (.lst L)) : b ≠ d1 := by rintro rfl; rw [r.g1] at hb; cases hb
theorem WtR.nl2 (r : WtR p C most wait n R h d1 d2 G T) (hb : h b = some (.lst L)) : b ≠ d2 := by rintro rfl; rw [r.t1] at hb; cases hb
theorem WtR.nlp (r : WtR p C most wait n R h d1 d2 G T) (hb : h b = some (.lst L)) : b ≠ p := by rintro rfl; rw [r.self] at hb; unfold waitO at hb; cases hb
theorem WtR.nlg (r : WtR p C most wait n R h d1 d2 G T) (hg : g ∈ G) (hb : h b = some (.lst L)) : b ≠ g.at_ := by rintro rfl; rw [r.at_ g hg] at hb; cases hb
theorem WtR.keep (r : WtR p C most wait n R h d1 d2 G T) (k1 : h' p = h p) (k2 : h' d1 = h d1) (k3 : h' d2 = h d2) (k4 : ∀ g ∈ G, h' g.at_ = h g.at_) : WtR p C most wait n R h' d1 d2 G T :=
  { r with
    self := by rw [k1]; exact r.self
    g1 := by rw [k2]; exact r.g1
    t1 := by rw [k3]; exact r.t1
    at_ := fun g hg => by rw [k4 g hg]; exact r.at_ g hg }
def dcut (h : Dh) (a : Addr) : Dh := fun b => if b = a then none else h b
theorem dcut_same : dcut h a a = none := if_pos rfl
theorem dcut_ne (n : b ≠ a) : dcut h a b = h b := if_neg n
theorem dput_dcut {o : DO} (e : h a = some o) : dput (dcut h a) a o = h := by
  funext b
  by_cases q : b = a
  · subst q; rw [dput_same, e]
  · rw [dput_ne q, dcut_ne q]
theorem WaitS.cut (s : WaitS C most wait n R p h) (ha : h a = some (.lst L)) : WaitS C most wait n R p (dcut h a) := by
  obtain ⟨d1, d2, G, T, r⟩ := s
  exact ⟨d1, d2, G, T, r.keep (dcut_ne (r.nlp ha).symm) (dcut_ne (r.nl1 ha).symm) (dcut_ne (r.nl2 ha).symm) fun g hg => dcut_ne (r.nlg hg ha).symm⟩
theorem WaitS.grow {o : DO} (s : WaitS C most wait n R p h) (ha : h a = none) : WaitS C most wait n R p (dput h a o) := by
  obtain ⟨d1, d2, G, T, r⟩ := s
  have n : ∀ b o, h b = some o → b ≠ a := by rintro b o e rfl; rw [ha] at e; cases e
  exact ⟨d1, d2, G, T, r.keep (dput_ne (n _ _ r.self)) (dput_ne (n _ _ r.g1)) (dput_ne (n _ _ r.t1)) fun g hg => dput_ne (n _ _ (r.at_ g hg))⟩
theorem WaitS.re (s : WaitS C most wait n R p h) (e : ∀ x, x ∈ R ↔ x ∈ R') : WaitS C most wait n R' p h := by
  obtain ⟨d1, d2, G, T, r⟩ := s
  exact ⟨d1, d2, G, T, r.re e⟩
theorem WaitS.one (s : WaitS C most wait n R p h) {x y : Row} (hx : x ∈ R) (hy : y ∈ R) (e : x.tk = y.tk) : x = y := by
  obtain ⟨d1, d2, G, T, r⟩ := s
  exact r.one hx hy e
theorem WaitS.self (s : WaitS C most wait n R p h) : ∃ d1 d2, h p = some (waitO C most wait d1 d2) := by
  obtain ⟨d1, d2, G, T, r⟩ := s
  exact ⟨d1, d2, r.self⟩
end
theorem ents_key {R : List Row} {es : List Ent} (h : EntsOk R es) : es.Pairwise (fun a b => a.key ≠ b.key) := by
  refine h.1.imp_of_mem fun {a b} ha hb q e => ?_
  have := ent_uniq ((h.2.1 a).mp ha) ((h.2.1 b).mp hb) e
  subst this
  unfold entLt at q; omega
theorem ents_has {R : List Row} {es : List Ent} (h : EntsOk R es) {k : Int} : (R.any fun x => decide (x.key = k)) = decide (k ∈ es.map (·.key)) := by
  rw [Bool.eq_iff_iff, List.any_eq_true, decide_eq_true_eq, List.mem_map]
  constructor
  · rintro ⟨r, hr, e⟩
    obtain ⟨e', h1, h2⟩ := h.2.2 r hr
    exact ⟨e', h1, h2.trans (of_decide_eq_true e)⟩
  · rintro ⟨e, he, hk⟩
    obtain ⟨r, hr, h1, _⟩ := ((h.2.1 e).mp he).1
    exact ⟨r, hr, decide_eq_true (h1.trans hk)⟩
theorem ents_drop {R R' : List Row} {es : List Ent} {m : Nat} (h : EntsOk R es) (hR : ∀ x, x ∈ R' ↔ x ∈ R ∧ ∀ e ∈ es.take m, e.key ≠ x.key) : EntsOk R' (es.drop m) := by
  have hk := ents_key h
  rw [← List.take_append_drop m es, List.pairwise_append] at hk
  have dis := hk.2.2
  have up : ∀ e, IsEnt R e → (∀ e' ∈ es.take m, e'.key ≠ e.key) → IsEnt R' e := by
    rintro e ⟨⟨r, hr, a1, a2, a3⟩, b, c, d⟩ n
    refine ⟨⟨r, (hR r).mpr ⟨hr, fun e' he' => by rw [a1]; exact n e' he'⟩, a1, a2, a3⟩, fun r hr => b r ((hR r).mp hr).1, c, fun t => ?_⟩
    rw [d]
    constructor
    · rintro ⟨r, hr, q1, q2⟩
      exact ⟨r, (hR r).mpr ⟨hr, fun e' he' => by rw [q1]; exact n e' he'⟩, q1, q2⟩
    · rintro ⟨r, hr, q1, q2⟩
      exact ⟨r, ((hR r).mp hr).1, q1, q2⟩
  have down : ∀ e, IsEnt R' e → IsEnt R e ∧ ∀ e' ∈ es.take m, e'.key ≠ e.key := by
    rintro e ⟨⟨r, hr, a1, a2, a3⟩, b, c, d⟩
    have n : ∀ e' ∈ es.take m, e'.key ≠ e.key := fun e' he' => by have := ((hR r).mp hr).2 e' he'; rwa [a1] at this
    have tr : ∀ x ∈ R, x.key = e.key → x ∈ R' := fun x hx q => (hR x).mpr ⟨hx, fun e' he' => by rw [q]; exact n e' he'⟩
    refine ⟨⟨⟨r, ((hR r).mp hr).1, a1, a2, a3⟩, fun r hr q => b r (tr r hr q) q, c, fun t => ?_⟩, n⟩
    rw [d]
    constructor
    · rintro ⟨r, hr, q1, q2⟩
      exact ⟨r, ((hR r).mp hr).1, q1, q2⟩
    · rintro ⟨r, hr, q1, q2⟩
      exact ⟨r, tr r hr q1, q1, q2⟩
  refine ⟨h.1.sublist (List.drop_sublist m es), fun e => ⟨fun he => up e ((h.2.1 e).mp (List.mem_of_mem_drop he)) fun e' he' => dis e' he' e he, fun he => ?_⟩, fun r hr => ?_⟩
  · obtain ⟨h1, h2⟩ := down e he
    have := (h.2.1 e).mpr h1
    rw [← List.take_append_drop m es] at this
    rcases List.mem_append.mp this with q | q
    · exact absurd rfl (h2 e q)
    · exact q
  · obtain ⟨h1, h2⟩ := (hR r).mp hr
    obtain ⟨e, he, q⟩ := h.2.2 r h1
    rw [← List.take_append_drop m es] at he
    rcases List.mem_append.mp he with z | z
    · exact absurd q (h2 e z)
    · exact ⟨e, z, q⟩
theorem ask_uniq {A : List AskR} (hn : (A.map (·.tk)).Nodup) {a b : AskR} (ha : a ∈ A) (hb : b ∈ A) (e : a.tk = b.tk) : a = b := by
  obtain ⟨i, hi, e3⟩ := List.getElem_of_mem ha
  obtain ⟨j, hj, e4⟩ := List.getElem_of_mem hb
  rcases Nat.lt_trichotomy i j with q | q | q
  · exact absurd (by rw [List.getElem_map, List.getElem_map, e3, e4, e]) (List.pairwise_iff_getElem.mp hn i j (by simpa using hi) (by simpa using hj) q)
  · subst q; rw [← e3, e4]
  · exact absurd (by rw [List.getElem_map, List.getElem_map, e3, e4, e]) (List.pairwise_iff_getElem.mp hn j i (by simpa using hj) (by simpa using hi) q)
/-! ### two of a kind -/
structure KiR where
  most : Int
  wait : Int
  keep : Int
  tries : Int
def kiD (k : KiR) : D := .tup [.str "k", .int k.most, .int k.wait, .int k.keep, .int k.tries]
def setF {α : Type} (f : Int → α) (r : Int) (v : α) : Int → α := fun j => if j = r then v else f j
theorem setF_same {α : Type} {f : Int → α} {r : Int} {v : α} : setF f r v r = v := if_pos rfl
theorem setF_ne {α : Type} {f : Int → α} {r j : Int} {v : α} (n : j ≠ r) : setF f r v j = f j := if_neg n
def Bit (r : Int) : Prop := r = 0 ∨ r = 1
theorem at_two {α : Type} (f : Int → α) {r : Int} (h : Bit r) : atI [f 0, f 1] r = some (f r) := by rcases h with rfl | rfl <;> rfl
theorem set_two {α : Type} (f : Int → α) {r : Int} (h : Bit r) (v : α) : ∃ j, ixN 2 r = some j ∧ [f 0, f 1].set j v = [setF f r v 0, setF f r v 1] := by
  rcases h with rfl | rfl
  · exact ⟨0, by decide, rfl⟩
  · exact ⟨1, by decide, rfl⟩
structure S16 (C p kc wc ac : Addr) (K : Int → KiR) (w : Int → Addr) (m : Nat) (W : Wd) (n : Nat) (l : Int → Nat) (A : Int → List AskR) (c : Int → Addr) : Prop where
  sp : W.hid p = some (.law n)
  sk : W.hp kc = some (.lst [kiD (K 0), kiD (K 1)])
  swc : W.hp wc = some (.lst [.ref (w 0), .ref (w 1)])
  sac : W.hp ac = some (.lst [.ref (c 0), .ref (c 1)])
  sw : ∀ j, Bit j → W.hid (w j) = some (waitH C (K j).most (K j).wait (l j) ((A j).map (rowOf (K j).wait)))
  nw : ∀ j, Bit j → W.hp (w j) = none
  sc : ∀ j, Bit j → W.hp (c j) = some (.lst ((A j).map askD))
  nd : ∀ j, Bit j → ((A j).map (·.tk)).Nodup
  la : ∀ j, Bit j → (A j).length ≤ m
  ll : ∀ j, Bit j → l j ≤ m
  nac : ∀ j, Bit j → ac ≠ c j
theorem S16.upd {C p kc wc ac : Addr} {K : Int → KiR} {w : Int → Addr} {m m2 : Nat} {W W2 : Wd} {n n2 : Nat} {l : Int → Nat} {A : Int → List AskR} {c : Int → Addr} (s : S16 C p kc wc ac K w m W n l A c) {r : Int} (hr : Bit r) {l2 : Nat} {A2 : List AskR} {b : Addr}
    (nwk : ac ≠ kc) (nww : ac ≠ wc) (hw : ∀ i j, Bit i → Bit j → i ≠ j → w i ≠ w j) (h1 : W2.hid p = some (.law n2)) (h2 : W2.hid (w r) = some (waitH C (K r).most (K r).wait l2 (A2.map (rowOf (K r).wait)))) (h3 : ∀ j, Bit j → j ≠ r → W2.hid (w j) = W.hid (w j))
    (h4 : W2.hp ac = some (.lst [.ref (setF c r b 0), .ref (setF c r b 1)])) (h5 : W2.hp b = some (.lst (A2.map askD))) (h6 : ac ≠ b) (h7 : ∀ a o, a ≠ ac → W.hp a = some o → W2.hp a = some o) (h8 : ∀ j, Bit j → W2.hp (w j) = none) (h9 : (A2.map (·.tk)).Nodup) (hm : m ≤ m2) (h10 : A2.length ≤ m2) (h11 : l2 ≤ m2) :
    S16 C p kc wc ac K w m2 W2 n2 (setF l r l2) (setF A r A2) (setF c r b) := by
  refine ⟨h1, h7 _ _ nwk.symm s.sk, h7 _ _ nww.symm s.swc, h4, fun j hj => ?_, h8, fun j hj => ?_, fun j hj => ?_, fun j hj => ?_, fun j hj => ?_, fun j hj => ?_⟩
  all_goals by_cases q : j = r
  · subst q; rw [setF_same, setF_same]; exact h2
  · rw [setF_ne q, setF_ne q, h3 j hj q]; exact s.sw j hj
  · subst q; rw [setF_same, setF_same]; exact h5
  · rw [setF_ne q, setF_ne q]; exact h7 _ _ (s.nac j hj).symm (s.sc j hj)
  · subst q; rw [setF_same]; exact h9
  · rw [setF_ne q]; exact s.nd j hj
  · subst q; rw [setF_same]; exact h10
  · rw [setF_ne q]; exact Nat.le_trans (s.la j hj) hm
  · subst q; rw [setF_same]; exact h11
  · rw [setF_ne q]; exact Nat.le_trans (s.ll j hj) hm
  · subst q; rw [setF_same]; exact h6
  · rw [setF_ne q]; exact s.nac j hj
theorem set_refs {c : Int → Addr} {r : Int} (h : Bit r) : ∃ j, ixN 2 r = some j ∧ ∀ b, [D.ref (c 0), D.ref (c 1)].set j (.ref b) = [.ref (setF c r b 0), .ref (setF c r b 1)] := by
  rcases h with rfl | rfl
  · exact ⟨0, by decide, fun b => rfl⟩
  · exact ⟨1, by decide, fun b => rfl⟩
theorem S16.law {C p kc wc ac : Addr} {K : Int → KiR} {w : Int → Addr} {m : Nat} {W : Wd} {n n2 : Nat} {l : Int → Nat} {A : Int → List AskR} {c : Int → Addr} (s : S16 C p kc wc ac K w m W n l A c) (hp : ∀ j, Bit j → p ≠ w j) : S16 C p kc wc ac K w m (W.hide p (.law n2)) n2 l A c :=
  ⟨hset_same, s.sk, s.swc, s.sac, fun j hj => by show hset W.hid p _ (w j) = _; rw [hset_ne (hp j hj).symm]; exact s.sw j hj, s.nw, s.sc, s.nd, s.la, s.ll, s.nac⟩
end DL

namespace DL
open PySem L2 PySem.Spec PyProof.Rows
/-! ### dict(enumerate(t)) of a tuple -/
section
variable {prog : Program} {w : World} {A : Around} {E : Value → Shared → Prop} {s : Shared}
theorem next_held {e it T : Addr} {fp : List Addr} {n i : Nat} {Pv : Nat → Value → Prop} {St : Nat → Heap → Prop} {old : Value} {f : Bool} {oT : Obj} {Q : Value → Shared → Prop}
    (dr : Draws prog w A it fp n Pv St) (he : IsEnumHeld s.heap e it i old T f) (hT : s.heap.get? T = some oT) (te : T ≠ e) (ti : T ≠ it) (hst : St i s.heap) (hlt : i < n) (hne : e ≠ it) (hef : e ∉ fp)
    (hQ : ∀ x g tk, Pv i x → IsEnumHeld g e it ((i : Int) + 1) old T true → St (i + 1) g → g.get? s.heap.objs.size = some { cls := .type "tuple", data := .seq #[.int i tk, x] } →
      (∀ b o, b ≠ e → b ≠ it → s.heap.get? b = some o → g.get? b = some o) → Q (.ref s.heap.objs.size) { s with heap := g, toks := tk + 1 }) :
    wpAny (model prog w) A (Builtin.«enumerate.__next__» ⟨[.ref e], []⟩) (fun fin z => ∃ v, fin = .done (.ret v) ∧ Q v z) E s := by
  obtain ⟨h0, gs, dd, t0, os⟩ := s
  show wpAny _ _ (field (.ref e) 2 >>= _) _ _ { heap := h0, gens := gs, drawn := dd, toks := t0, os := os }
  refine wpAny_bind (wpAny_field he rfl (x := .ref it) rfl (wpAny_bind (dr.item i _ _ _ hlt hst fun x a1 tk px s1 k1 => ?_)))
  replace k1 : Heap.SameBut it h0 a1 := k1
  have e1 : IsEnumHeld a1 e it i old T f := (k1.2 e hne).trans he
  show wpAny _ _ (field (.ref e) 3 >>= _) _ _ { heap := a1, gens := gs, drawn := dd, toks := tk, os := os }
  refine wpAny_bind (wpAny_field e1 rfl (x := rawInt i) rfl ?_)
  show wpAny _ _ (field (.ref e) 4 >>= _) _ _ { heap := a1, gens := gs, drawn := dd, toks := tk, os := os }
  refine wpAny_bind (wpAny_field e1 rfl (x := .none) rfl ?_)
  show wpAny _ _ (mkInt i >>= _) _ _ { heap := a1, gens := gs, drawn := dd, toks := tk, os := os }
  refine wpAny_bind (wpAny_mkInt ?_)
  show wpAny _ _ (setField (.ref e) 3 (rawInt ((i : Int) + 1)) >>= _) _ _ { heap := a1, gens := gs, drawn := dd, toks := tk + 1, os := os }
  refine wpAny_bind (wpAny_setField_rec e1 (by simp) fun a2 e2 k2 => ?_)
  replace k2 : Heap.SameBut e a1 a2 := k2
  replace e2 : IsEnumHeld a2 e it ((i : Int) + 1) old T f := e2
  show wpAny _ _ (setField (.ref e) 4 .none >>= _) _ _ { heap := a2, gens := gs, drawn := dd, toks := tk + 1, os := os }
  refine wpAny_bind (wpAny_setField_rec e2 (by simp) fun a3 e3 k3 => ?_)
  replace k3 : Heap.SameBut e a2 a3 := k3
  replace e3 : IsEnumHeld a3 e it ((i : Int) + 1) old T f := e3
  show wpAny _ _ (newTuple [.int i tk, x] >>= _) _ _ { heap := a3, gens := gs, drawn := dd, toks := tk + 1, os := os }
  refine wpAny_bind (wpAny_newTuple ?_)
  obtain ⟨a4, h4⟩ : ∃ a4, a4 = a3.push { cls := .type "tuple", data := .seq #[.int i tk, x] } := ⟨_, rfl⟩
  have z3 : a3.objs.size = h0.objs.size := by rw [k3.1, k2.1, k1.1]
  have le : e < h0.objs.size := Heap.lt_size he
  have e4 : IsEnumHeld a4 e it ((i : Int) + 1) old T f := by rw [h4]; exact Heap.get?_push_of_some _ e3
  have t4 : a4.get? h0.objs.size = some { cls := .type "tuple", data := .seq #[.int i tk, x] } := by rw [h4, ← z3]; exact Heap.get?_push_size _ rfl
  have kk : ∀ b o, b ≠ e → b ≠ it → h0.get? b = some o → a4.get? b = some o := fun b o n1 n2 q => by rw [h4]; exact Heap.get?_push_of_some _ (k3.extBut b o n1 (k2.extBut b o n1 (k1.extBut b o n2 q)))
  have s4 : St (i + 1) a4 := dr.frame _ _ _ s1 fun b hb o y => by
    have n1 : b ≠ e := fun q => hef (q ▸ hb)
    rw [h4]; exact Heap.get?_push_of_some _ (k3.extBut b o n1 (k2.extBut b o n1 y))
  show wpAny _ _ (Builtin.SmallTypes.ownedTupleIsFree (.ref e) >>= _) _ _ { heap := a3.push { cls := .type "tuple", data := .seq #[.int i tk, x] }, gens := gs, drawn := dd, toks := tk + 1, os := os }
  rw [z3, ← h4]
  clear h4 e3 k3 e2 k2 e1 k1 s1 z3 a3 a2 a1
  refine wpAny_bind (wpAny_tupleHeld_enum (s := { heap := a4, gens := gs, drawn := dd, toks := tk + 1, os := os }) e4 (kk T oT te ti hT) fun a5 e5 k5 => ?_)
  replace k5 : Heap.SameBut e a4 a5 := k5
  simp only [Bool.false_eq_true, if_false]
  exact wpAny_pure ⟨_, rfl, hQ x a5 tk px e5 (dr.frame _ _ _ s4 fun b hb o y => k5.extBut b o (fun q => hef (q ▸ hb)) y) (k5.extBut _ _ (Nat.ne_of_gt le) t4) fun b o n1 n2 q => k5.extBut b o n1 (kk b o n1 n2 q)⟩
theorem py_next_held {e it T : Addr} {fp : List Addr} {n i : Nat} {Pv : Nat → Value → Prop} {St : Nat → Heap → Prop} {old : Value} {f : Bool} {oT : Obj} {Q : Option Value → Shared → Prop}
    (dr : Draws prog w A.in1 it fp n Pv St) (he : IsEnumHeld s.heap e it i old T f) (hT : s.heap.get? T = some oT) (te : T ≠ e) (ti : T ≠ it) (hst : St i s.heap) (hlt : i < n) (hne : e ≠ it) (hef : e ∉ fp)
    (hQ : ∀ x g tk, Pv i x → IsEnumHeld g e it ((i : Int) + 1) old T true → St (i + 1) g → g.get? s.heap.objs.size = some { cls := .type "tuple", data := .seq #[.int i tk, x] } →
      (∀ b o, b ≠ e → b ≠ it → s.heap.get? b = some o → g.get? b = some o) → Q (some (.ref s.heap.objs.size)) { s with heap := g, toks := tk + 1 }) :
    wpAny (model prog w) A (pyNext (.ref e)) Q E s := by
  have ty : s.TypeIs (.ref e) "enumerate" := ⟨_, he, rfl⟩
  unfold pyNext
  exact wpAny_bind (wpAny_attempt (wpAny_callSpecial?_slot (name := Str.ofString "__next__") ty F.slot_enumerate_next (wpAny_call_entry F.slot_enumerate_next ty F.entry_enumerate_next
    (next_held dr he hT te ti hst hlt hne hef fun x g tk b1 b2 b3 b4 b5 => wpAny_pure (hQ x g tk b1 b2 b3 b4 b5)) (F.args_enumerate_next_1 _))))
theorem py_end_held {e it T : Addr} {fp : List Addr} {n : Nat} {Pv : Nat → Value → Prop} {St : Nat → Heap → Prop} {j : Int} {old : Value} {f : Bool} {Q : Option Value → Shared → Prop}
    (dr : Draws prog w A.in1 it fp n Pv St) (he : IsEnumHeld s.heap e it j old T f) (hst : St n s.heap) (hQ : ∀ g, Heap.ExtBut it s.heap g → Q none { s with heap := g }) : wpAny (model prog w) A (pyNext (.ref e)) Q E s := by
  have ty : s.TypeIs (.ref e) "enumerate" := ⟨_, he, rfl⟩
  unfold pyNext
  refine wpAny_bind (wpAny_attempt (wpAny_callSpecial?_slot (name := Str.ofString "__next__") ty F.slot_enumerate_next (wpAny_call_entry F.slot_enumerate_next ty F.entry_enumerate_next ?_ (F.args_enumerate_next_1 _))))
  show wpAny _ _ (field (.ref e) 2 >>= _) _ _ s
  refine wpAny_bind (wpAny_field he rfl (x := .ref it) rfl (wpAny_bind (dr.done _ _ _ hst fun g x kg ⟨o, ho, hc⟩ => ?_)))
  exact wpAny_bind (wpAny_isInstance (T := "StopIteration") (b := true) ⟨o, ho, hc⟩ isSubtype_stop (wpAny_pure (hQ g kg)))
end
theorem arg_enumT {prog : Program} {w : World} (e it l : Addr) (hei : e ≠ it) (hle : l ≠ e) (hli : l ≠ it) (items : Array Value) :
    PairArg prog w "enumerate" e [e, it, l] [e, it] items.size (fun i k v => (∃ t, k = .int i t) ∧ items[i]? = some v) (fun h => (∃ old, IsEnum h e it 0 old) ∧ h.IsTupleIter it l 0 ∧ h.IsTuple l items) where
  type := fun s ok => let ⟨⟨_, he⟩, _⟩ := ok; ⟨_, he, rfl⟩
  notDict := by decide
  keep := fun h h' ok hk => let ⟨⟨old, he⟩, hit, hl⟩ := ok; ⟨⟨old, hk _ _ he⟩, hit.at fun o x => hk _ o x, hl.at fun o x => hk _ o x⟩
  there := fun h ok b hb => by
    obtain ⟨⟨old, he⟩, ⟨o1, h1, _⟩, ⟨o2, h2, _⟩⟩ := ok
    rcases List.mem_cons.mp hb with rfl | hb
    · exact ⟨_, he⟩
    · rcases List.mem_cons.mp hb with rfl | hb
      · exact ⟨_, h1⟩
      · rw [List.mem_singleton] at hb; subst hb; exact ⟨_, h2⟩
  sub := fun b hb => List.mem_of_mem_take (i := 2) hb
  noKeys := fun A s Q E hA ok h => let ⟨⟨_, he⟩, _⟩ := ok; getAttrOr_miss_enumerate he rfl rfl rfl enumerate_no_keys (by decide +kernel) hA h
  iter := fun A s d Q E hA ok hd hdf h => by
    obtain ⟨⟨old, he⟩, hit, hl⟩ := ok
    have de : d ≠ e := fun q => hdf (by simp [q])
    have dt : d ≠ it := fun q => hdf (by simp [q])
    have dl : d ≠ l := fun q => hdf (by simp [q])
    have hdr : ∀ A : Around, A.handled = none → Draws prog w A it [it, l] items.size (fun i x => items[i]? = some x) (fun i h => h.IsTupleIter it l i ∧ h.IsTuple l items) := fun A ha => Draws.tuple ha it l hli items
    have hef : e ∉ [it, l] := fun q => by
      rcases List.mem_cons.mp q with q | q
      · exact hei q
      · rw [List.mem_singleton] at q; exact hle q.symm
    refine wpAny_pyIter_enum he (h e [e, it] (fun i h => (h.IsTupleIter it l i ∧ h.IsTuple l items) ∧ ((∃ old, IsEnum h e it i old) ∨ ∃ old T f oT, IsEnumHeld h e it i old T f ∧ h.get? T = some oT ∧ T ≠ e ∧ T ≠ it ∧ T ≠ d)) s.heap s.toks ?_ ⟨⟨hit, hl⟩, .inl ⟨old, he⟩⟩ (fun _ _ e => e) fun b hb => .inl hb)
    exact {
      off := fun hm => by
        rcases List.mem_cons.mp hm with x | x
        · exact de x
        · rw [List.mem_singleton] at x; exact dt x
      frame := fun i h1 h2 ⟨⟨q1, q2⟩, q3⟩ hk => ⟨⟨q1.at fun o x => hk _ o dt.symm x, q2.at fun o x => hk _ o dl.symm x⟩, q3.elim (fun ⟨old, q⟩ => .inl ⟨old, hk _ _ de.symm q⟩) fun ⟨old, T, f, oT, q, hT, r1, r2, r3⟩ => .inr ⟨old, T, f, oT, hk _ _ de.symm q, hk _ _ r3 hT, r1, r2, r3⟩⟩
      item := fun i z Q1 E1 hi st hds hQ => by
        obtain ⟨st1, q3⟩ := st
        have ec : ((i + 1 : Nat) : Int) = (i : Int) + 1 := by omega
        have nit : z.heap.objs.size ≠ it := let ⟨_, x, _⟩ := st1.1; Nat.ne_of_gt (Heap.lt_size x)
        have ha1 : A.in1.handled = none := by rw [Around.in1]; exact hA
        rcases q3 with ⟨old, q⟩ | ⟨old, T, f, oT, q, hT, r1, r2, r3⟩
        · refine wpAny_pyNext_enum_itemD (hdr _ ha1) q st1 hi hei hef fun x g tk px ho st2 ht hsz hk => ?_
          exact hQ z.heap.objs.size _ _ g (tk + 1) ⟨⟨_, rfl⟩, px⟩ (.inl ⟨_, ht, rfl, _, rfl⟩) ⟨st2, .inr ⟨x, z.heap.objs.size, false, _, (by rw [ec]; exact ho), ht, Nat.ne_of_gt (Heap.lt_size q), nit, Nat.ne_of_gt hds⟩⟩
            fun b o hb x => hk b o (fun y => hb (by simp [y])) (fun y => hb (by simp [y])) x
        · refine py_next_held (hdr _ ha1) q hT r1 r2 st1 hi hei hef fun x g tk px ho st2 ht hk => ?_
          exact hQ z.heap.objs.size _ _ g (tk + 1) ⟨⟨_, rfl⟩, px⟩ (.inl ⟨_, ht, rfl, _, rfl⟩) ⟨st2, .inr ⟨old, T, true, oT, (by rw [ec]; exact ho), hk _ _ r1 r2 hT, r1, r2, r3⟩⟩
            fun b o hb x => hk b o (fun y => hb (by simp [y])) (fun y => hb (by simp [y])) x
      done := fun z Q1 E1 st hQ => by
        obtain ⟨st1, q3⟩ := st
        have ha1 : A.in1.handled = none := by rw [Around.in1]; exact hA
        rcases q3 with ⟨old, q⟩ | ⟨old, T, f, oT, q, hT, r1, r2, r3⟩
        · exact wpAny_pyNext_enum_endD (hdr _ ha1) q st1 fun g hk => hQ g z.toks fun b o hb x => hk b o (fun y => hb (by simp [y])) x
        · exact py_end_held (hdr _ ha1) q st1 fun g hk => hQ g z.toks fun b o hb x => hk b o (fun y => hb (by simp [y])) x }
end DL
namespace DL
open PySem L2 PySem.Spec PyProof.Rows
def enK {α : Type} : Nat → List α → List (Key × α)
  | _, [] => []
  | i, x :: r => (.inl (i : Int), x) :: enK (i + 1) r
theorem enK_len {α : Type} : ∀ {i : Nat} {l : List α}, (enK i l).length = l.length
  | _, [] => rfl
  | i, x :: r => by rw [enK, List.length_cons, List.length_cons, enK_len]
theorem enK_at {α : Type} : ∀ {i j : Nat} {l : List α} {x : α}, l[j]? = some x → (enK i l)[j]? = some (.inl ((i + j : Nat) : Int), x)
  | i, 0, x :: r, y, h => by cases h; rfl
  | i, j + 1, x :: r, y, h => by
    rw [enK, List.getElem?_cons_succ, enK_at (i := i + 1) (j := j) (by simpa using h), show i + 1 + j = i + (j + 1) by omega]
theorem enK_ge {α : Type} : ∀ {i : Nat} {l : List α} {k : Key}, k ∈ (enK i l).map (·.1) → ∃ j : Nat, i ≤ j ∧ k = .inl (j : Int)
  | i, x :: r, k, h => by
    rcases List.mem_cons.mp h with rfl | h
    · exact ⟨i, Nat.le_refl _, rfl⟩
    · obtain ⟨j, h1, h2⟩ := enK_ge h
      exact ⟨j, by omega, h2⟩
theorem enK_nodup {α : Type} : ∀ {i : Nat} {l : List α}, ((enK i l).map (·.1)).Nodup
  | _, [] => List.nodup_nil
  | i, x :: r => by
    rw [enK, List.map_cons, List.nodup_cons]
    refine ⟨fun h => ?_, enK_nodup⟩
    obtain ⟨j, h1, h2⟩ := enK_ge h
    have := Sum.inl.inj h2
    omega
theorem enK_rep {K : PySem.W.Frag} {H : Hp} : ∀ {i : Nat} {ds : List D} {xs : List V}, repVs K H ds xs → repKV K H (enK i ds) (enK i xs)
  | _, [], _, h => by simp only [repVs] at h; subst h; rfl
  | i, d :: ds, _, h => by
    simp only [repVs] at h
    obtain ⟨x, r, rfl, h1, h2⟩ := h
    exact ⟨x, _, rfl, h1, enK_rep h2⟩
theorem enK_kv : ∀ {i : Nat} {xs : List V} {us : List Value}, Vals xs us → KV (enK i xs) (enK i us)
  | _, _, _, .nil => .nil
  | i, _, _, .cons r t => .cons ⟨rfl, r⟩ (enK_kv t)
def dEnD (d : D) (W : Wd) (q : DK) : Prop := match d with
  | .tup ds => ds.length ≤ 1000000 ∧ ∀ a, W.hp a = none → W.hid a = none → q (.ref a) (W.put a (.dK (enK 0 ds)))
  | _ => False
theorem rd_enD {ds : List D} {W : Wd} {q : DK} : dEnD (.tup ds) W q = (Sz ds.length ∧ ∀ a, W.hp a = none → W.hid a = none → q (.ref a) (W.put a (.dK (enK 0 ds)))) := rfl
def dDictEn (ta : TED) : TED := fun δ W q => ta δ W fun d W1 => dEnD d W1 q
theorem rd_dictEn {ta : TED} {δ : Sd} {W : Wd} {q : DK} : dDictEn ta δ W q = ta δ W fun d W1 => dEnD d W1 q := rfl
section
variable {X : Cx} {Ed : WXD} {Ex : WX} {a : Expr} {ta : TED} {p p2 q pos : Pos}
theorem de_dictEn (hg : Gl X "dict") (hm : X.mg "dict" = none) (hg2 : Gl X "enumerate") (hm2 : X.mg "enumerate" = none) (ha : PE X a (upE X.K Ed Ex ta)) (hc : X.calm = true := by rfl)
    (na : starEach [a] X.env = (false, eval a X.env) :: starEach [] X.env := by rfl) : PE X (.Call (.Name "dict" p) [.Call (.Name "enumerate" p2) [a] [] q] [] pos) (upE X.K Ed Ex (dDictEn ta)) := by
  refine ⟨fun pins s σ H Q I h => ?_⟩
  obtain ⟨δ, W, P, qd, rs, rw, x, h, kk⟩ := h
  refine Call_ (ld_blt I hg hm PyProof.Rows.boot_dict ?_)
  refine PyProof.Rows.callWith_type1 (PyProof.Rows.args_cons ?_ (by rfl)) (by rfl) (by rfl)
  refine Call_ (ld_blt I hg2 hm2 PyProof.Rows.boot_enumerate ?_)
  refine PyProof.Rows.callWith_type1 (PyProof.Rows.args_cons (thn (ha.run pins s σ H (fun v H1 => ∃ d W1 P1, repV X.K H1 d v ∧ RepW X.K W1 P1 H1 ∧ Step X.K W P H W1 P1 H1 ∧ dEnD d W1 qd) I ⟨δ, W, P, _, rs, rw, x, h, fun d W1 P1 v H1 s1 r1 rw1 h1 => ⟨d, W1, P1, r1, rw1, s1, h1⟩⟩) fun v s1 ⟨x, H1, I1, r1, q1⟩ => PyProof.Rows.args_nil ?_) na) na (by rfl)
  obtain ⟨d, W1, P1, r2, rw1, st, hq⟩ := q1
  cases d with
  | tup ds => ?_
  | _ => exact hq.elim
  obtain ⟨t, xs, rfl, hs, rxs⟩ := r2
  cases r1
  obtain ⟨its, rv, pl, hz⟩ := I1.tuple hs.1
  refine call_enumerate_tuple (show s1.heap.IsTuple t its.toArray from pl) fun g he hit hsz hk => PyProof.Rows.args_nil ?_
  have I2 : Inv X pins σ H1 { s1 with heap := g } := I1.kept (t' := s1.toks) hk
  have hlt : t < s1.heap.objs.size := let ⟨_, e, _⟩ := pl; Heap.lt_size e
  have hl : its.length = ds.length := by rw [← rv.length, ← repVs_len rxs]
  have hln : its.length ≤ sizeLine := by rw [hl]; exact Nat.le_trans hq.1 (by rw [sizeLine_eq]; omega)
  refine PySem.call_dict_pairs (knd := mixKind X.prog X.w) (kvs := enK 0 its) (arg_enumT (s1.heap.objs.size + 1) s1.heap.objs.size t (Nat.succ_ne_self _) (Nat.ne_of_lt (Nat.lt_succ_of_lt hlt)) (Nat.ne_of_lt hlt) its.toArray) (I1.ok.hd hc) ⟨⟨.none, he⟩, hit, (show s1.heap.IsTuple t its.toArray from pl).at fun o e => hk _ o e⟩ ⟨by rw [enK_len, List.size_toArray], fun i key v hr => ?_⟩ (by rw [List.size_toArray]; exact hln) fun g2 tk hd hk2 => ?_
  · obtain ⟨⟨t', rfl⟩, hv⟩ := hr
    refine ⟨.inl (i : Int), ?_, ?_⟩
    · have := enK_at (i := 0) (j := i) (l := its) (x := v) (by simpa using hv)
      rw [Nat.zero_add] at this; exact this
    · show Value.isInt (i : Int) (.int i t') = true
      exact beq_self_eq_true _
  · rw [merged_nil_of_nodup _ enK_nodup] at hd
    have hgs : s1.heap.objs.size ≤ g.objs.size := by rw [hsz]; omega
    have k2 : ∀ b u, s1.heap.get? b = some u → g2.get? b = some u := fun b u e => by
      refine hk2 b u (fun hb => ?_) (hk b u e)
      have hlt := Heap.lt_size e
      rcases List.mem_cons.mp hb with hb | hb
      · exact absurd hb (Nat.ne_of_lt (Nat.lt_succ_of_lt hlt))
      · rw [List.mem_singleton] at hb; exact absurd hb (Nat.ne_of_lt hlt)
    have hn : H1 g.objs.size = none := I1.hok.fresh hgs
    have hm0 : (g.objs.size == sysModules) = false := beq_eq_false_iff_ne.mpr (Nat.ne_of_gt (Nat.lt_of_lt_of_le I1.big hgs))
    have hlk : (enK 0 xs).length ≤ sizeLine := by rw [enK_len, rv.length]; exact hln
    refine ⟨.ref g.objs.size, upd H1 g.objs.size (.dK (enK 0 xs)), I1.laid (t' := tk) k2 hgs (show ObjOk X.prog X.w _ _ _ (.dK (enK 0 xs)) from ⟨hlk, hm0, enK 0 its, enK_kv rv, hd⟩), rfl, ?_⟩
    obtain ⟨f1, f2, f3⟩ := rw1.fresh hn
    have sp := Step.put (K := X.K) (W := W1) (P := P1) (H := H1) (o := .dK (enK 0 xs)) (d := .dK (enK 0 ds)) hn
    exact kk (.ref g.objs.size) _ P1 _ _ (st.trans sp) rfl (rw1.put (d := .dK (enK 0 ds)) hn ⟨_, rfl, repKV_mono sp.tup _ (enK_rep rxs)⟩) (hq.2 _ f1 f2)
end
end DL

namespace DL
open PySem L2 PySem.Spec PyProof.Rows
/-! ### s.upper() -/
def upV (d : D) (W : Wd) (q : DK) : Prop := match d with
  | .str z => z.length ≤ 1000000 ∧ q (.str (PySem.Txt.upper z)) W
  | _ => False
theorem rd_upV {z : Str} {W : Wd} {q : DK} : upV (.str z) W q = (Sz z.length ∧ q (.str (PySem.Txt.upper z)) W) := rfl
def dUpper (to : TED) : TED := fun δ W q => to δ W fun d W1 => upV d W1 q
theorem rd_upper {to : TED} {δ : Sd} {W : Wd} {q : DK} : dUpper to δ W q = to δ W fun d W1 => upV d W1 q := rfl
section
variable {X : Cx} {Ed : WXD} {Ex : WX} {o : Expr} {to : TED} {apos pos : Pos}
theorem de_upper (ho : PE X o (upE X.K Ed Ex to)) (hbase : attributeBase o "upper" X.env (eval o X.env) = eval o X.env := by rfl) (hline : (apos.endLine == pos.line) = true := by rfl) :
    PE X (.Call (.Attribute o "upper" apos) [] [] pos) (upE X.K Ed Ex (dUpper to)) := (pe_upper ho hbase hline).imp fun σ H Q h => by
  obtain ⟨δ, W, P, q, rs, rw, x, h, k⟩ := h
  refine ⟨δ, W, P, _, rs, rw, x, h, fun d W1 P1 v H1 s1 r1 rw1 h1 => ?_⟩
  cases d with
  | str z =>
    obtain rfl : v = .str z := r1
    exact ⟨⟨z, rfl⟩, z, rfl, rfl, by have := h1.1; omega, k (.str _) W1 P1 _ H1 s1 rfl rw1 h1.2⟩
  | _ => exact h1.elim
end
/-! ### asks -/
def isAskD (ks : List KindR) (tick : Int) (x : D) : Bool := match x with
  | .tup [t, .str s, k, l] => isNumD t 0 1000000000000000000 && isNumD k 0 1000000000000000000 && decide (s ∈ ks.map KindR.name) && isNumD l tick (tick + 1000)
  | _ => false
theorem upper_txt {m : Nat} {z : Str} (h : Word m z) (hm : m ≤ 1000) : DL.Txt (PySem.Txt.upper z) := by
  obtain ⟨h1, h2, h3⟩ := h
  have hA : ∀ c ∈ z.cps.toList, c < 128 := fun c hc => by
    have := List.all_eq_true.mp h3 c hc
    unfold letB at this
    simp only [Bool.and_eq_true, decide_eq_true_eq] at this
    omega
  rw [upper_ascii hA]
  refine ⟨?_, strOk_iff.mpr fun c hc => ?_⟩
  · show (z.cps.map PyProof.Rows.up1).size ≤ _
    rw [Array.size_map]
    have : z.cps.size = z.length := rfl
    omega
  · have hc : c ∈ (z.cps.map PyProof.Rows.up1).toList := hc
    rw [Array.toList_map] at hc
    obtain ⟨b, hb, rfl⟩ := List.mem_map.mp hc
    refine strOk_one ?_
    have := hA b hb
    unfold PyProof.Rows.up1
    split <;> omega
theorem isAsk_len {ks : List KindR} {tick : Int} {xs : List D} (h : ¬ (xs.length : Int) = 4) : isAskD ks tick (.tup xs) = false := by
  unfold isAskD
  split
  · rename_i e
    cases e
    exact absurd rfl h
  · rfl
theorem four {xs : List D} (h : (xs.length : Int) = 4) : ∃ a b e f, xs = [a, b, e, f] := by
  match xs, h with
  | [a, b, e, f], _ => exact ⟨a, b, e, f, rfl⟩
  | [], h => exact absurd h (by decide)
  | [_], h => simp only [List.length_cons, List.length_nil] at h; omega
  | [_, _], h => simp only [List.length_cons, List.length_nil] at h; omega
  | [_, _, _], h => simp only [List.length_cons, List.length_nil] at h; omega
  | _ :: _ :: _ :: _ :: _ :: r, h => simp only [List.length_cons] at h; omega
theorem isAsk_nstr {ks : List KindR} {tick : Int} {a b e f : D} (h : ∀ s, b ≠ .str s) : isAskD ks tick (.tup [a, b, e, f]) = false := by
  cases b with
  | str s => exact absurd rfl (h s)
  | _ => rfl
theorem isAsk_str {ks : List KindR} {tick : Int} {a e f : D} {s : Str} : isAskD ks tick (.tup [a, .str s, e, f]) = (isNumD a 0 1000000000000000000 && isNumD e 0 1000000000000000000 && decide (s ∈ ks.map KindR.name) && isNumD f tick (tick + 1000)) := rfl
theorem cut4_2 {a b c d : D} : cutD [a, b, c, d] (some 2) none = [c, d] := rfl
theorem isAsk_bad {ks : List KindR} {tick : Int} {a b e f : D} (h : (isNumD a 0 1000000000000000000 && isNumD e 0 1000000000000000000) = false) : isAskD ks tick (.tup [a, b, e, f]) = false := by
  cases b with
  | str s => rw [isAsk_str, h]; rfl
  | _ => rfl
theorem name_some {ks : List KindR} {s : Str} {k : KindR} (h : ks.find? (fun k => decide (k.name = s)) = some k) : s ∈ ks.map KindR.name := by
  have h1 := List.find?_some h
  have h2 := List.mem_of_find?_eq_some h
  exact List.mem_map.mpr ⟨k, h2, of_decide_eq_true h1⟩
theorem name_none {ks : List KindR} {s : Str} (h : ks.find? (fun k => decide (k.name = s)) = none) : s ∉ ks.map KindR.name := fun q => by
  obtain ⟨k, hk, e⟩ := List.mem_map.mp q
  have := List.find?_eq_none.mp h k hk
  exact this (decide_eq_true e)
theorem at_last {ks : List KindR} (h : 1 ≤ ks.length) : ∃ k ∈ ks, atI (ks.map KindR.d) (-1) = some k.d := by
  have e : ixN (ks.map KindR.d).length (-1) = some (ks.length - 1) := by
    unfold ixN
    rw [List.length_map, if_neg (by decide), if_pos (by omega)]
    congr 1
    omega
  refine ⟨ks[ks.length - 1], List.getElem_mem _, ?_⟩
  unfold atI
  rw [e]
  show (ks.map KindR.d)[ks.length - 1]? = _
  rw [List.getElem?_map, List.getElem?_eq_getElem (by omega)]; rfl
theorem at_first {ks : List KindR} (h : 1 ≤ ks.length) : ∃ k ∈ ks, atI (ks.map KindR.d) 0 = some k.d :=
  ⟨ks[0], List.getElem_mem _, atI_nat (j := 0) (by simp [show 0 < ks.length by omega])⟩
end DL

namespace DL
open PySem L2 PySem.Spec PyProof.Rows
/-! ### opening a hidden object: its cells are shown, its own hidden objects stand beside the others -/
def join (V g : Dh) : Dh := fun a => match g a with
  | some o => some o
  | none => V a
def hjoin (N hs : Addr → Option HD) : Addr → Option HD := fun k => match hs k with
  | some φ => some φ
  | none => N k
def hdel (N : Addr → Option HD) (p : Addr) : Addr → Option HD := fun k => if k = p then none else N k
def Dis (V g : Dh) : Prop := ∀ a, g a ≠ none → V a = none
section
variable {V g : Dh} {a b : Addr} {o u : DO} {N hs : Addr → Option HD} {p : Addr} {φ : HD}
theorem join_some (e : g a = some o) : join V g a = some o := by unfold join; rw [e]
theorem join_none (e : g a = none) : join V g a = V a := by unfold join; rw [e]
theorem join_old (d : Dis V g) (e : V a = some o) : join V g a = some o := by
  cases q : g a with
  | none => rw [join_none q, e]
  | some z => rw [d a (by rw [q]; simp)] at e; cases e
theorem join_free : join V g a = none ↔ g a = none ∧ V a = none := by
  unfold join
  cases g a with
  | none => simp
  | some z => simp
theorem dput_join : dput (join V g) a o = join V (dput g a o) := by
  funext b
  by_cases q : b = a
  · subst q; rw [dput_same, join_some dput_same]
  · rw [dput_ne q]; unfold join; rw [dput_ne q]
theorem dput_joinV (d : g a = none) : dput (join V g) a o = join (dput V a o) g := by
  funext b
  by_cases q : b = a
  · subst q; rw [dput_same, join_none d, dput_same]
  · rw [dput_ne q]; unfold join; rw [dput_ne q]
theorem Dis.put (d : Dis V g) (e : V a = none) : Dis V (dput g a o) := fun b h => by
  by_cases q : b = a
  · subst q; exact e
  · rw [dput_ne q] at h; exact d b h
theorem Dis.putV (d : Dis V g) (e : g a = none) : Dis (dput V a o) g := fun b h => by
  by_cases q : b = a
  · subst q; exact absurd e h
  · rw [dput_ne q]; exact d b h
theorem Dis.own (d : Dis V g) (e : g a = some o) : V a = none := d a (by rw [e]; simp)
theorem hdel_same : hdel N p p = none := if_pos rfl
theorem hdel_ne (n : a ≠ p) : hdel N p a = N a := if_neg n
theorem hset_hdel : hset (hdel N p) p φ = hset N p φ := by
  funext b
  by_cases q : b = p
  · subst q; rw [hset_same, hset_same]
  · rw [hset_ne q, hset_ne q, hdel_ne q]
theorem hjoin_no : hjoin N noHid = N := by funext k; rfl
theorem hjoin_some (e : hs a = some φ) : hjoin N hs a = some φ := by unfold hjoin; rw [e]
theorem hjoin_none (e : hs a = none) : hjoin N hs a = N a := by unfold hjoin; rw [e]
theorem hset_hjoin {ψ : HD} : hset (hjoin N hs) a ψ = hjoin N (hset hs a ψ) := by
  funext b
  by_cases q : b = a
  · subst q; rw [hset_same, hjoin_some hset_same]
  · rw [hset_ne q]; unfold hjoin; rw [hset_ne q]
end
/-- the cells g of an object: its own ones, and those of the objects that it hides -/
structure Grp (own : Dh) (hs : Addr → Option HD) (g : Dh) (Q : Addr → Dh) : Prop where
  up : ∀ a o, g a = some o ↔ own a = some o ∨ ∃ k, Q k a = some o
  hid : ∀ k φ, hs k = some φ → φ.sem k (Q k)
  non : ∀ k, hs k = none → ∀ a, Q k a = none
  held : ∀ k φ, hs k = some φ → Q k k ≠ none
  sep1 : ∀ k a, Q k a ≠ none → own a = none
  sep2 : ∀ k j a, Q k a ≠ none → Q j a ≠ none → k = j
theorem Grp.self {g : Dh} : Grp g noHid g noP :=
  ⟨fun a o => ⟨.inl, fun h => by rcases h with h | ⟨_, h⟩; exact h; cases h⟩, fun _ _ e => (by cases e), fun _ _ _ => rfl, fun _ _ e => (by cases e), fun _ _ h => absurd rfl h, fun _ _ _ h => absurd rfl h⟩
theorem Grp.only {g own : Dh} {Q : Addr → Dh} (s : Grp own noHid g Q) : g = own := by
  funext a
  cases e : own a with
  | some o => exact (s.up a o).mpr (.inl e)
  | none =>
    cases e2 : g a with
    | none => rfl
    | some o =>
      rcases (s.up a o).mp e2 with h | ⟨k, h⟩
      · rw [e] at h; cases h
      · rw [s.non k rfl a] at h; cases h
section
variable {K : PySem.W.Frag} {W : Wd} {P : Addr → Dh} {H : Hp} {p : Addr} {φ : HD} {own : Dh} {hs : Addr → Option HD} {Q : Addr → Dh}
def opP (P : Addr → Dh) (p : Addr) (hs : Addr → Option HD) (Q : Addr → Dh) : Addr → Dh := fun k => if (hs k).isSome then Q k else if k = p then fun _ => none else P k
def opW (W : Wd) (p : Addr) (own : Dh) (hs : Addr → Option HD) : Wd := ⟨join W.hp own, hjoin (hdel W.hid p) hs⟩
theorem Grp.in_ {g : Dh} (s : Grp own hs g Q) {k : Addr} {a : Addr} (h : Q k a ≠ none) : g a ≠ none := by
  cases e : Q k a with
  | none => exact absurd e h
  | some o => rw [(s.up a o).mpr (.inr ⟨k, e⟩)]; simp
theorem Grp.in0 {g : Dh} (s : Grp own hs g Q) {a : Addr} (h : own a ≠ none) : g a ≠ none := by
  cases e : own a with
  | none => exact absurd e h
  | some o => rw [(s.up a o).mpr (.inl e)]; simp
theorem Grp.out {g : Dh} (s : Grp own hs g Q) {a : Addr} (h : g a ≠ none) : own a ≠ none ∨ ∃ k, (hs k).isSome = true ∧ Q k a ≠ none := by
  cases e : g a with
  | none => exact absurd e h
  | some o =>
    rcases (s.up a o).mp e with h | ⟨k, h⟩
    · exact .inl (by rw [h]; simp)
    · refine .inr ⟨k, ?_, by rw [h]; simp⟩
      cases q : hs k with
      | some _ => rfl
      | none => rw [s.non k q a] at h; cases h
theorem op_foot (rw : RepW K W P H) (hp : W.hid p = some φ) (s : Grp own hs (P p) Q) (a : Addr) : foot (opW W p own hs) (opP P p hs Q) a ↔ foot W P a := by
  constructor
  · rintro (h | ⟨k, h⟩)
    · cases e : own a with
      | some o => exact .inr ⟨p, s.in0 (by rw [e]; simp)⟩
      | none => exact .inl (by rwa [show (opW W p own hs).hp a = W.hp a from join_none e] at h)
    · unfold opP at h
      split at h
      · exact .inr ⟨p, s.in_ h⟩
      · split at h
        · exact absurd rfl h
        · exact .inr ⟨k, h⟩
  · rintro (h | ⟨k, h⟩)
    · refine .inl ?_
      cases e : own a with
      | some o => rw [show (opW W p own hs).hp a = some o from join_some e]; simp
      | none => rw [show (opW W p own hs).hp a = W.hp a from join_none e]; exact h
    · by_cases q : k = p
      · subst q
        rcases s.out h with h | ⟨j, hj, h⟩
        · refine .inl ?_
          cases e : own a with
          | some o => rw [show (opW W k own hs).hp a = some o from join_some e]; simp
          | none => exact absurd e h
        · exact .inr ⟨j, by unfold opP; rw [if_pos hj]; exact h⟩
      · refine .inr ⟨k, ?_⟩
        unfold opP
        split
        · rename_i hk
          cases e : hs k with
          | none => rw [e] at hk; cases hk
          | some ψ =>
            exfalso
            have h1 := s.in_ (s.held k ψ e)
            cases e2 : W.hid k with
            | none => exact h (rw.non k e2 a)
            | some χ => exact q (rw.sep2 k p k (rw.own k χ e2) h1)
        · first | exact h | (rw [if_neg q]; exact h)
theorem op_rep (rw : RepW K W P H) (hp : W.hid p = some φ) (s : Grp own hs (P p) Q) (hown : own p ≠ none) : RepW K (opW W p own hs) (opP P p hs Q) H := by
  have hsp : hs p = none := by
    cases e : hs p with
    | none => rfl
    | some ψ => exact absurd (s.sep1 p p (s.held p ψ e)) hown
  have cs : ∀ k, ((hs k).isSome = true ∧ opP P p hs Q k = Q k) ∨ (hs k = none ∧ k = p ∧ opP P p hs Q k = fun _ => none) ∨ (hs k = none ∧ k ≠ p ∧ opP P p hs Q k = P k) := fun k => by
    unfold opP
    cases e : hs k with
    | some ψ => exact .inl ⟨rfl, rfl⟩
    | none =>
      by_cases q : k = p
      · exact .inr (.inl ⟨rfl, q, by simp [q]⟩)
      · exact .inr (.inr ⟨rfl, q, by simp [q]⟩)
  refine ⟨fun a o e => ?_, fun k a o e => ?_, fun k ψ e => ?_, fun k e a => ?_, fun k ψ e => ?_, fun k a h => ?_, fun k j a h h2 => ?_⟩
  · cases q : own a with
    | some z =>
      rw [show (opW W p own hs).hp a = some z from join_some q] at e
      cases e
      exact rw.prv p a o ((s.up a o).mpr (.inl q))
    | none => exact rw.vis a o (by rwa [show (opW W p own hs).hp a = W.hp a from join_none q] at e)
  · rcases cs k with ⟨_, q⟩ | ⟨_, _, q⟩ | ⟨_, _, q⟩
    · rw [q] at e; exact rw.prv p a o ((s.up a o).mpr (.inr ⟨k, e⟩))
    · rw [q] at e; cases e
    · rw [q] at e; exact rw.prv k a o e
  · rcases cs k with ⟨q1, q⟩ | ⟨q1, q2, q⟩ | ⟨q1, q2, q⟩
    · cases e2 : hs k with
      | none => rw [e2] at q1; cases q1
      | some χ =>
        rw [show (opW W p own hs).hid k = some χ from hjoin_some e2] at e
        cases e
        rw [q]; exact s.hid k _ e2
    · rw [show (opW W p own hs).hid k = hdel W.hid p k from hjoin_none q1, q2, hdel_same] at e
      cases e
    · rw [show (opW W p own hs).hid k = hdel W.hid p k from hjoin_none q1, hdel_ne q2] at e
      rw [q]; exact rw.hid k ψ e
  · rcases cs k with ⟨q1, q⟩ | ⟨q1, q2, q⟩ | ⟨q1, q2, q⟩
    · cases e2 : hs k with
      | none => rw [e2] at q1; cases q1
      | some χ =>
        rw [show (opW W p own hs).hid k = some χ from hjoin_some e2] at e
        cases e
    · rw [q]
    · rw [show (opW W p own hs).hid k = hdel W.hid p k from hjoin_none q1, hdel_ne q2] at e
      rw [q]; exact rw.non k e a
  · rcases cs k with ⟨q1, q⟩ | ⟨q1, q2, q⟩ | ⟨q1, q2, q⟩
    · cases e2 : hs k with
      | none => rw [e2] at q1; cases q1
      | some χ => rw [q]; exact s.held k χ e2
    · rw [show (opW W p own hs).hid k = hdel W.hid p k from hjoin_none q1, q2, hdel_same] at e
      cases e
    · rw [show (opW W p own hs).hid k = hdel W.hid p k from hjoin_none q1, hdel_ne q2] at e
      rw [q]; exact rw.own k ψ e
  · refine join_free.mpr ?_
    rcases cs k with ⟨q1, q⟩ | ⟨q1, q2, q⟩ | ⟨q1, q2, q⟩
    · rw [q] at h; exact ⟨s.sep1 k a h, rw.sep1 p a (s.in_ h)⟩
    · rw [q] at h; exact absurd rfl h
    · rw [q] at h
      refine ⟨?_, rw.sep1 k a h⟩
      cases e : own a with
      | none => rfl
      | some o => exact absurd (rw.sep2 k p a h (s.in0 (by rw [e]; simp))) q2
  · rcases cs k with ⟨q1, q⟩ | ⟨q1, q2, q⟩ | ⟨q1, q2, q⟩ <;> rcases cs j with ⟨z1, z⟩ | ⟨z1, z2, z⟩ | ⟨z1, z2, z⟩ <;> rw [q] at h <;> rw [z] at h2
    · exact s.sep2 k j a h h2
    · exact absurd rfl h2
    · exact absurd (rw.sep2 j p a h2 (s.in_ h)) z2
    · exact absurd rfl h
    · exact absurd rfl h
    · exact absurd rfl h
    · exact absurd (rw.sep2 k p a h (s.in_ h2)) q2
    · exact absurd rfl h2
    · exact rw.sep2 k j a h h2
/-- what is asked of a world that is to be closed -/
structure Shut (W' : Wd) (p : Addr) (V : Dh) (own : Dh) (N hs : Addr → Option HD) (ψ : HD) : Prop where
  eq : W' = ⟨join V own, hjoin N hs⟩
  dis : Dis V own
  ownp : own p ≠ none
  free : ∀ k, hs k ≠ none → N k = none
  np : N p = none
  sem : ∀ g Q, Grp own hs g Q → ψ.sem p g
open Classical in
noncomputable def clG (own : Dh) (hs : Addr → Option HD) (P : Addr → Dh) : Dh := fun a => match own a with
  | some o => some o
  | none => if h : ∃ k, (hs k).isSome = true ∧ P k a ≠ none then P h.choose a else none
noncomputable def clP (own : Dh) (p : Addr) (hs : Addr → Option HD) (P : Addr → Dh) : Addr → Dh := fun k => if k = p then clG own hs P else if (hs k).isSome then fun _ => none else P k
def clQ (hs : Addr → Option HD) (P : Addr → Dh) : Addr → Dh := fun k => if (hs k).isSome then P k else fun _ => none
theorem cl_some {V : Dh} {N : Addr → Option HD} (rw : RepW K ⟨join V own, hjoin N hs⟩ P H) {k a : Addr} {o : DO} (hk : (hs k).isSome = true) (h : P k a = some o) : clG own hs P a = some o := by
  have h0 : P k a ≠ none := by rw [h]; simp
  have e : own a = none := (join_free.mp (rw.sep1 k a h0)).1
  have hx : ∃ k, (hs k).isSome = true ∧ P k a ≠ none := ⟨k, hk, h0⟩
  unfold clG
  rw [e]
  refine (dif_pos hx).trans ?_
  have := rw.sep2 _ k a hx.choose_spec.2 h0
  rw [this]; exact h
theorem cl_inv {a : Addr} (h : clG own hs P a ≠ none) : own a ≠ none ∨ ∃ k, (hs k).isSome = true ∧ P k a ≠ none := by
  unfold clG at h
  cases e : own a with
  | some o => exact .inl (by simp)
  | none =>
    rw [e] at h
    by_cases hx : ∃ k, (hs k).isSome = true ∧ P k a ≠ none
    · exact .inr hx
    · exact absurd (dif_neg hx) h
theorem cl_own {a : Addr} {o : DO} (h : own a = some o) : clG own hs P a = some o := by unfold clG; rw [h]
theorem cl_grp {V : Dh} {N : Addr → Option HD} (rw : RepW K ⟨join V own, hjoin N hs⟩ P H) : Grp own hs (clG own hs P) (clQ hs P) := by
  have cs : ∀ k, ((hs k).isSome = true ∧ clQ hs P k = P k) ∨ (hs k = none ∧ clQ hs P k = fun _ => none) := fun k => by
    unfold clQ
    cases e : hs k with
    | some _ => exact .inl ⟨rfl, rfl⟩
    | none => exact .inr ⟨rfl, rfl⟩
  refine ⟨fun a o => ⟨fun h => ?_, fun h => ?_⟩, fun k ψ e => ?_, fun k e a => ?_, fun k ψ e => ?_, fun k a h => ?_, fun k j a h h2 => ?_⟩
  · rcases cl_inv (by rw [h]; simp) with q | ⟨k, hk, q⟩
    · cases e : own a with
      | none => exact absurd e q
      | some z => rw [cl_own e] at h; exact .inl h
    · refine .inr ⟨k, ?_⟩
      cases e : P k a with
      | none => exact absurd e q
      | some z =>
        rw [cl_some rw hk e] at h
        rcases cs k with ⟨_, z⟩ | ⟨z, _⟩
        · rw [z, e]; exact h
        · rw [z] at hk; cases hk
  · rcases h with h | ⟨k, h⟩
    · exact cl_own h
    · rcases cs k with ⟨hk, z⟩ | ⟨_, z⟩
      · rw [z] at h; exact cl_some rw hk h
      · rw [z] at h; cases h
  · rcases cs k with ⟨hk, z⟩ | ⟨z, _⟩
    · rw [z]; exact rw.hid k ψ (hjoin_some e)
    · rw [z] at e; cases e
  · rcases cs k with ⟨hk, z⟩ | ⟨_, z⟩
    · rw [e] at hk; cases hk
    · rw [z]
  · rcases cs k with ⟨hk, z⟩ | ⟨z, _⟩
    · rw [z]; exact rw.own k ψ (hjoin_some e)
    · rw [z] at e; cases e
  · rcases cs k with ⟨hk, z⟩ | ⟨_, z⟩
    · rw [z] at h; exact (join_free.mp (rw.sep1 k a h)).1
    · rw [z] at h; exact absurd rfl h
  · rcases cs k with ⟨hk, z⟩ | ⟨_, z⟩
    · rcases cs j with ⟨hj, y⟩ | ⟨_, y⟩
      · rw [z] at h; rw [y] at h2; exact rw.sep2 k j a h h2
      · rw [y] at h2; exact absurd rfl h2
    · rw [z] at h; exact absurd rfl h
theorem cl_rep {W' : Wd} {V : Dh} {N : Addr → Option HD} {ψ : HD} (s : Shut W' p V own N hs ψ) (rw : RepW K W' P H) : RepW K ⟨V, hset N p ψ⟩ (clP own p hs P) H ∧ ∀ a, foot ⟨V, hset N p ψ⟩ (clP own p hs P) a ↔ foot W' P a := by
  obtain ⟨rfl, dis, hown, free, np, sem⟩ := s
  have hsp : hs p = none := by
    cases e : hs p with
    | none => rfl
    | some χ => exact absurd (join_free.mp (rw.sep1 p p (rw.own p χ (hjoin_some e)))).1 hown
  have hPp : ∀ a, P p a = none := rw.non p (by show hjoin N hs p = none; rw [hjoin_none hsp]; exact np)
  have cs : ∀ k, (k = p ∧ clP own p hs P k = clG own hs P) ∨ (k ≠ p ∧ (hs k).isSome = true ∧ clP own p hs P k = fun _ => none) ∨ (k ≠ p ∧ hs k = none ∧ clP own p hs P k = P k) := fun k => by
    unfold clP
    by_cases q : k = p
    · exact .inl ⟨q, if_pos q⟩
    · rw [if_neg q]
      cases e : hs k with
      | some _ => exact .inr (.inl ⟨q, rfl, rfl⟩)
      | none => exact .inr (.inr ⟨q, rfl, rfl⟩)
  have gi : ∀ a, clG own hs P a ≠ none → V a = none := fun a h => by
    rcases cl_inv h with h | ⟨k, _, h⟩
    · exact dis a h
    · exact (join_free.mp (rw.sep1 k a h)).2
  have gn : ∀ k a, k ≠ p → hs k = none → P k a ≠ none → clG own hs P a = none := fun k a hk hk2 h => by
    cases e : clG own hs P a with
    | none => rfl
    | some o =>
      exfalso
      rcases cl_inv (by rw [e]; simp) with q | ⟨j, hj, q⟩
      · exact q (join_free.mp (rw.sep1 k a h)).1
      · have := rw.sep2 k j a h q
        subst this
        rw [hk2] at hj; cases hj
  refine ⟨⟨fun a o e => ?_, fun k a o e => ?_, fun k χ (e : hset N p ψ k = some χ) => ?_, fun k (e : hset N p ψ k = none) a => ?_, fun k χ (e : hset N p ψ k = some χ) => ?_, fun k a h => ?_, fun k j a h h2 => ?_⟩, fun a => ⟨fun h => ?_, fun h => ?_⟩⟩
  · exact rw.vis a o (join_old dis e)
  · rcases cs k with ⟨rfl, q⟩ | ⟨_, _, q⟩ | ⟨_, _, q⟩
    · rw [q] at e
      rcases cl_inv (by rw [e]; simp) with h | ⟨j, hj, h⟩
      · cases e2 : own a with
        | none => exact absurd e2 h
        | some z => rw [cl_own e2] at e; exact rw.vis a o (join_some (by rw [e2]; exact e))
      · cases e2 : P j a with
        | none => exact absurd e2 h
        | some z => rw [cl_some rw hj e2] at e; exact rw.prv j a o (by rw [e2]; exact e)
    · rw [q] at e; cases e
    · rw [q] at e; exact rw.prv k a o e
  · rcases cs k with ⟨rfl, q⟩ | ⟨q0, q1, q⟩ | ⟨q0, q1, q⟩
    · rw [show hset N k ψ k = some ψ from hset_same] at e
      cases e
      rw [q]; exact sem _ _ (cl_grp rw)
    · cases e2 : hs k with
      | none => rw [e2] at q1; cases q1
      | some z =>
        rw [show hset N p ψ k = N k from hset_ne q0, free k (by rw [e2]; simp)] at e
        cases e
    · rw [show hset N p ψ k = N k from hset_ne q0] at e
      rw [q]; exact rw.hid k χ (by show hjoin N hs k = _; rw [hjoin_none q1]; exact e)
  · rcases cs k with ⟨rfl, q⟩ | ⟨q0, q1, q⟩ | ⟨q0, q1, q⟩
    · rw [show hset N k ψ k = some ψ from hset_same] at e; cases e
    · rw [q]
    · rw [show hset N p ψ k = N k from hset_ne q0] at e
      rw [q]; exact rw.non k (by show hjoin N hs k = _; rw [hjoin_none q1]; exact e) a
  · rcases cs k with ⟨rfl, q⟩ | ⟨q0, q1, q⟩ | ⟨q0, q1, q⟩
    · rw [q]
      cases e2 : own k with
      | none => exact absurd e2 hown
      | some z => rw [cl_own e2]; simp
    · cases e2 : hs k with
      | none => rw [e2] at q1; cases q1
      | some z =>
        rw [show hset N p ψ k = N k from hset_ne q0, free k (by rw [e2]; simp)] at e
        cases e
    · rw [show hset N p ψ k = N k from hset_ne q0] at e
      rw [q]; exact rw.own k χ (by show hjoin N hs k = _; rw [hjoin_none q1]; exact e)
  · rcases cs k with ⟨rfl, q⟩ | ⟨_, _, q⟩ | ⟨_, _, q⟩
    · rw [q] at h; exact gi a h
    · rw [q] at h; exact absurd rfl h
    · rw [q] at h; exact (join_free.mp (rw.sep1 k a h)).2
  · rcases cs k with ⟨q0, q⟩ | ⟨_, _, q⟩ | ⟨q0, q1, q⟩ <;> rcases cs j with ⟨z0, z⟩ | ⟨_, _, z⟩ | ⟨z0, z1, z⟩ <;> rw [q] at h <;> rw [z] at h2
    · rw [q0, z0]
    · exact absurd rfl h2
    · exact absurd (gn j a z0 z1 h2) h
    · exact absurd rfl h
    · exact absurd rfl h
    · exact absurd rfl h
    · exact absurd (gn k a q0 q1 h) h2
    · exact absurd rfl h2
    · exact rw.sep2 k j a h h2
  · rcases h with h | ⟨k, h⟩
    · refine .inl ?_
      cases e : V a with
      | none => exact absurd e h
      | some o => show join V own a ≠ none; rw [join_old dis e]; simp
    · rcases cs k with ⟨rfl, q⟩ | ⟨_, _, q⟩ | ⟨_, _, q⟩
      · rw [q] at h
        rcases cl_inv h with h | ⟨j, hj, h⟩
        · refine .inl ?_
          cases e : own a with
          | none => exact absurd e h
          | some o => show join V own a ≠ none; rw [join_some e]; simp
        · exact .inr ⟨j, h⟩
      · rw [q] at h; exact absurd rfl h
      · rw [q] at h; exact .inr ⟨k, h⟩
  · rcases h with h | ⟨k, h⟩
    · cases e : own a with
      | none => exact .inl (by have h : join V own a ≠ none := h; rwa [join_none e] at h)
      | some o =>
        refine .inr ⟨p, ?_⟩
        rcases cs p with ⟨_, q⟩ | ⟨q0, _⟩ | ⟨q0, _⟩
        · rw [q, cl_own e]; simp
        · exact absurd rfl q0
        · exact absurd rfl q0
    · by_cases hkp : k = p
      · subst hkp; exact absurd (hPp a) h
      · cases e : hs k with
        | none =>
          refine .inr ⟨k, ?_⟩
          rcases cs k with ⟨q0, q⟩ | ⟨_, q1, q⟩ | ⟨_, q1, q⟩
          · exact absurd q0 hkp
          · rw [e] at q1; cases q1
          · rw [q]; exact h
        | some z =>
          refine .inr ⟨p, ?_⟩
          rcases cs p with ⟨_, q⟩ | ⟨q0, _⟩ | ⟨q0, _⟩
          · rw [q]
            cases e3 : P k a with
            | none => exact absurd e3 h
            | some o => rw [cl_some rw (by rw [e]; rfl) e3]; simp
          · exact absurd rfl q0
          · exact absurd rfl q0
/-- THE FRAME, opened -/
theorem opened {small : DSp} {ds : List D} {q : DK} {Ed : XDf} {vs : List V} {Qv : VK} {E : XK}
    (r : repVs K H ds vs) (rw : RepW K W P H) (k1 : Arr K W P H q Qv) (k2 : ArrX K W P H Ed E) (hp : W.hid p = some φ)
    (h : ∀ g, φ.sem p g → Dis W.hp g → g p ≠ none → ∃ own hs Q, Grp own hs g Q ∧ own p ≠ none ∧ small ds (opW W p own hs) (fun d W' => ∃ V own hs N ψ, Shut W' p V own N hs ψ ∧ q d ⟨V, hset N p ψ⟩) (fun c dx W' => ∃ V own hs N ψ, Shut W' p V own N hs ψ ∧ Ed c dx ⟨V, hset N p ψ⟩)) : upSp K small vs H Qv E := by
  obtain ⟨own, hs, Q, s, hown, hh⟩ := h (P p) (rw.hid p φ hp) (fun a ha => rw.sep1 p a ha) (rw.own p φ hp)
  have ft := op_foot rw hp s
  refine ⟨ds, opW W p own hs, opP P p hs Q, _, _, r, op_rep rw hp s hown, hh, fun d W' P' v H' st r' rw' ⟨V, own', hs', N, ψ, sh, hq⟩ => ?_, fun c dx W' P' H' st rw' ⟨V, own', hs', N, ψ, sh, hq⟩ => ?_⟩
  · obtain ⟨r2, f2⟩ := cl_rep sh rw'
    exact k1 d _ _ v H' ⟨st.tup, fun a o e n => st.keep a o e fun g => n ((ft a).mp g), fun a f => (st.grow a ((f2 a).mp f)).imp (ft a).mp id, st.stay⟩ r' r2 hq
  · obtain ⟨r2, f2⟩ := cl_rep sh rw'
    exact k2 c dx _ _ H' ⟨st.tup, fun a o e n => st.keep a o e fun g => n ((ft a).mp g), fun a f => (st.grow a ((f2 a).mp f)).imp (ft a).mp id, st.stay⟩ r2 hq
/-- the same where nothing is hidden within -/
def jw (V g : Dh) (N : Addr → Option HD) : Wd := ⟨join V g, N⟩
theorem openedS {small : DSp} {ds : List D} {q : DK} {Ed : XDf} {vs : List V} {Qv : VK} {E : XK}
    (r : repVs K H ds vs) (rw : RepW K W P H) (k1 : Arr K W P H q Qv) (k2 : ArrX K W P H Ed E) (hp : W.hid p = some φ)
    (h : ∀ g, φ.sem p g → Dis W.hp g → small ds (jw W.hp g (hdel W.hid p)) (fun d W' => ∃ V g' ψ, W' = jw V g' (hdel W.hid p) ∧ Dis V g' ∧ ψ.sem p g' ∧ g' p ≠ none ∧ q d ⟨V, hset W.hid p ψ⟩) (fun c dx W' => ∃ V g' ψ, W' = jw V g' (hdel W.hid p) ∧ Dis V g' ∧ ψ.sem p g' ∧ g' p ≠ none ∧ Ed c dx ⟨V, hset W.hid p ψ⟩)) : upSp K small vs H Qv E := by
  have s : Grp (P p) noHid (P p) noP := .self
  have hw : opW W p (P p) noHid = jw W.hp (P p) (hdel W.hid p) := by unfold opW jw; rw [hjoin_no]
  have ft := op_foot rw hp s
  have sh : ∀ {W' V g'} {ψ : HD}, W' = jw V g' (hdel W.hid p) → Dis V g' → ψ.sem p g' → g' p ≠ none → Shut W' p V g' (hdel W.hid p) noHid ψ := fun e d1 d2 d3 => ⟨by rw [e, hjoin_no]; rfl, d1, d3, fun _ h => absurd rfl h, hdel_same, fun g2 Q2 s2 => by rw [s2.only]; exact d2⟩
  have hh := h (P p) (rw.hid p φ hp) (fun a ha => rw.sep1 p a ha)
  rw [← hw] at hh
  refine ⟨ds, opW W p (P p) noHid, opP P p noHid noP, _, _, r, op_rep rw hp s (rw.own p φ hp), hh, fun d W' P' v H' st r' rw' ⟨V, g', ψ, e, d1, d2, d3, hq⟩ => ?_, fun c dx W' P' H' st rw' ⟨V, g', ψ, e, d1, d2, d3, hq⟩ => ?_⟩
  · obtain ⟨r2, f2⟩ := cl_rep (sh e d1 d2 d3) rw'
    rw [hset_hdel] at r2 f2
    exact k1 d _ _ v H' ⟨st.tup, fun a o e n => st.keep a o e fun g => n ((ft a).mp g), fun a f => (st.grow a ((f2 a).mp f)).imp (ft a).mp id, st.stay⟩ r' r2 hq
  · obtain ⟨r2, f2⟩ := cl_rep (sh e d1 d2 d3) rw'
    rw [hset_hdel] at r2 f2
    exact k2 c dx _ _ H' ⟨st.tup, fun a o e n => st.keep a o e fun g => n ((ft a).mp g), fun a f => (st.grow a ((f2 a).mp f)).imp (ft a).mp id, st.stay⟩ r2 hq
end
end DL

namespace DL
open PySem L2 PySem.Spec PyProof.Rows
theorem jw_put {V h : Dh} {N : Addr → Option HD} {a : Addr} {o : DO} : (jw V h N).put a o = jw V (dput h a o) N := by
  unfold jw Wd.put
  rw [dput_join]
theorem jw_hp {V h : Dh} {N : Addr → Option HD} : (jw V h N).hp = join V h := rfl
theorem jw_hid {V h : Dh} {N : Addr → Option HD} : (jw V h N).hid = N := rfl
theorem jw_show {V h : Dh} {N : Addr → Option HD} {a : Addr} {o : DO} (e : h a = none) : jw V (dput h a o) N = jw (dput V a o) h N := by
  unfold jw
  rw [← dput_join, dput_joinV e]
/-! ### Flights plainly -/
structure GrR where
  kind : KindR
  keys : List Int
  tick : Int
structure AgR where
  kind : KindR
  keys : List Int
  nat : Option Int
def natD : Option Int → D
  | none => .non
  | some i => .int i
def keysD (ks : List Int) : D := .tup (ks.map D.int)
def grO (CG : Addr) (g : GrR) : DO := .ins CG [("kind", g.kind.d), ("row", keysD g.keys), ("tick", .int g.tick)]
def agO (CA : Addr) (l : AgR) : DO := .ins CA [("kind", l.kind.d), ("row", keysD l.keys), ("not_at", natD l.nat)]
abbrev Cnt := List ((Str × Int) × Int)
def cKey (k : Str × Int) : List Key := [.inr k.1, .inl k.2]
def cKV (c : Cnt) : List (List Key × D) := c.map fun e => (cKey e.1, .int e.2)
def getC (c : Cnt) (k : Str × Int) : Option Int := (c.find? fun e => decide (e.1 = k)).map (·.2)
def setC (c : Cnt) (k : Str × Int) (v : Int) : Cnt := if c.any (fun e => decide (e.1 = k)) then c.map (fun e => if e.1 = k then (e.1, v) else e) else c ++ [(k, v)]
theorem cKey_inj {a b : Str × Int} (h : cKey a = cKey b) : a = b := by
  unfold cKey at h
  obtain ⟨h1, h2⟩ := List.cons.inj h
  obtain ⟨h2, _⟩ := List.cons.inj h2
  exact Prod.ext (Sum.inr.inj h1) (Sum.inl.inj h2)
theorem cKey_dec {a b : Str × Int} : decide (cKey a = cKey b) = decide (a = b) := by
  by_cases h : a = b
  · subst h; rw [decide_eq_true rfl, decide_eq_true rfl]
  · rw [decide_eq_false h, decide_eq_false fun e => h (cKey_inj e)]
theorem val_cKV {c : Cnt} {k : Str × Int} : valD (cKV c) (cKey k) = (getC c k).map D.int := by
  unfold valD cKV getC
  rw [List.find?_map, Option.map_map, Option.map_map]
  congr 1
  congr 1
  funext e
  exact cKey_dec
theorem set_cKV {c : Cnt} {k : Str × Int} {v : Int} : setD (cKV c) (cKey k) (.int v) = cKV (setC c k v) := by
  unfold setD setC
  have h : ((cKV c).any fun kv => decide (kv.1 = cKey k)) = c.any (fun e => decide (e.1 = k)) := by
    unfold cKV
    rw [List.any_map]
    congr 1
    funext e
    exact cKey_dec
  rw [h]
  split
  · unfold cKV
    rw [List.map_map, List.map_map]
    apply List.map_congr_left
    intro e _
    show (if cKey e.1 = cKey k then _ else _) = _
    by_cases q : e.1 = k
    · rw [if_pos (by rw [q])]
      simp only [Function.comp, if_pos q]
    · rw [if_neg fun z => q (cKey_inj z)]
      simp only [Function.comp, if_neg q]
  · unfold cKV; rw [List.map_append]; rfl
theorem get_set {c : Cnt} {k j : Str × Int} {v : Int} : getC (setC c k v) j = if k = j then some v else getC c j := by
  unfold getC setC
  split
  · rename_i ha
    rw [List.find?_map, Option.map_map]
    have hf : ((fun e : (Str × Int) × Int => decide (e.1 = j)) ∘ fun e => if e.1 = k then (e.1, v) else e) = fun e => decide (e.1 = j) := by
      funext e
      simp only [Function.comp]
      split <;> rfl
    rw [hf]
    by_cases q : k = j
    · subst q
      rw [if_pos rfl]
      obtain ⟨e, he, h1⟩ := List.any_eq_true.mp ha
      cases hq : c.find? fun e => decide (e.1 = k) with
      | none => exact absurd (List.find?_eq_none.mp hq e he) (by simpa using h1)
      | some z =>
        have := List.find?_some hq
        simp only [Option.map_some, Function.comp]
        rw [if_pos (of_decide_eq_true this)]
    · rw [if_neg q]
      cases hq : c.find? fun e => decide (e.1 = j) with
      | none => rfl
      | some z =>
        have h1 := List.find?_some hq
        have := of_decide_eq_true h1
        simp only [Option.map_some, Function.comp]
        rw [if_neg fun z => q (z.symm.trans this)]
  · rename_i ha
    rw [List.find?_append]
    by_cases q : k = j
    · subst q
      rw [if_pos rfl]
      have : c.find? (fun e => decide (e.1 = k)) = none := List.find?_eq_none.mpr fun e he h => ha (List.any_eq_true.mpr ⟨e, he, h⟩)
      rw [this]
      simp
    · rw [if_neg q, List.find?_cons, decide_eq_false (show ¬ (k, v).1 = j from q), List.find?_nil]
      simp
theorem setC_len {c : Cnt} {k : Str × Int} {v : Int} : (setC c k v).length ≤ c.length + 1 := by
  unfold setC
  split
  · rw [List.length_map]; omega
  · rw [List.length_append]; exact Nat.le_refl _
theorem cKV_len {c : Cnt} : (cKV c).length = c.length := by unfold cKV; rw [List.length_map]
def fltO (C : Addr) (room : Int) (g0 a0 t0 c0 : Addr) : DO := .ins C [("room", .int room), ("all_greats", .ref g0), ("away", .ref a0), ("to_hand", .ref t0), ("counts", .ref c0)]
structure FlA where
  room : Int
  gs : List GrR
  away : List Int
  ls : List AgR
  cnt : Cnt
structure FlR (C CG CA p : Addr) (A : FlA) (n : Nat) (h : Dh) (g0 a0 t0 c0 : Addr) (G : List (Addr × GrR)) (L : List (Addr × AgR)) : Prop where
  self : h p = some (fltO C A.room g0 a0 t0 c0)
  hg : h g0 = some (.lst (G.map fun x => .ref x.1))
  ha : h a0 = some (.lst (A.away.map D.int))
  ht : h t0 = some (.lst (L.map fun x => .ref x.1))
  hc : h c0 = some (.dT (cKV A.cnt))
  og : ∀ x ∈ G, h x.1 = some (grO CG x.2)
  ol : ∀ x ∈ L, h x.1 = some (agO CA x.2)
  eg : A.gs = G.map (·.2)
  el : A.ls = L.map (·.2)
  n1 : g0 ≠ a0
  n2 : g0 ≠ t0
  n3 : a0 ≠ t0
  aw : ∀ x ∈ A.away, 0 ≤ x ∧ x < (A.gs.length : Int)
  as_ : A.away.Pairwise (· < ·)
  sg : A.gs.length ≤ n
  sl : A.ls.length ≤ n
  sc : A.cnt.length ≤ n
def FlS (C CG CA : Addr) (A : FlA) (n : Nat) (p : Addr) (h : Dh) : Prop := ∃ g0 a0 t0 c0 G L, FlR C CG CA p A n h g0 a0 t0 c0 G L
def fltH (C CG CA : Addr) (A : FlA) (n : Nat) : HD := .obj C (FlS C CG CA A n) (fun p h ⟨_, _, _, _, _, _, r⟩ => ⟨_, r.self, fun f hf => (show ∀ s ∈ (["room", "all_greats", "away", "to_hand", "counts"] : List Str), s ∈ objNames by decide +kernel) _ (List.mem_map.mpr ⟨f, hf, rfl⟩)⟩)
theorem fltH_cls {C CG CA : Addr} {A : FlA} {n : Nat} : (fltH C CG CA A n).cls = some C := rfl
/-- what Flights come to -/
def FlA.new (room : Int) : FlA := ⟨room, [], [], [], []⟩
def FlA.over (A : FlA) (k : KindR) (keys : List Int) (tick : Int) : FlA := { A with gs := A.gs ++ [⟨k, keys, tick⟩], away := A.away ++ [(A.gs.length : Int)] }
def cntNew (c : Cnt) (nm : Str) (keys : List Int) : Cnt := keys.foldl (fun c x => setC c (nm, x) 0) c
def FlA.hand (A : FlA) (k : KindR) (keys : List Int) (tick : Int) : FlA := ({ A with cnt := cntNew A.cnt k.name keys } : FlA).over k keys tick
def FlA.out (A : FlA) (x : Int) : FlA := { A with away := A.away.erase x }
def againD : D := .tup [.str "again"]
def spentD : D := .tup [.str "spent"]
def fauD (w : Str) : D := .tup [.str "fault", .str w]
def setlD (x : Int × D × Nat) : D := .tup [.int x.1, x.2.1, .int (x.2.2 : Int)]
structure TkS where
  st : List (Int × D × Nat)
  ag : List Int
  c : Cnt
def isAg (r : D) : Bool := match r with
  | .tup [.str z] => decide (z = "again")
  | _ => false
def tkStep (k : KindR) (s : TkS) (x : Int × D × Nat) : TkS :=
  if isAg x.2.1 = true then
    let v := (getC s.c (k.name, x.1)).getD 0
    if k.tries ≤ v then { s with st := s.st ++ [(x.1, spentD, x.2.2)] } else { s with ag := s.ag ++ [x.1], c := setC s.c (k.name, x.1) (v + 1) }
  else { s with st := s.st ++ [x] }
def rowsOf : Nat → List Int → List D → List (Int × D × Nat)
  | i, k :: ks, r :: rs => (k, r, i) :: rowsOf (i + 1) ks rs
  | _, _, _ => []
def tkAll (k : KindR) (keys : List Int) (rs : List D) (c : Cnt) : TkS := (rowsOf 0 keys rs).foldl (tkStep k) ⟨[], [], c⟩
def lsAdd (ls : List AgR) (k : KindR) (again : List Int) : List AgR := if again = [] then ls else ls ++ [⟨k, again, none⟩]
/-- the answer's end: what is settled, what Flights come to -/
def FlA.list (A : FlA) (g : GrR) (rs : List D) : List (Int × D × Nat) × FlA :=
  let s := tkAll g.kind g.keys rs A.cnt
  (s.st, { A with ls := lsAdd A.ls g.kind s.ag, cnt := s.c })
def halfN (ks : List Int) : Nat := (ks.length + 1) / 2
def FlA.whole (A : FlA) (g : GrR) (w : Str) : List (Int × D × Nat) × FlA :=
  match g.keys with
  | [k] => ([(k, fauD w, 0)], A)
  | _ => ([], { A with ls := A.ls ++ [⟨g.kind, g.keys.take (halfN g.keys), none⟩, ⟨g.kind, g.keys.drop (halfN g.keys), none⟩] })
def FlA.full (A : FlA) (g : GrR) (tick : Int) : FlA := { A with ls := A.ls ++ [⟨g.kind, g.keys, some tick⟩] }
def dropL (nm : Str) (key : Int) (ls : List AgR) : List AgR := (ls.map fun l => if l.kind.name = nm then { l with keys := l.keys.filter fun x => decide (x ≠ key) } else l).filter fun l => !l.keys.isEmpty
def FlA.drop (A : FlA) (nm : Str) (key : Int) : FlA := { A with ls := dropL nm key A.ls }
def FlA.holds (A : FlA) (nm : Str) (key : Int) : Bool := A.away.any (fun x => match A.gs[x.toNat]? with
  | some g => decide (g.kind.name = nm) && decide (key ∈ g.keys)
  | none => false) || A.ls.any fun l => decide (l.kind.name = nm) && decide (key ∈ l.keys)
section
variable {C CG CA p : Addr} {A : FlA} {n : Nat} {h h' : Dh} {g0 a0 t0 c0 : Addr} {G : List (Addr × GrR)} {L : List (Addr × AgR)} {V : Dh} {N : Addr → Option HD}
theorem FlR.pg (r : FlR C CG CA p A n h g0 a0 t0 c0 G L) : p ≠ g0 := by rintro rfl; have := r.self; rw [r.hg] at this; unfold fltO at this; cases this
theorem FlR.pa (r : FlR C CG CA p A n h g0 a0 t0 c0 G L) : p ≠ a0 := by rintro rfl; have := r.self; rw [r.ha] at this; unfold fltO at this; cases this
theorem FlR.pt (r : FlR C CG CA p A n h g0 a0 t0 c0 G L) : p ≠ t0 := by rintro rfl; have := r.self; rw [r.ht] at this; unfold fltO at this; cases this
theorem FlR.pc (r : FlR C CG CA p A n h g0 a0 t0 c0 G L) : p ≠ c0 := by rintro rfl; have := r.self; rw [r.hc] at this; unfold fltO at this; cases this
theorem FlR.gc (r : FlR C CG CA p A n h g0 a0 t0 c0 G L) : g0 ≠ c0 := by rintro rfl; have := r.hg; rw [r.hc] at this; cases this
theorem FlR.ac (r : FlR C CG CA p A n h g0 a0 t0 c0 G L) : a0 ≠ c0 := by rintro rfl; have := r.ha; rw [r.hc] at this; cases this
theorem FlR.tc (r : FlR C CG CA p A n h g0 a0 t0 c0 G L) : t0 ≠ c0 := by rintro rfl; have := r.ht; rw [r.hc] at this; cases this
theorem FlR.nog (r : FlR C CG CA p A n h g0 a0 t0 c0 G L) {x : Addr × GrR} (hx : x ∈ G) : x.1 ≠ p ∧ x.1 ≠ g0 ∧ x.1 ≠ a0 ∧ x.1 ≠ t0 ∧ x.1 ≠ c0 := by
  have e := r.og x hx
  unfold grO at e
  refine ⟨fun q => ?_, fun q => ?_, fun q => ?_, fun q => ?_, fun q => ?_⟩ <;> rw [q] at e
  · rw [r.self] at e; unfold fltO at e; cases e
  · rw [r.hg] at e; cases e
  · rw [r.ha] at e; cases e
  · rw [r.ht] at e; cases e
  · rw [r.hc] at e; cases e
theorem FlR.nol (r : FlR C CG CA p A n h g0 a0 t0 c0 G L) {x : Addr × AgR} (hx : x ∈ L) : x.1 ≠ p ∧ x.1 ≠ g0 ∧ x.1 ≠ a0 ∧ x.1 ≠ t0 ∧ x.1 ≠ c0 := by
  have e := r.ol x hx
  unfold agO at e
  refine ⟨fun q => ?_, fun q => ?_, fun q => ?_, fun q => ?_, fun q => ?_⟩ <;> rw [q] at e
  · rw [r.self] at e; unfold fltO at e; cases e
  · rw [r.hg] at e; cases e
  · rw [r.ha] at e; cases e
  · rw [r.ht] at e; cases e
  · rw [r.hc] at e; cases e
/-- more cells -/
theorem FlR.sub (r : FlR C CG CA p A n h g0 a0 t0 c0 G L) (s : Sub h h') : FlR C CG CA p A n h' g0 a0 t0 c0 G L :=
  { r with
    self := s _ _ r.self
    hg := s _ _ r.hg
    ha := s _ _ r.ha
    ht := s _ _ r.ht
    hc := s _ _ r.hc
    og := fun x hx => s _ _ (r.og x hx)
    ol := fun x hx => s _ _ (r.ol x hx) }
theorem FlR.le (r : FlR C CG CA p A n h g0 a0 t0 c0 G L) {m : Nat} (hm : n ≤ m) : FlR C CG CA p A m h g0 a0 t0 c0 G L :=
  { r with sg := Nat.le_trans r.sg hm, sl := Nat.le_trans r.sl hm, sc := Nat.le_trans r.sc hm }
theorem FlS.sub (s : FlS C CG CA A n p h) (k : Sub h h') : FlS C CG CA A n p h' := by
  obtain ⟨g0, a0, t0, c0, G, L, r⟩ := s
  exact ⟨g0, a0, t0, c0, G, L, r.sub k⟩
theorem FlS.le (s : FlS C CG CA A n p h) {m : Nat} (hm : n ≤ m) : FlS C CG CA A m p h := by
  obtain ⟨g0, a0, t0, c0, G, L, r⟩ := s
  exact ⟨g0, a0, t0, c0, G, L, r.le hm⟩
theorem FlS.pn (s : FlS C CG CA A n p h) : h p ≠ none := by
  obtain ⟨g0, a0, t0, c0, G, L, r⟩ := s
  rw [r.self]; simp
/-- the counts are written -/
theorem FlR.count (r : FlR C CG CA p A n h g0 a0 t0 c0 G L) {c' : Cnt} {m : Nat} (hm : n ≤ m) (hc : c'.length ≤ m) : FlR C CG CA p { A with cnt := c' } m (dput h c0 (.dT (cKV c'))) g0 a0 t0 c0 G L :=
  { r.le hm with
    self := by rw [dput_ne r.pc]; exact r.self
    hg := by rw [dput_ne r.gc]; exact r.hg
    ha := by rw [dput_ne r.ac]; exact r.ha
    ht := by rw [dput_ne r.tc]; exact r.ht
    hc := dput_same
    og := fun x hx => by rw [dput_ne (r.nog hx).2.2.2.2]; exact r.og x hx
    ol := fun x hx => by rw [dput_ne (r.nol hx).2.2.2.2]; exact r.ol x hx
    sc := hc }
/-- a great ask is handed -/
theorem FlR.over (r : FlR C CG CA p A n h g0 a0 t0 c0 G L) {f : Addr} {k : KindR} {keys : List Int} {tick : Int} (hf : h f = none) :
    FlR C CG CA p (A.over k keys tick) (n + 1) (dput (dput (dput h f (grO CG ⟨k, keys, tick⟩)) g0 (.lst ((G ++ [(f, (⟨k, keys, tick⟩ : GrR))]).map fun x => .ref x.1))) a0 (.lst ((A.away ++ [(A.gs.length : Int)]).map D.int))) g0 a0 t0 c0 (G ++ [(f, ⟨k, keys, tick⟩)]) L := by
  have nf : ∀ b o, h b = some o → b ≠ f := by rintro b o e rfl; rw [hf] at e; cases e
  have sk : ∀ b o, b ≠ g0 → b ≠ a0 → h b = some o → dput (dput (dput h f (grO CG ⟨k, keys, tick⟩)) g0 (.lst ((G ++ [(f, (⟨k, keys, tick⟩ : GrR))]).map fun x => .ref x.1))) a0 (.lst ((A.away ++ [(A.gs.length : Int)]).map D.int)) b = some o := fun b o e1 e2 e => by
    rw [dput_ne e2, dput_ne e1, dput_ne (nf b o e)]; exact e
  refine ⟨sk _ _ r.pg r.pa r.self, by rw [dput_ne r.n1, dput_same], dput_same, sk _ _ r.n2.symm r.n3.symm r.ht, sk _ _ r.gc.symm r.ac.symm r.hc, fun x hx => ?_, fun x hx => sk _ _ (r.nol hx).2.1 (r.nol hx).2.2.1 (r.ol x hx), ?_, r.el, r.n1, r.n2, r.n3, fun x hx => ?_, ?_, ?_, Nat.le_succ_of_le r.sl, Nat.le_succ_of_le r.sc⟩
  · rcases List.mem_append.mp hx with hx | hx
    · exact sk _ _ (r.nog hx).2.1 (r.nog hx).2.2.1 (r.og x hx)
    · rw [List.mem_singleton] at hx
      subst hx
      rw [dput_ne (nf _ _ r.ha).symm, dput_ne (nf _ _ r.hg).symm, dput_same]
  · show A.gs ++ _ = _
    rw [List.map_append, r.eg]; rfl
  · show 0 ≤ x ∧ x < ((A.gs ++ [(⟨k, keys, tick⟩ : GrR)]).length : Int)
    rw [List.length_append, List.length_singleton]
    rcases List.mem_append.mp hx with hx | hx
    · have := r.aw x hx; omega
    · rw [List.mem_singleton] at hx; omega
  · show (A.away ++ [(A.gs.length : Int)]).Pairwise (· < ·)
    rw [List.pairwise_append]
    exact ⟨r.as_, List.pairwise_singleton _ _, fun x hx y hy => by rw [List.mem_singleton] at hy; subst hy; exact (r.aw x hx).2⟩
  · show (A.gs ++ [(⟨k, keys, tick⟩ : GrR)]).length ≤ n + 1
    rw [List.length_append]; exact Nat.succ_le_succ r.sg
/-- one is back -/
theorem FlR.back (r : FlR C CG CA p A n h g0 a0 t0 c0 G L) {x : Int} : FlR C CG CA p (A.out x) n (dput h a0 (.lst ((A.away.erase x).map D.int))) g0 a0 t0 c0 G L :=
  { r with
    self := by rw [dput_ne r.pa]; exact r.self
    hg := by rw [dput_ne r.n1]; exact r.hg
    ha := dput_same
    ht := by rw [dput_ne r.n3.symm]; exact r.ht
    hc := by rw [dput_ne r.ac.symm]; exact r.hc
    og := fun x hx => by rw [dput_ne (r.nog hx).2.2.1]; exact r.og x hx
    ol := fun x hx => by rw [dput_ne (r.nol hx).2.2.1]; exact r.ol x hx
    aw := fun y hy => r.aw y (List.mem_of_mem_erase hy)
    as_ := r.as_.sublist List.erase_sublist }
/-- a list more -/
theorem FlR.more (r : FlR C CG CA p A n h g0 a0 t0 c0 G L) {f : Addr} {l : AgR} (hf : h f = none) :
    FlR C CG CA p { A with ls := A.ls ++ [l] } (n + 1) (dput (dput h f (agO CA l)) t0 (.lst ((L ++ [(f, l)]).map fun x => .ref x.1))) g0 a0 t0 c0 G (L ++ [(f, l)]) := by
  have nf : ∀ b o, h b = some o → b ≠ f := by rintro b o e rfl; rw [hf] at e; cases e
  have sk : ∀ b o, b ≠ t0 → h b = some o → dput (dput h f (agO CA l)) t0 (.lst ((L ++ [(f, l)]).map fun x => .ref x.1)) b = some o := fun b o e1 e => by
    rw [dput_ne e1, dput_ne (nf b o e)]; exact e
  refine ⟨sk _ _ r.pt r.self, sk _ _ r.n2 r.hg, sk _ _ r.n3 r.ha, dput_same, sk _ _ r.tc.symm r.hc, fun x hx => sk _ _ (r.nog hx).2.2.2.1 (r.og x hx), fun x hx => ?_, r.eg, ?_, r.n1, r.n2, r.n3, r.aw, r.as_, Nat.le_succ_of_le r.sg, ?_, Nat.le_succ_of_le r.sc⟩
  · rcases List.mem_append.mp hx with hx | hx
    · exact sk _ _ (r.nol hx).2.2.2.1 (r.ol x hx)
    · rw [List.mem_singleton] at hx
      subst hx
      rw [dput_ne (nf _ _ r.ht).symm, dput_same]
  · show A.ls ++ _ = _
    rw [List.map_append, r.el]; rfl
  · show (A.ls ++ [l]).length ≤ n + 1
    rw [List.length_append]; exact Nat.succ_le_succ r.sl
/-- the lists are others -/
theorem FlR.lists (r : FlR C CG CA p A n h g0 a0 t0 c0 G L) {t1 : Addr} {L' : List (Addr × AgR)} (s : ∀ b o, b ≠ p → h b = some o → h' b = some o) (e0 : h' p = some (fltO C A.room g0 a0 t1 c0)) (e1 : h' t1 = some (.lst (L'.map fun x => .ref x.1))) (nt : h t1 = none) (ol : ∀ x ∈ L', h' x.1 = some (agO CA x.2)) (hl : L'.length ≤ n) :
    FlR C CG CA p { A with ls := L'.map (·.2) } n h' g0 a0 t1 c0 G L' := by
  have nf : ∀ b o, h b = some o → b ≠ t1 := by rintro b o e rfl; rw [nt] at e; cases e
  exact ⟨e0, s _ _ r.pg.symm r.hg, s _ _ r.pa.symm r.ha, e1, s _ _ r.pc.symm r.hc, fun x hx => s _ _ (r.nog hx).1 (r.og x hx), ol, r.eg, rfl, r.n1, nf _ _ r.hg, nf _ _ r.ha, r.aw, r.as_, r.sg, by show (L'.map (·.2)).length ≤ n; rw [List.length_map]; exact hl, r.sc⟩
theorem FlR.start (e0 : h p = some (fltO C A.room g0 a0 t0 c0)) (e1 : h g0 = some (.lst [])) (e2 : h a0 = some (.lst [])) (e3 : h t0 = some (.lst [])) (e4 : h c0 = some (.dT [])) (n1 : g0 ≠ a0) (n2 : g0 ≠ t0) (n3 : a0 ≠ t0) (hA : A = FlA.new A.room) : FlR C CG CA p A 0 h g0 a0 t0 c0 [] [] := by
  rw [hA]
  exact ⟨e0, e1, e2, e3, e4, nofun, nofun, rfl, rfl, n1, n2, n3, nofun, List.Pairwise.nil, Nat.le_refl _, Nat.le_refl _, Nat.le_refl _⟩
end
theorem cntNew_get {nm : Str} {keys : List Int} : ∀ {c : Cnt} {k : Str × Int}, getC (cntNew c nm keys) k = if k.1 = nm ∧ k.2 ∈ keys then some 0 else getC c k := by
  induction keys with
  | nil => intro c k; simp [cntNew]
  | cons x r ih =>
    intro c k
    show getC (cntNew (setC c (nm, x) 0) nm r) k = _
    rw [ih, get_set]
    by_cases h1 : k.1 = nm ∧ k.2 ∈ r
    · rw [if_pos h1, if_pos ⟨h1.1, List.mem_cons_of_mem _ h1.2⟩]
    · rw [if_neg h1]
      by_cases h2 : (nm, x) = k
      · rw [if_pos h2, if_pos (by rw [← h2]; exact ⟨rfl, List.mem_cons_self⟩)]
      · rw [if_neg h2, if_neg]
        rintro ⟨q1, q2⟩
        rcases List.mem_cons.mp q2 with q | q
        · exact h2 (Prod.ext q1.symm q.symm)
        · exact h1 ⟨q1, q⟩
theorem cntNew_len {nm : Str} {keys : List Int} : ∀ {c : Cnt}, (cntNew c nm keys).length ≤ c.length + keys.length := by
  induction keys with
  | nil => intro c; exact Nat.le_refl _
  | cons x r ih =>
    intro c
    have h1 := ih (c := setC c (nm, x) 0)
    have h2 := setC_len (c := c) (k := (nm, x)) (v := 0)
    show (cntNew (setC c (nm, x) 0) nm r).length ≤ _
    rw [List.length_cons]; omega
end DL

namespace DL
open PySem L2 PySem.Spec PyProof.Rows
theorem py_ints {rf : Addr → Option PyData} : ∀ {L : List Int}, pyIns rf (L.map D.int) = some (L.map PyData.int)
  | [] => rfl
  | e :: r => by simp only [List.map_cons, pyIns, pyIn, py_ints (L := r)]
theorem shaped_int {i : Int} : SeqAt.shaped (.int i) = true := by
  obtain ⟨p, e1, c, d⟩ := pyIn_plain (rf := fun _ => none) 1 (.int i) plain_int
  cases e1
  unfold SeqAt.shaped
  rw [c, Bool.true_and, decide_eq_true_eq]; omega
theorem shaped_ints {L : List Int} : SeqAt.shaped (.list (L.map PyData.int)) = true := by
  obtain ⟨p, e1, c, d⟩ := pyIn_plain (rf := fun _ => none) 3 _ (by rw [plain_tup]; exact plain_ints : plainD 3 (.tup (L.map D.int)) = true)
  simp only [pyIn, py_ints] at e1
  cases e1
  unfold SeqAt.shaped
  rw [Bool.and_eq_true, decide_eq_true_eq]
  refine ⟨?_, ?_⟩
  · simpa only [PyData.canLay0] using c
  · simp only [PyData.depth] at d ⊢; omega
theorem rm_int {W : Wd} {c : Addr} {ns : List Int} {x : Int} {q : DK} (hx : x ∈ ns) (h : q .non (W.put c (.lst ((ns.erase x).map D.int)))) : rmL W c (ns.map D.int) (.int x) q := by
  obtain ⟨s, t, n, rfl, e⟩ := List.exists_erase_eq hx
  refine ⟨.int x, (s ++ x :: t).map PyData.int, s.length, rfl, py_ints, shaped_int, shaped_ints, ⟨⟨.int x, by simp, by simp [PyData.eqv]⟩, fun m z hm hz => ?_⟩, ?_⟩
  · rw [List.map_append, List.getElem?_append_left (by rw [List.length_map]; exact hm), List.getElem?_map, List.getElem?_eq_getElem hm] at hz
    cases hz
    have : s[m] ≠ x := fun e => n (by rw [← e]; exact List.getElem_mem _)
    simp only [PyData.eqv]
    exact beq_eq_false_iff_ne.mpr this
  · have : ((s ++ x :: t).map D.int).eraseIdx s.length = (s ++ t).map D.int := by
      rw [List.map_append, List.eraseIdx_append_of_length_le (by rw [List.length_map]; exact Nat.le_refl _), List.length_map, Nat.sub_self, List.map_append]; rfl
    rw [this, ← e]; exact h
theorem jw_putV {V h : Dh} {N : Addr → Option HD} {a : Addr} {o : DO} (e : h a = none) : (jw V h N).put a o = jw (dput V a o) h N := by
  rw [jw_put, jw_show e]
theorem hset_id {W : Wd} {p : Addr} {φ : HD} (h : W.hid p = some φ) : hset W.hid p φ = W.hid := congrArg Wd.hid (hide_same h)
theorem hdel_none {N : Addr → Option HD} {p a : Addr} (n : a ≠ p) (h : hdel N p a = none) : N a = none := by rwa [hdel_ne n] at h
theorem ne_some {h : Dh} {a b : Addr} (e : h a ≠ none) (f : h b = none) : a ≠ b := by rintro rfl; exact e f
theorem ne_som {h : Dh} {a b : Addr} {o : DO} (e : h a = some o) (f : h b = none) : a ≠ b := by rintro rfl; rw [e] at f; cases f
/-! ### what a list of results comes to -/
theorem rows_len {i : Nat} {ks : List Int} {rs : List D} (h : ks.length = rs.length) : (rowsOf i ks rs).length = rs.length := by
  induction rs generalizing i ks with
  | nil => cases ks <;> rfl
  | cons r rs ih =>
    cases ks with
    | nil => cases h
    | cons k ks => show (rowsOf (i + 1) ks rs).length + 1 = rs.length + 1; rw [ih (by simpa using h)]
theorem rows_at {i j : Nat} {ks : List Int} {rs : List D} {x : Int × D × Nat} (h : ks.length = rs.length) (e : (rowsOf i ks rs)[j]? = some x) : ks[j]? = some x.1 ∧ rs[j]? = some x.2.1 ∧ x.2.2 = i + j := by
  induction rs generalizing i j ks with
  | nil => cases ks <;> cases e
  | cons r rs ih =>
    cases ks with
    | nil => cases h
    | cons k ks =>
      cases j with
      | zero => cases e; exact ⟨rfl, rfl, rfl⟩
      | succ j =>
        obtain ⟨a, b, c⟩ := ih (by simpa using h) (show (rowsOf (i + 1) ks rs)[j]? = some x from e)
        exact ⟨a, b, by omega⟩
theorem rows_app {i : Nat} {k1 k2 : List Int} {r1 r2 : List D} (h : k1.length = r1.length) : rowsOf i (k1 ++ k2) (r1 ++ r2) = rowsOf i k1 r1 ++ rowsOf (i + r1.length) k2 r2 := by
  induction r1 generalizing i k1 with
  | nil =>
    cases k1 with
    | nil => rfl
    | cons k ks => cases h
  | cons r rs ih =>
    cases k1 with
    | nil => cases h
    | cons k ks =>
      show (k, r, i) :: rowsOf (i + 1) (ks ++ k2) (rs ++ r2) = (k, r, i) :: (rowsOf (i + 1) ks rs ++ rowsOf (i + (rs.length + 1)) k2 r2)
      rw [ih (by simpa using h), show i + 1 + rs.length = i + (rs.length + 1) by omega]
theorem ResOk.ag {r : D} (h : ResOk r) : (∃ z e, r = .tup (.str z :: e) ∧ isAg r = decide (z = "again")) := by
  rcases h with rfl | ⟨z, hz, rfl⟩ | ⟨i, h1, h2, rfl⟩
  · exact ⟨_, _, rfl, rfl⟩
  · exact ⟨_, _, rfl, rfl⟩
  · exact ⟨_, _, rfl, rfl⟩
end DL
namespace DL
open PySem L2 PySem.Spec PyProof.Rows
theorem away_len {ns : List Int} {m : Nat} (h1 : ∀ x ∈ ns, 0 ≤ x ∧ x < (m : Int)) (h2 : ns.Pairwise (· < ·)) : ns.length ≤ m := by
  have hn : (ns.map Int.toNat).Nodup := by
    refine List.pairwise_map.mpr (h2.imp_of_mem fun {a b} ha hb q e => ?_)
    have := h1 a ha; have := h1 b hb; omega
  have := nodup_len (l := ns.map Int.toNat) (m := List.range m) hn fun x hx => by
    obtain ⟨y, hy, rfl⟩ := List.mem_map.mp hx
    rw [List.mem_range]
    have := h1 y hy; omega
  rwa [List.length_map, List.length_range] at this
theorem getC_any {c : Cnt} {k : Str × Int} {v : Int} (h : getC c k = some v) : c.any (fun e => decide (e.1 = k)) = true := by
  unfold getC at h
  obtain ⟨e, h1, _⟩ := Option.map_eq_some_iff.mp h
  have h2 := List.find?_some h1
  exact List.any_eq_true.mpr ⟨e, List.mem_of_find?_eq_some h1, h2⟩
theorem setC_same {c : Cnt} {k : Str × Int} {v : Int} (h : c.any (fun e => decide (e.1 = k)) = true) : (setC c k v).length = c.length := by
  unfold setC
  rw [if_pos h, List.length_map]
end DL

namespace DL
open PySem L2 PySem.Spec PyProof.Rows
/-! ### a def that is called with the exception that is handled -/
/-- e's object is an exception of the class C -/
def Exc1 (e : Addr × Obj) (C : Addr) : Prop := Zc (.ref C) none e.2 ∧ ∃ vs, e.2.data = .fields vs
structure FnX (P : Program) (w : World) (K : PySem.W.Frag) (mg : Str → Option Value) (base : Heap) (k : Nat) (f : Addr) (fd : FuncData) (ps : List Str) (d : Addr → Addr → DSp) : Prop where
  len : ∀ a C ds W q E, d a C ds W q E → ds.length = ps.length
  run : ∀ (e : Addr × Obj) (C : Addr) (A : Around) (outer : List Env) (s : Shared) (H : Hp) (args : Args) (us : List Value) (vs : List V) (Q : VK), Exc1 e C → L2H.RoomH k A → L2H.PinOk outer H s e → Env0 P w K mg base A outer s H →
    BindsTo s fd args (ps.zip us) → Vals vs us → upSp K (d e.1 C) vs H Q L2.E0 → codeAny (model P w) A (.call (.ref f) args) (CR L2.CX0 outer P w H s Q L2.E0) s
theorem fnX_of {P : Program} {w : World} {K : PySem.W.Frag} {mg : Str → Option Value} {base : Heap} {x qual : Str} {st : Stmt} {f : Addr} {fd : FuncData} {N ps : List Str} {k : Nat} {d : Addr → Addr → DSp} (F : Fun K x qual st f fd) (S : FnScope N ps (defScope st))
    (len : ∀ a C ds W q E, d a C ds W q E → ds.length = ps.length)
    (hb : ∀ (a : Addr) (oe : Obj) (C : Addr), Exc1 (a, oe) C → ∀ (cdv : Value) (A : Around) (outer : List Env) (s : Shared) (H : Hp), L2H.RoomH k (A.deeper (envOfC qual (defScope st) s.heap.objs.size f cdv)) →
      ∃ t, PSs (L2H.cxH L2.CX0 P w K mg base N qual (defScope st) f cdv A outer s H L2.E0 (a, oe)) (defBody st) (upS K X0 Wx0 t) ∧ ∀ ds W q Ed, d a C ds W q Ed → t (endsOf q) (startD N ds) W) :
    FnX P w K mg base (k + 1) f fd ps d := by
  obtain ⟨oc, od, kV, doc, pm, an, cdv, ct, osl, rfl, lk, hcd⟩ := F.ex
  refine ⟨len, fun e C A outer s H args us vs Q he hr hpin e0 bd rv hsp => ?_⟩
  obtain ⟨ds, W, P', q, Ed, r, rw, hd, k1, k2⟩ := hsp
  have hlen : vs.length = ps.length := by rw [← repVs_len r]; exact len _ _ _ _ _ _ hd
  have up : ∀ b o, base.get? b = some o → s.heap.get? b = some o := fun b o z => (e0.bs b o z).1
  have inK : K.In s.heap := e0.mod.kin.keeps up
  have kinds : ∀ y ∈ ps.zip us, (defScope st).names.lookup y.1 = some .local ∨ ((defScope st).names.lookup y.1 = some .cell ∧ ((cellsFrom (s.heap.objs.size + 1) (defScope st).names []).lookup y.1).isSome = true) := by
    rintro ⟨n, v⟩ hy
    exact (S.par n (List.of_mem_zip hy).1).imp id fun q => ⟨q, PySem.W.cellsFrom_some _ _ _ (.inl q)⟩
  refine codeAny_call_function hr.depth (inK _ _ lk) rfl S.co S.gen rfl (PySem.W.codeRec_of inK hcd) (bd _ _ _ _ ?_)
  refine wpAny_newFunctionEnv_cells S.kind kinds fun env henv s1 xx => ?_
  subst henv
  refine ⟨(e0.mod.nolimit.keeps up).keeps xx.toInCall.keep, codeAny_func ?_⟩
  obtain ⟨t, ht, hq⟩ := hb e.1 e.2 C he cdv A outer s H (hr.deeper _)
  have I0 := L2H.inv_startH (CX := L2.CX0) (E := L2.E0) S hpin e0 hlen rv xx
  refine wpAny_mono (ht.run [] s1 (L2.start N vs) H _ I0 (up_start (dsp := d e.1 C) r rw k1 xarr0 (hq ds W q Ed hd))) (fun fl s2 h2 => ?_) fun u s2 h2 => h2
  cases fl with
  | next =>
    obtain ⟨σ2, H2, J, q2⟩ := h2
    exact ⟨V.non, H2, J.os, J.bare, J.base, J.hok, rfl, q2⟩
  | ret u =>
    obtain ⟨v, σ2, H2, J, r2, q2⟩ := h2
    exact ⟨v, H2, J.os, J.bare, J.base, J.hok, r2, q2⟩
  | brk => obtain ⟨_, _, _, q2⟩ := h2; exact q2.elim
  | cont => obtain ⟨_, _, _, q2⟩ := h2; exact q2.elim
section
variable {X : Cx} {Ed : WXD} {Ex : WX} {k : Nat} {f : Addr} {fd : FuncData} {ps : List Str} {d : Addr → Addr → DSp} {x : Str} {p pos : Pos} {e : Expr} {es : List Expr} {tA : TAD}
theorem de_callE {a0 : Addr} {oe : Obj} {C : Addr} (h1 : (a0, oe) ∈ X.pn) (h2 : Exc1 (a0, oe) C) (F : FnX X.prog X.w X.K X.mg X.base k f fd ps d) (hr : L2H.RoomH k X.A) (hg : Gl X x) (hm : X.mg x = some (.ref f)) (hk : PySem.W.keepIn X.K (.ref f) = true) (hb : Binds X.K fd ps [])
    (ha : PA X (e :: es) (upA X.K Ed Ex tA)) (hdb : (x == ("__debug__" : Str)) = false := by decide) (he : starEach (e :: es) X.env = (false, eval e X.env) :: starEach es X.env := by rfl) (hpl : (backTo pos (starEach es X.env)).any (·.1) = false := by rfl) :
    PE X (.Call (.Name x p) (e :: es) [] pos) (upE X.K Ed Ex (dCall (d a0 C) tA)) := by
  refine ⟨fun pins s σ H Q I h => ?_⟩
  obtain ⟨δ, W, P, q, rs, rw, xa, h, kk⟩ := h
  refine wpAny_Call_Name_kw (ld_glob I hg hm ?_ hdb)
  refine PySem.W.callWith_K (h₀ := X.base) I.ok.mod.kin hk (thn (ha.run pos pins s σ H (fun vs H1 => upSp X.K (d a0 C) vs H1 Q L2.E0) I ⟨δ, W, P, _, rs, rw, xa, h, fun ds W1 P1 vs H1 s1 r1 rw1 h1 => ⟨ds, W1, P1, q, E0D, r1, rw1, h1, kk.after s1, fun _ _ _ _ _ _ _ z => z⟩⟩) fun us s1 ⟨vs, H1, I1, r1, q1⟩ => ⟨I1.kIn, ?_⟩) he hpl
  have hl : us.length = ps.length := by
    obtain ⟨ds, W1, P1, q', E', rr, _, hd, _⟩ := q1
    rw [← r1.length, ← repVs_len rr]; exact F.len _ _ _ _ _ _ hd
  have bd := hb s1 us I1.kIn (by rw [List.append_nil]; exact hl)
  rw [List.append_nil] at bd
  obtain ⟨g1, g2, g3, g4, g5⟩ := I1.pin (a0, oe) (List.mem_append_left _ h1)
  refine wpAny_call (codeAny_mono (F.run (a0, oe) C X.A X.stack s1 H1 ⟨us, []⟩ us vs Q h2 hr ⟨g1, g2, fun hm => (List.mem_cons.mp (I1.stkSub a0 hm)).elim g3 g4, g5⟩ I1.env0 bd r1 q1) fun res s2 hq => ?_)
  match res, hq with
  | .error _, hq => exact hq.elim
  | .ok (.ret _), hq => exact I1.after hq
  | .ok .next, hq => exact hq.elim
  | .ok .brk, hq => exact hq.elim
  | .ok .cont, hq => exact hq.elim
/-- isinstance of the exception that is handled -/
def isEH (K : PySem.W.Frag) (a C : Addr) : DCR := fun ds W q => match ds with
  | [.ref b, .tup cs] => b = a ∧ pairD cs = true ∧ ExcC K C ∧ onSome (clsDs cs) fun us => ∃ b, PySem.W.kitAny K (.ref C) us = some b ∧ q (.bl b) W
  | [.ref b, c] => b = a ∧ ExcC K C ∧ onSome (clsD c) fun u => ∃ b, PySem.W.kitOne K (.ref C) u = some b ∧ q (.bl b) W
  | _ => False
theorem rd_isEH1 {K : PySem.W.Frag} {a C c : Addr} {W : Wd} {q : DK} : isEH K a C [.ref a, .ref c] W q = (ExcC K C ∧ ∃ b, PySem.W.kitOne K (.ref C) (.ref c) = some b ∧ q (.bl b) W) := by
  show (a = a ∧ _) = _
  rw [eq_self, true_and]
  rfl
theorem rd_isEH2 {K : PySem.W.Frag} {a C : Addr} {c : String} {W : Wd} {q : DK} : isEH K a C [.ref a, .ty c] W q = (ExcC K C ∧ ∃ b, PySem.W.kitOne K (.ref C) (.type c) = some b ∧ q (.bl b) W) := by
  show (a = a ∧ _) = _
  rw [eq_self, true_and]
  rfl
theorem rd_isEH3 {K : PySem.W.Frag} {a C : Addr} {cs : List D} {W : Wd} {q : DK} : isEH K a C [.ref a, .tup cs] W q = (pairD cs = true ∧ ExcC K C ∧ onSome (clsDs cs) fun us => ∃ b, PySem.W.kitAny K (.ref C) us = some b ∧ q (.bl b) W) := by
  show (a = a ∧ _) = _
  rw [eq_self, true_and]
theorem inst_pin {pins : List (Addr × Obj)} {σ : L2.St} {H : Hp} {s : Shared} {p0 : Addr × Obj} {C : Addr} (I : Inv X pins σ H s) (h1 : p0 ∈ X.pn) (h2 : Exc1 p0 C) : PySem.W.InstAt s.heap p0.1 p0.2 C none := by
  have g := (I.pin p0 (List.mem_append_left _ h1)).1
  obtain ⟨a, oc, od, oda, osl⟩ := p0
  obtain ⟨⟨z1, z2⟩, vs, z3⟩ := h2
  dsimp only at z1 z2 z3 g
  subst z1 z2 z3
  exact ⟨g, rfl, rfl, trivial⟩
theorem dc_isEH {a0 : Addr} {oe : Obj} {C : Addr} (h1 : (a0, oe) ∈ X.pn) (h2 : Exc1 (a0, oe) C) : CallR X (.builtin "isinstance") (upC X.K (isEH X.K a0 C)) := fun pins s σ H xs us Q I r h => by
  obtain ⟨ds, W, P, q, rr, rw, h, kk⟩ := h
  have J := inst_pin I h1 h2
  unfold isEH at h
  split at h
  · rename_i b0 cs
    obtain ⟨v, y, rfl, r1, tp, ys, rfl, hT, r3⟩ := rep2 rr
    obtain ⟨ea, hp, hC, hh⟩ := h
    subst ea
    obtain ⟨us', e2, b, e3, h3⟩ := onSome_inv hh
    obtain ⟨u1, u2, rfl, q1, q2⟩ := vals2 r
    rw [show v = V.ref _ from r1] at q1
    cases (show u1 = Value.ref _ from q1)
    cases (show u2 = Value.ref tp from q2)
    obtain ⟨_, its, rv, o, z1, z2, n, z3⟩ := (show ObjOk X.prog X.w H s.heap tp (.tup ys) from I.hok tp _ (hT.2 hp))
    have ee := ClsV.all (clsVs_rep r3 e2) rv
    subst ee
    obtain ⟨oc, od, dt, sl⟩ := o
    simp only at z2 z3
    subst z2 z3
    exact PySem.W.kia_tup (PySem.W.handS_kitx_exc hC.hg hC.hk hC.hs hC.hd hC.ha hC.hn hC.ht hC.hm) I.kIn J z1 e3 (fun z => nomatch z) fun tk => ⟨.bl b, H, I.tok tk, rfl, kk (.bl b) W P _ H .refl rfl rw h3⟩
  · rename_i b0 c _
    obtain ⟨v, y, rfl, r1, r2⟩ := rep2 rr
    obtain ⟨ea, hC, hh⟩ := h
    subst ea
    obtain ⟨u, e2, b, e3, h3⟩ := onSome_inv hh
    obtain ⟨u1, u2, rfl, q1, q2⟩ := vals2 r
    rw [show v = V.ref _ from r1] at q1
    cases (show u1 = Value.ref _ from q1)
    have ec := clsD_rep r2 e2 _ q2
    subst ec
    exact PySem.W.kia_one (PySem.W.handS_kitx_exc hC.hg hC.hk hC.hs hC.hd hC.ha hC.hn hC.ht hC.hm) I.kIn J e3 (fun z => nomatch z) fun tk => ⟨.bl b, H, I.kept (t' := tk) fun _ _ z => z, rfl, kk (.bl b) W P _ H .refl rfl rw h3⟩
  · exact h.elim
end
/-! ### try: .. except C as n: suite -/
def dTryA (K : PySem.W.Frag) (c : Value) (ie : Nat) (ts : Addr → Addr → TSD) (tb : WXD → TSD) : TSD := fun E δ W =>
  tb (fun cls d δ' W' => d = none ∧ ie < δ'.length ∧ ∃ C, cls = .ref C ∧ PySem.W.exmOne K cls c = some true ∧ ∀ a, W'.hp a = none → W'.hid a = none →
    ts a C { nx := fun δ2 W2 => E.nx (δ2.set ie none) W2, rt := E.rt, bk := fun δ2 W2 => E.bk (δ2.set ie none) W2, ct := fun δ2 W2 => E.ct (δ2.set ie none) W2 } (δ'.set ie (some (.ref a))) W') E δ W
theorem rd_tryA {K : PySem.W.Frag} {c : Value} {ie : Nat} {ts : Addr → Addr → TSD} {tb : WXD → TSD} {E : EndsD} {δ : Sd} {W : Wd} : dTryA K c ie ts tb E δ W =
  tb (fun cls d δ' W' => d = none ∧ ie < δ'.length ∧ ∃ C, cls = .ref C ∧ PySem.W.exmOne K cls c = some true ∧ ∀ a, W'.hp a = none → W'.hid a = none →
    ts a C { nx := fun δ2 W2 => E.nx (δ2.set ie none) W2, rt := E.rt, bk := fun δ2 W2 => E.bk (δ2.set ie none) W2, ct := fun δ2 W2 => E.ct (δ2.set ie none) W2 } (δ'.set ie (some (.ref a))) W') E δ W := rfl
section
variable {X : Cx} {Ed : WXD} {Ex : WX} {x n : Str} {c : Value} {ie : Nat} {body suite : List Stmt} {b₀ : Stmt} {np pos pos' : Pos} {dtb : WXD → TSD} {dts : Addr → Addr → TSD}
theorem ds_tryA (hs : X.stack = X.env :: X.outer) (hf : X.env.frame = some X.env.locals) (hN : X.N.Nodup) (hi : X.N[ie]? = some n) (hln : X.env.kindOf n = some .local) (hc : Names X x c) (hx : X.ex = [])
    (hb : ∀ (Ed : WXD) (W : WX) (pn : List (Addr × Obj)) (xe : Value → Shared → Prop), Takes (X.tr pn xe) W → PassesOwn (model X.prog X.w) X.A X.env xe → PSs (X.tr pn xe) body (upS X.K Ed W (dtb Ed)))
    (hsu : ∀ (a : Addr) (oe : Obj) (C : Addr) (pn : List (Addr × Obj)), Exc1 (a, oe) C → PSs (X.suite a ((a, oe) :: pn)) (b₀ :: suite) (upS X.K X0 Wx0 (dts a C))) :
    PS X (.Try body [.ExceptHandler (some (.Name x np)) (some n) (b₀ :: suite) pos'] [] [] pos) (upS X.K Ed Ex (dTryA X.K c ie dts dtb)) :=
  (ps_try_as (i := ie) (tb := fun W D σ H => ∃ Ed, upS X.K Ed W (dtb Ed) D σ H) (Wout := fun _ _ _ _ => False) (ts := fun a cls d D σ H => d = none ∧ ∃ C, cls = .ref C ∧ upS X.K X0 Wx0 (dts a C) D σ H) hs hf hN hi hln hc takes0
    (fun W pn xe tk po => ⟨fun pins s σ H D I h => by obtain ⟨Ed, h⟩ := h; exact (hb Ed W pn xe tk po).run pins s σ H D I h⟩)
    (fun a oe cls d pn hz hd => ⟨fun pins s σ H D I h => by
      obtain ⟨rfl, C, rfl, h⟩ := h
      exact (hsu a oe C pn ⟨hz, hd⟩).run pins s σ H D I h⟩)).imp fun D σ H h => by
  obtain ⟨δ, W, P, E, rs, rw, xa, h, k⟩ := h
  refine ⟨_, δ, W, P, E, rs, rw, ?_, h, k⟩
  rintro cls d δ' W' P' σ' H' s rs' rw' ⟨rfl, hl, C, rfl, hm, hn⟩
  refine ⟨true, hm, fun _ a ha => ⟨rfl, C, rfl, ?_⟩, fun z => nomatch z⟩
  obtain ⟨f1, f2, _⟩ := rw'.fresh ha
  exact ⟨_, W', P', _, rs'.set (d := .ref a) (v := .ref a) rfl ie, rw', xarr0, hn a f1 f2, fun δ2 W2 P2 σ2 H2 s2 r2 w2 h2 => k.nx _ _ _ _ _ (s.trans s2) (r2.wipe ie) w2 h2, fun δ2 W2 P2 σ2 H2 s2 r2 w2 h2 => k.bk _ _ _ _ _ (s.trans s2) (r2.wipe ie) w2 h2,
    fun δ2 W2 P2 σ2 H2 s2 r2 w2 h2 => k.ct _ _ _ _ _ (s.trans s2) (r2.wipe ie) w2 h2, k.rt.after s⟩
end
end DL
namespace DL
theorem roomM {j k : Nat} {A : PySem.Around} {v : Option PySem.Value} (hr : L2.Room k A) (h : j ≤ k) : L2H.RoomH j (A.mark v) := ⟨(hr.mono h).dp, (hr.mono h).un⟩
end DL

namespace DL
open PySem L2 PySem.Spec PyProof.Rows
/-- what is known of a fresh address -/
theorem nws {W : Wd} {a : Addr} (f : W.hp a = none) (g : W.hid a = none) : (∀ b, W.hp b ≠ none → (b = a) = False) ∧ (∀ b, W.hp b ≠ none → (a = b) = False) ∧ (∀ b, W.hid b ≠ none → (b = a) = False) ∧ (∀ b, W.hid b ≠ none → (a = b) = False) :=
  ⟨fun b h => eq_false fun e => h (e ▸ f), fun b h => eq_false fun e => h (e.symm ▸ f), fun b h => eq_false fun e => h (e ▸ g), fun b h => eq_false fun e => h (e.symm ▸ g)⟩
theorem som_ne {α : Type} {o : Option α} {x : α} (h : o = some x) : (o = none) = False := by subst h; simp
/-- the cells cs and what is new apart, all is as it was -/
structure Chg (cs : List Addr) (W W' : Wd) : Prop where
  hp : ∀ a o, a ∉ cs → W.hp a = some o → W'.hp a = some o
  hid : ∀ a φ, a ∉ cs → W.hid a = some φ → W'.hid a = some φ
  hpn : ∀ a, a ∉ cs → W.hid a ≠ none → W.hp a = none → W'.hp a = none
theorem Chg.refl {cs : List Addr} {W : Wd} : Chg cs W W := ⟨fun _ _ _ h => h, fun _ _ _ h => h, fun _ _ _ h => h⟩
theorem Chg.trans {cs : List Addr} {W W1 W2 : Wd} (a : Chg cs W W1) (b : Chg cs W1 W2) : Chg cs W W2 :=
  ⟨fun x o n h => b.hp x o n (a.hp x o n h), fun x φ n h => b.hid x φ n (a.hid x φ n h), fun x n h1 h2 => b.hpn x n (by
    cases e : W.hid x with
    | none => exact absurd e h1
    | some φ => rw [a.hid x φ n e]; simp) (a.hpn x n h1 h2)⟩
theorem Chg.wide {cs ds : List Addr} {W W1 : Wd} (a : Chg cs W W1) (h : ∀ x ∈ cs, x ∈ ds) : Chg ds W W1 :=
  ⟨fun x o n => a.hp x o fun q => n (h x q), fun x o n => a.hid x o fun q => n (h x q), fun x n => a.hpn x fun q => n (h x q)⟩
theorem Chg.put {cs : List Addr} {W W1 : Wd} {a : Addr} {o : DO} (c : Chg cs W W1) (h : a ∈ cs) : Chg cs W (W1.put a o) :=
  ⟨fun x u n e => by rw [wd_put_hp, dput_ne (by rintro rfl; exact n h)]; exact c.hp x u n e, c.hid, fun x n e1 e2 => by rw [wd_put_hp, dput_ne (by rintro rfl; exact n h)]; exact c.hpn x n e1 e2⟩
theorem Chg.new {cs : List Addr} {W W1 : Wd} {a : Addr} {o : DO} (c : Chg cs W W1) (f : W1.hp a = none) (g : W1.hid a = none) : Chg cs W (W1.put a o) :=
  ⟨fun x u n e => by
    have := c.hp x u n e
    rw [wd_put_hp, dput_ne (by rintro rfl; rw [f] at this; cases this)]; exact this, c.hid, fun x n e1 e2 => by
    rw [wd_put_hp, dput_ne ?_]
    · exact c.hpn x n e1 e2
    · rintro rfl
      cases e : W.hid x with
      | none => exact e1 e
      | some φ => have := c.hid x φ n e; rw [g] at this; cases this⟩
theorem Chg.hide {cs : List Addr} {W W1 : Wd} {a : Addr} {φ : HD} (c : Chg cs W W1) (h : a ∈ cs) : Chg cs W (W1.hide a φ) :=
  ⟨c.hp, fun x u n e => by rw [wd_hide_hid, hset_ne (by rintro rfl; exact n h)]; exact c.hid x u n e, c.hpn⟩
theorem Chg.gr {cs : List Addr} {W W1 W2 : Wd} (c : Chg cs W W1) (g : Gr W1 W2) (hn : ∀ x, x ∉ cs → W1.hid x ≠ none → W1.hp x = none → W2.hp x = none) : Chg cs W W2 :=
  c.trans ⟨fun x o _ h => g.hp x o h, fun x φ _ h => by rw [g.hid]; exact h, hn⟩
/-! ### == of lists by what they hold -/
theorem eqs_of {rf : Addr → Option PyData} {ds es : List D} {ps qs : List PyData} (h1 : pyIns rf ds = some ps) (h2 : pyIns rf es = some qs) (s1 : SeqAt.shaped (.list ps) = true) (s2 : SeqAt.shaped (.list qs) = true) : eqsB rf ds es = some (PyData.eqvAll ps qs) := by
  unfold eqsB
  rw [h1, h2]
  simp [s1, s2]
theorem rf_lst {h : Dh} {n : Nat} {a : Addr} {ds : List D} {ps : List PyData} (e : h a = some (.lst ds)) (e2 : pyIns (rfD h n) ds = some ps) : rfD h (n + 1) a = some (.list ps) := by
  unfold rfD
  rw [e]
  simp only [e2]
theorem shaped_by {n : Nat} {d : D} {p : PyData} {rf : Addr → Option PyData} (h : plainD n d = true) (hn : n ≤ 60) (e : pyIn rf d = some p) : SeqAt.shaped p = true := by
  obtain ⟨p', e1, c, dd⟩ := pyIn_plain (rf := rf) n d h
  rw [e] at e1
  cases e1
  unfold SeqAt.shaped
  rw [c, Bool.true_and, decide_eq_true_eq]; omega
theorem shaped_list {ps : List PyData} (h : SeqAt.shaped (.tuple ps) = true) : SeqAt.shaped (.list ps) = true := by
  unfold SeqAt.shaped at h ⊢
  rw [Bool.and_eq_true, decide_eq_true_eq] at h ⊢
  simp only [PyData.canLay0, PyData.depth] at h ⊢
  exact h
end DL
namespace DL
open PySem L2 PySem.Spec PyProof.Rows
theorem rows_get {i j : Nat} {ks : List Int} {rs : List D} {k : Int} {r : D} (h : ks.length = rs.length) (e1 : ks[j]? = some k) (e2 : rs[j]? = some r) : (rowsOf i ks rs)[j]? = some (k, r, i + j) := by
  induction rs generalizing i j ks with
  | nil => cases e2
  | cons x rs ih =>
    cases ks with
    | nil => cases h
    | cons y ks =>
      cases j with
      | zero => cases e1; cases e2; rfl
      | succ j =>
        show (rowsOf (i + 1) ks rs)[j]? = _
        rw [ih (by simpa using h) (by simpa using e1) (by simpa using e2), show i + 1 + j = i + (j + 1) by omega]
theorem dput_swap {h : Dh} {a b : Addr} {o u : DO} (n : a ≠ b) : dput (dput h a o) b u = dput (dput h b u) a o := by
  funext c
  by_cases q : c = b
  · subst q; rw [dput_same, dput_ne n.symm, dput_same]
  · rw [dput_ne q]
    by_cases z : c = a
    · subst z; rw [dput_same, dput_same]
    · rw [dput_ne z, dput_ne z, dput_ne q]
end DL
namespace DL
open PySem L2 PySem.Spec PyProof.Rows
theorem Dis.off {V h : Dh} {a : Addr} {o : DO} (d : Dis V h) (e : V a = some o) : h a = none := by
  cases q : h a with
  | none => rfl
  | some u => have := d a (by rw [q]; simp); rw [e] at this; cases this
theorem hdl_f {V V2 : Dh} {a b f : Addr} {o u : DO} (h : V2 = dput (dput V a o) b u) (e : V2 f = none) : V f = none := by
  rw [h] at e
  obtain ⟨_, e⟩ := dput_none e
  exact (dput_none e).2
end DL
namespace DL
open PySem L2 PySem.Spec PyProof.Rows
theorem for_cons {guard : Wd → Prop} {g : Tg} {tb : TSD} {E : EndsD} {x : D} {r : List D} {δ : Sd} {W : Wd} : dForGo guard g tb E (x :: r) δ W =
  (tgD g x δ W fun δ2 W2 => tb { E with nx := fun δ3 W3 => WkQ (fun W4 => guard W4 ∧ dForGo guard g tb E r δ3 W4) W3, ct := fun δ3 W3 => WkQ (fun W4 => guard W4 ∧ dForGo guard g tb E r δ3 W4) W3, bk := E.nx } δ2 W2) := rfl
theorem for_nil {guard : Wd → Prop} {g : Tg} {tb : TSD} {E : EndsD} {δ : Sd} {W : Wd} : dForGo guard g tb E [] δ W = E.nx δ W := rfl
end DL
namespace DL
theorem cxH_K {CX : L2.CXT} {P : PySem.Program} {w : PySem.World} {K : PySem.W.Frag} {mg : PySem.Str → Option PySem.Value} {base : PySem.Heap} {N : List PySem.Str} {qual : PySem.Str} {scope : PySem.Scope} {f : PySem.Addr} {cd : PySem.Value} {A : PySem.Around} {outer : List PySem.Env} {s : PySem.Shared} {H : L2.Hp} {E : L2.XK} {p : PySem.Addr × PySem.Obj} : (L2H.cxH CX P w K mg base N qual scope f cd A outer s H E p).K = K := rfl
end DL

namespace DL
open PySem L2 PySem.Spec PyProof.Rows
/-! ### l.extend(t), t a tuple -/
open PySem.AutoSeq1 in
theorem ext_tup (l : Addr) (items : Array Value) (n : Nat) (b : Addr) (items2 : Array Value) (n2 : Nat) (d : Option Addr) (sl : Array (Option Value)) (h0 : ¬(!items.isEmpty && Builtin.List.listTooLong (items.size + items2.size)) = true) (h1 : items.size ≤ sizeLine) (h2 : items.size + items2.size ≤ sizeLine + 1) :
    Meets (Builtin.«list.extend» ⟨[.ref l, .ref b], []⟩) (fun _ R s => s.heap.get? l = some { cls := .type "list", dict := none, data := .seq items n, slots := #[] } ∧ s.heap.get? b = some { cls := .type "tuple", dict := d, data := .seq items2 n2, slots := sl } ∧ R (.ok (.ret Value.none)) { s with heap := s.heap.update l (Obj.mapSeq fun x => x ++ items2), toks := s.toks }) :=
  .of_wp fun prog w A R s h => by
    obtain ⟨hp, g, dr, tk, os⟩ := s
    obtain ⟨hl, hb, h⟩ := h
    have z1 := idx_int; have z2 := AutoSeq1.sub_tuple_tuple; have z3 := AutoSeq1.sub_list_list; have z4 := AutoSeq1.sub_tuple_list; have z5 := AutoSeq1.sub_list_tuple
    have hz' : (items ++ items2).size ≤ sizeLine + 1 := by rw [Array.size_append]; exact h2
    wp_walk using (wpAny_updateSeq hl rfl (hz := h1) (_hz' := hz')), wpAny_loadPart' hl, wpAny_loadPart' hb
    exact ⟨_, rfl, h⟩
def rExtT (K : PySem.W.Frag) : V → List V → Hp → VK → Prop := fun x vs H Q => ∃ l b xs zs, x = .ref l ∧ vs = [.ref b] ∧ H l = some (.lst xs) ∧ (H b = some (.lst zs) ∨ SqT K H b zs) ∧ xs.length + zs.length ≤ sizeLine ∧ Q .non (upd H l (.lst (xs ++ zs)))
theorem mt_extT {X : Cx} : MtM X "list.extend" (rExtT X.K) := by
  intro pins s σ H x vs v us Q I rx rv h
  obtain ⟨l, b, xs, zs, rfl, rfl, hH, hB, hz, q⟩ := h
  rcases hB with hB | hB
  · exact mt_extend pins s σ H _ _ v us Q I rx rv ⟨l, b, xs, zs, rfl, rfl, hH, hB, hz, q⟩
  · cases rx
    obtain ⟨u, rfl, ru⟩ := rv.one
    cases ru
    obtain ⟨z, its, n, r, hl, e⟩ := I.lstM hH
    obtain ⟨its2, r2, ⟨o2, e2, ec, n2, ed⟩, hz2⟩ := I.tuple hB
    obtain ⟨oc, od, odt, osl⟩ := o2
    simp only at ec ed
    subst ec; subst ed
    have l1 := r.length
    have l2 := r2.length
    have s1 : its.toArray.size = its.length := List.size_toArray
    have s2 : its2.toArray.size = its2.length := List.size_toArray
    have hsz : its.toArray.size + its2.toArray.size ≤ sizeLine := by omega
    have hlong : ¬ (!its.toArray.isEmpty && Builtin.List.listTooLong (its.toArray.size + its2.toArray.size)) = true := by rw [L2.notLongL hsz, Bool.and_false]; exact Bool.false_ne_true
    refine call_meets F.slot_list_extend ⟨_, e, rfl⟩ F.entry_list_extend (F.args_list_extend_2 _ _) (ext_tup l its.toArray n b its2.toArray n2 od osl hlong (by omega) (by omega)) ⟨e, e2, ?_⟩
    exact ⟨.non, _, I.lset (its' := its ++ its2) hH e (by simp) (r.append r2) (by rw [List.length_append]; omega), rfl, q⟩
def itemsOf (x : D) (W : Wd) (f : List D → Prop) : Prop := match x with
  | .tup es => f es
  | .ref b => onLst (W.hp b) f
  | _ => False
def extV (o x : D) (W : Wd) (q : DK) : Prop := match o with
  | .ref a => onLst (W.hp a) fun ds => itemsOf x W fun es => Sz (ds.length + es.length) ∧ q .non (W.put a (.lst (ds ++ es)))
  | _ => False
theorem rd_extT {a : Addr} {es : List D} {W : Wd} {q : DK} : extV (.ref a) (.tup es) W q = onLst (W.hp a) fun ds => Sz (ds.length + es.length) ∧ q .non (W.put a (.lst (ds ++ es))) := rfl
theorem rd_extL {a b : Addr} {W : Wd} {q : DK} : extV (.ref a) (.ref b) W q = onLst (W.hp a) fun ds => onLst (W.hp b) fun es => Sz (ds.length + es.length) ∧ q .non (W.put a (.lst (ds ++ es))) := rfl
def dExtend (to te : TED) : TED := fun δ W q => to δ W fun o W1 => lstAt W1 o fun _ => te δ W1 fun x W2 => extV o x W2 q
theorem rd_extend {to te : TED} {δ : Sd} {W : Wd} {q : DK} : dExtend to te δ W q = to δ W fun o W1 => lstAt W1 o fun _ => te δ W1 fun x W2 => extV o x W2 q := rfl
section
variable {X : Cx} {Ed : WXD} {Ex : WX} {to te : TED}
theorem de_extend {ce : Expr} (h : PE X ce (tBM X.K "list" (rExtT X.K) (upE X.K Ed Ex to) (tCons (upE X.K Ed Ex te) tNil))) : PE X ce (upE X.K Ed Ex (dExtend to te)) := h.imp fun σ H Q h => by
  obtain ⟨δ, W, P, q, rs, rw, x, h, k⟩ := h
  refine ⟨δ, W, P, _, rs, rw, x, h, fun d W1 P1 v H1 s1 r1 rw1 h1 => ?_⟩
  obtain ⟨a, ds, xs, rfl, rfl, _, g1, g2, h2⟩ := lstAt_rep rw1 r1 h1
  refine ⟨tyV_list g1, δ, W1, P1, _, rs.step s1, rw1, x.after s1, h2, fun d2 W2 P2 v2 H2 s2 r2 rw2 h3 => ?_⟩
  obtain ⟨ds2, eds, h4⟩ := onLst_inv (show onLst (W2.hp a) _ from h3)
  obtain ⟨u, f1, ys, rfl, f2⟩ := rw2.vis _ _ eds
  have fin : ∀ (b : Addr) (zs : List V) (es : List D), v2 = .ref b → (H2 b = some (.lst zs) ∨ SqT X.K H2 b zs) → repVs X.K H2 es zs → Sz (ds2.length + es.length) ∧ q .non (W2.put a (.lst (ds2 ++ es))) → rExtT X.K (.ref a) [v2] H2 Q := fun b zs es e1 e2 e3 e4 => by
    have sw := Step.write (K := X.K) (o := .lst (ys ++ zs)) (d := .lst (ds2 ++ es)) rw2 eds
    refine ⟨a, b, ys, zs, rfl, by rw [e1], f1, e2, by have := e4.1; rw [repVs_len f2, repVs_len e3] at this; have := sizeLine_eq; unfold Sz at *; omega, ?_⟩
    exact k .non _ P2 _ _ ((s1.trans s2).trans sw) rfl (rw2.write eds ⟨_, rfl, repVs_append (repVs_step f2 sw) (repVs_step e3 sw)⟩) e4.2
  cases d2 with
  | tup es =>
    obtain ⟨t, zs, e1, hs, e3⟩ := r2
    exact fin t zs es e1 (.inr hs.1) e3 h4
  | ref b =>
    obtain ⟨es, ees, h5⟩ := onLst_inv (show onLst (W2.hp b) _ from h4)
    obtain ⟨u, f3, zs, rfl, f4⟩ := rw2.vis _ _ ees
    exact fin b zs es r2 (.inl f3) f4 h5
  | _ => exact h4.elim
/-! ### l.clear() -/
def clrV (o : D) (W : Wd) (q : DK) : Prop := match o with
  | .ref a => onLst (W.hp a) fun _ => q .non (W.put a (.lst []))
  | _ => False
theorem rd_clrV {a : Addr} {W : Wd} {q : DK} : clrV (.ref a) W q = onLst (W.hp a) fun _ => q .non (W.put a (.lst [])) := rfl
def dClear (to : TED) : TED := fun δ W q => to δ W fun o W1 => clrV o W1 q
theorem rd_clear {to : TED} {δ : Sd} {W : Wd} {q : DK} : dClear to δ W q = to δ W fun o W1 => clrV o W1 q := rfl
theorem de_clear {ce : Expr} (h : PE X ce (tBM X.K "list" rClear (upE X.K Ed Ex to) tNil)) : PE X ce (upE X.K Ed Ex (dClear to)) := h.imp fun σ H Q h => by
  obtain ⟨δ, W, P, q, rs, rw, x, h, k⟩ := h
  refine ⟨δ, W, P, _, rs, rw, x, h, fun d W1 P1 v H1 s1 r1 rw1 h1 => ?_⟩
  cases d with
  | ref a =>
    obtain ⟨ds2, eds, h4⟩ := onLst_inv (show onLst (W1.hp a) _ from h1)
    obtain ⟨u, f1, ys, rfl, f2⟩ := rw1.vis _ _ eds
    obtain rfl : v = .ref a := r1
    have sw := Step.write (K := X.K) (o := .lst []) (d := .lst []) rw1 eds
    exact ⟨tyV_list f1, a, ys, rfl, rfl, f1, k .non _ P1 _ _ (s1.trans sw) rfl (rw1.write eds ⟨_, rfl, rfl⟩) h4⟩
  | _ => exact h1.elim
end
end DL

namespace DL
open PySem L2 PySem.Spec PyProof.Rows
/-! ### the laws of Flights -/
def grT (g : GrR) : D := .tup [.str g.kind.name, keysD g.keys, .int g.tick]
structure FlOk (A : FlA) : Prop where
  aw : ∀ x ∈ A.away, 0 ≤ x ∧ x < (A.gs.length : Int)
  as_ : A.away.Pairwise (· < ·)
  gk : ∀ g ∈ A.gs, 1 ≤ g.keys.length ∧ g.keys.length ≤ 64 ∧ PyData.strOk g.kind.name = true
  gb : ∀ g ∈ A.gs, ∀ k ∈ g.keys, 0 ≤ k ∧ k ≤ 1000000000000000000
theorem keys_plain {ks : List Int} {n : Nat} : plainD (n + 1) (keysD ks) = true := by unfold keysD; rw [plain_tup]; exact plain_ints
theorem grT_plain {g : GrR} {n : Nat} (h : PyData.strOk g.kind.name = true) : plainD (n + 2) (grT g) = true := by
  unfold grT
  rw [plain_tup, List.all_cons, List.all_cons, List.all_cons, plain_str h, keys_plain, plain_int]; rfl
theorem sort_same {ns : List Int} {W : Wd} {q : List D → Wd → Prop} (hs : ns.Pairwise (· < ·)) (h : q (ns.map D.int) W) : rSortT (ns.map D.int) W q := by
  refine sortT_ints fun ns' p h2 => ?_
  have : ns' = ns := perm_le (num := id) p h2 hs
  rw [this]; exact h
theorem cutD_mem {α : Type} {xs : List α} {lo hi : Option Int} {x : α} (h : x ∈ cutD xs lo hi) : x ∈ xs := by
  unfold cutD at h
  exact List.mem_of_mem_drop (List.mem_of_mem_take h)
theorem eqs_refl {rf : Addr → Option PyData} {ds es : List D} {ps : List PyData} (h1 : pyIns rf ds = some ps) (h2 : pyIns rf es = some ps) (h3 : PyData.canLayAll0 ps = true) (h4 : PyData.depthAll ps ≤ 50) : eqsB rf ds es = some true := by
  have s : SeqAt.shaped (.list ps) = true := by
    unfold SeqAt.shaped
    rw [show (PyData.list ps).canLay0 = PyData.canLayAll0 ps by simp only [PyData.canLay0], h3, Bool.true_and, decide_eq_true_eq]
    simp only [PyData.depth]; omega
  rw [eqs_of h1 h2 s s, SeqAt.eqvAll_refl ps h3]
theorem pys_plain {rf : Addr → Option PyData} {n : Nat} {ds : List D} (h : ds.all (plainD n) = true) : ∃ ps, pyIns rf ds = some ps ∧ PyData.canLayAll0 ps = true ∧ PyData.depthAll ps ≤ n := by
  obtain ⟨p, e, c, d⟩ := pyIn_plain (rf := rf) (n + 1) (.tup ds) h
  simp only [pyIn] at e
  split at e
  · rename_i ps q
    cases e
    refine ⟨ps, q, by simpa only [PyData.canLay0] using c, ?_⟩
    simp only [PyData.depth] at d; omega
  · cases e
theorem pys_any {rf rf' : Addr → Option PyData} {n : Nat} : ∀ {ds : List D}, ds.all (plainD n) = true → pyIns rf ds = pyIns rf' ds := by
  have one : ∀ (n : Nat) (d : D), plainD n d = true → pyIn rf d = pyIn rf' d := by
    intro n
    induction n with
    | zero => intro d h; cases d <;> first | rfl | cases h
    | succ n ih =>
      have go : ∀ ds : List D, ds.all (plainD n) = true → pyIns rf ds = pyIns rf' ds := by
        intro ds
        induction ds with
        | nil => intro _; rfl
        | cons d ds ih2 =>
          intro h
          rw [List.all_cons, Bool.and_eq_true] at h
          simp only [pyIns, ih d h.1, ih2 h.2]
      intro d h
      cases d with
      | tup ds => simp only [pyIn, go ds h]
      | _ => first | rfl | cases h
  intro ds
  induction ds with
  | nil => intro _; rfl
  | cons d ds ih2 =>
    intro h
    rw [List.all_cons, Bool.and_eq_true] at h
    simp only [pyIns, one n d h.1, ih2 h.2]
/-- [x, l] and [x, m], l and m of alike things -/
theorem eqs_ref {h : Dh} {a b : Addr} {ds : List D} {x : D} (ha : h a = some (.lst ds)) (hb : h b = some (.lst ds)) (hd : ds.all (plainD 40) = true) (hx : plainD 40 x = true) : eqsB (rfD h deepN) [x, .ref a] [x, .ref b] = some true := by
  obtain ⟨ps, e1, e2, e3⟩ := pys_plain (rf := rfD h 5) hd
  obtain ⟨p, f1, f2, f3⟩ := pyIn_plain (rf := rfD h 6) 40 x hx
  have ra : rfD h 6 a = some (.list ps) := rf_lst ha e1
  have rb : rfD h 6 b = some (.list ps) := rf_lst hb e1
  refine eqs_refl (ps := [p, .list ps]) ?_ ?_ ?_ ?_
  · show pyIns (rfD h 6) _ = _
    simp only [pyIns, pyIn, f1, ra]
  · show pyIns (rfD h 6) _ = _
    simp only [pyIns, pyIn, f1, rb]
  · simp only [PyData.canLayAll0, PyData.canLay0, f2, e2, Bool.and_self]
  · simp only [PyData.depthAll, PyData.depth]; omega
theorem eqs_ref1 {h : Dh} {a b : Addr} {ds : List D} {x : D} (ha : h a = some (.lst ds)) (hb : h b = some (.lst ds)) (hd : ds.all (plainD 40) = true) (hx : plainD 40 x = true) : eqsB (rfD h deepN) [.ref a, x] [.ref b, x] = some true := by
  obtain ⟨ps, e1, e2, e3⟩ := pys_plain (rf := rfD h 5) hd
  obtain ⟨p, f1, f2, f3⟩ := pyIn_plain (rf := rfD h 6) 40 x hx
  have ra : rfD h 6 a = some (.list ps) := rf_lst ha e1
  have rb : rfD h 6 b = some (.list ps) := rf_lst hb e1
  refine eqs_refl (ps := [.list ps, p]) ?_ ?_ ?_ ?_
  · show pyIns (rfD h 6) _ = _
    simp only [pyIns, pyIn, f1, ra]
  · show pyIns (rfD h 6) _ = _
    simp only [pyIns, pyIn, f1, rb]
  · simp only [PyData.canLayAll0, PyData.canLay0, f2, e2, Bool.and_self]
  · simp only [PyData.depthAll, PyData.depth]; omega
theorem eqs_plain {rf : Addr → Option PyData} {ds : List D} (h : ds.all (plainD 40) = true) : eqsB rf ds ds = some true := by
  obtain ⟨ps, e1, e2, e3⟩ := pys_plain (rf := rf) h
  exact eqs_refl e1 e1 e2 (by omega)
theorem all_map {α : Type} {f : α → D} {n : Nat} {l : List α} (h : ∀ a ∈ l, plainD n (f a) = true) : (l.map f).all (plainD n) = true := by
  rw [List.all_eq_true]
  intro d hd
  obtain ⟨a, ha, rfl⟩ := List.mem_map.mp hd
  exact h a ha
/-- the state of a law of Flights -/
structure F20 (C CG CA p f gc ac : Addr) (A : FlA) (W : Wd) (n m : Nat) : Prop where
  sp : W.hid p = some (.law n)
  sf : W.hid f = some (fltH C CG CA A m)
  nf : W.hp f = none
  sg : W.hp gc = some (.lst (A.gs.map grT))
  sa : W.hp ac = some (.lst (A.away.map D.int))
  ok : FlOk A
  gl : A.gs.length ≤ m
  npf : p ≠ f
  nga : gc ≠ ac
/-- a refusal is told -/
def errQ (nm : Str) (W : Wd) (q : DK) : Prop := ∀ b l, W.hp b = none → W.hid b = none → l ≠ b → W.hp l = none → W.hid l = none → q (.ref l) ((W.put b (.lst [.str nm])).put l (.lst [.ref b, .bl true]))
theorem upto_ints {lo : Int} {n : Nat} : upto lo n = ((List.range n).map fun i : Nat => lo + (i : Int)).map D.int := by unfold upto; rw [List.map_map]; rfl
end DL

namespace DL
open PySem L2 PySem.Spec PyProof.Rows
theorem bad_list {m : Int} {rs : List D} (h : ∃ r ∈ rs, isResD r = false) : isAnsD m (.tup [.str "list", .tup rs]) = false := by
  rw [isAns2, isS_str, decide_eq_true rfl, if_pos rfl]
  show (decide ((rs.length : Int) = m) && rs.all isResD) = false
  obtain ⟨r, hr, e⟩ := h
  have : rs.all isResD = false := by
    rw [List.all_eq_false]
    exact ⟨r, hr, by rw [e]; exact Bool.false_ne_true⟩
  rw [this, Bool.and_false]
theorem bad_len {m : Int} {rs : List D} (h : (rs.length : Int) ≠ m) : isAnsD m (.tup [.str "list", .tup rs]) = false := by
  rw [isAns2, isS_str, decide_eq_true rfl, if_pos rfl]
  show (decide ((rs.length : Int) = m) && rs.all isResD) = false
  rw [decide_eq_false h, Bool.false_and]
/-- pairs that are no results -/
theorem good_pair {W : Wd} {x y : D} (hx : plainD 60 x = true) (h1 : goodN W 0 x) (h2 : goodN W 0 y) : goodN W 1 (.tup [x, y]) := good_cons (.inl hx) (by simp) h1 (by intro e he; rw [List.mem_singleton] at he; subst he; exact h2)
theorem good_strp {W : Wd} {z : Str} {y : D} {n : Nat} (hz : PyData.strOk z = true) (hl : z.length ≤ 1000000) (h2 : goodN W n y) : goodN W (n + 1) (.tup [.str z, y]) := good_cons (.inl (plain_str hz)) (by simp) (good_str ⟨hl, hz⟩) (by intro e he; rw [List.mem_singleton] at he; subst he; exact h2)
theorem shown_lst {W : Wd} {a : Addr} {ds : List D} (h : W.hp a = some (.lst ds)) : shown W (.ref a) := ⟨⟨"list", by show (match W.hp a with | some (.lst _) => some "list" | some (.dK _) => some "dict" | some (.dT _) => some "dict" | some (.set _ _) => some "set" | _ => none) = _; rw [h]⟩, fun _ e => by cases e⟩
theorem shown_dK {W : Wd} {a : Addr} {ds : List (Key × D)} (h : W.hp a = some (.dK ds)) : shown W (.ref a) := ⟨⟨"dict", by show (match W.hp a with | some (.lst _) => some "list" | some (.dK _) => some "dict" | some (.dT _) => some "dict" | some (.set _ _) => some "set" | _ => none) = _; rw [h]⟩, fun _ e => by cases e⟩
theorem good_ref {W : Wd} {a : Addr} {n : Nat} (h : shown W (.ref a)) : goodN W n (.ref a) := good_flat (fun _ h => nomatch h) h
theorem good_list {W : Wd} {rs : List D} (hl : rs.length ≤ 1000) (h : ∀ r ∈ rs, goodN W 1 r) : goodN W 3 (.tup [.str "list", .tup rs]) := good_strp (by decide +kernel) (by decide +kernel) (good_two h hl)
theorem ans1_bad {m : Int} {z : Str} (h : z ≠ "full") : isAnsD m (.tup [.str z]) = false := by rw [isAns1, isS_str, decide_eq_false h]
theorem ans2_bad {m : Int} {z : Str} {y : D} (h : z ≠ "list") (h2 : z ≠ "whole") : isAnsD m (.tup [.str z, y]) = false := by
  rw [isAns2, isS_str, isS_str, decide_eq_false h, decide_eq_false h2]; rfl
theorem ans2_whole {m : Int} {y : D} (h : isLetD y 12 = false) : isAnsD m (.tup [.str "whole", y]) = false := by
  rw [isAns2, isS_str, isS_str, decide_eq_false (by decide +kernel), decide_eq_true rfl, h]; rfl
/-! ### tuple * int, none and once too -/
open PySem.AutoSeq1 in
theorem tup_once (l : Addr) (items : Array Value) (n : Nat) (d : Option Addr) (sl : Array (Option Value)) (u : Tok) :
    Meets (Builtin.«tuple.__mul__» ⟨[.ref l, .int 1 u], []⟩) (fun _ R s => s.heap.get? l = some { cls := .type "tuple", dict := d, data := .seq items n, slots := sl } ∧ R (.ok (.ret (Value.ref l))) s) :=
  .of_wp fun prog w A R s h => by
    obtain ⟨hp, g, dr, tk, os⟩ := s
    obtain ⟨hl, h⟩ := h
    have z1 := idx_int
    wp_walk using wpAny_loadPart' hl
    repeat (first
      | (refine wpAny_ite_false (by decide) ?_; wp_walk using wpAny_loadPart' hl)
      | (refine wpAny_ite_true (by simp) ?_; wp_walk using wpAny_loadPart' hl))
    exact ⟨_, rfl, h⟩
open PySem.AutoSeq1 in
theorem tup_none (l : Addr) (items : Array Value) (n : Nat) (d : Option Addr) (sl : Array (Option Value)) (u : Tok) (hi : items.isEmpty = false) :
    Meets (Builtin.«tuple.__mul__» ⟨[.ref l, .int 0 u], []⟩) (fun _ R s => s.heap.get? l = some { cls := .type "tuple", dict := d, data := .seq items n, slots := sl } ∧ R (.ok (.ret (Value.ref s.heap.objs.size))) { s with heap := s.heap.push { cls := Value.type "tuple", data := Data.seq #[] }, toks := s.toks }) :=
  .of_wp fun prog w A R s h => by
    obtain ⟨hp, g, dr, tk, os⟩ := s
    obtain ⟨hl, h⟩ := h
    have z1 := idx_int
    wp_walk using wpAny_loadPart' hl
    repeat (first
      | (refine wpAny_ite_false (by simp [hi]) ?_; wp_walk using wpAny_loadPart' hl)
      | (refine wpAny_ite_true (by simp) ?_; wp_walk using wpAny_loadPart' hl))
    exact ⟨_, rfl, h⟩
section
variable {X : Cx}
/-- a tuple times 0, 1: what stands behind the call's end -/
theorem op_few {pins : List (Addr × Obj)} {σ : L2.St} {H : Hp} {s : Shared} {l : Addr} {k : Int} {tk : Tok} {xs : List V} {Q : VK} (I : Inv X pins σ H s) (hT : SqT X.K H l xs) (hne : xs ≠ []) (hk : k = 0 ∨ k = 1)
    (q0 : k = 0 → ∀ p, H p = none → Q (.ref p) (upd H p (.tup []))) (q1 : k = 1 → Q (.ref l) H) : wpAny (model X.prog X.w) X.A (binaryOp .Mult (.ref l) (.int k tk)) (EP X pins σ Q) X.xe s := by
  obtain ⟨its, r, ⟨⟨cls, dd, data, sl⟩, ho, hc, n, hd⟩, hs⟩ := I.tuple hT
  simp only at hc hd
  subst hc hd
  have hn : its ≠ [] := fun e => hne (List.eq_nil_of_length_eq_zero (by rw [r.length, e]; rfl))
  have hi : its.toArray.isEmpty = false := by cases its with
    | nil => exact absurd rfl hn
    | cons a b => rfl
  refine wpAny_binaryOp_repeat_ref (T := "tuple") (U := "int") (by decide) ⟨_, ho, rfl⟩ (fun s' => typeIs_int s' k tk) noFill_tuple_mul F.fills_int_mul F.slot_int_rmul repeat_tuple F.slot_int_index.lookup
    (call_meets F.slot_int_rmul (typeIs_int s k tk) F.entry_int_rmul (F.args_int_rmul_2 _ _) (int_rmul_tuple k tk l its.toArray n dd sl) ⟨ho, rfl, ⟨_, ho, rfl⟩, ?_⟩)
  rcases hk with rfl | rfl
  · refine call_meets F.slot_tuple_mul ⟨_, ho, rfl⟩ F.entry_tuple_mul (F.args_tuple_mul_2 _ _) (tup_none l its.toArray n dd sl tk hi) ⟨ho, ?_⟩
    exact ⟨.ref s.heap.objs.size, _, I.laid (t' := s.toks) (o := .tup []) (fun b ob q => Heap.get?_push_of_some _ q) (Nat.le_refl _) ⟨by rw [sizeLine_eq]; simp, [], .nil, IsTup.new _ _⟩, rfl, q0 rfl _ (I.hok.fresh (Nat.le_refl _))⟩
  · refine call_meets F.slot_tuple_mul ⟨_, ho, rfl⟩ F.entry_tuple_mul (F.args_tuple_mul_2 _ _) (tup_once l its.toArray n dd sl tk) ⟨ho, ?_⟩
    exact ⟨.ref l, H, I, rfl, q1 rfl⟩
def dRepT2 : DR2 := fun x y W q => match x, y with
  | .tup ds, .int k => ds ≠ [] ∧ 0 ≤ k ∧ k ≤ 1000 ∧ ds.length ≤ 1000 ∧ q (.tup (List.replicate k.toNat ds).flatten) W
  | _, _ => False
theorem rv_repT2 {ds : List D} {k : Int} {W : Wd} {q : DK} : dRepT2 (.tup ds) (.int k) W q = (ds ≠ [] ∧ 0 ≤ k ∧ k ≤ 1000 ∧ ds.length ≤ 1000 ∧ q (.tup (List.replicate k.toNat ds).flatten) W) := rfl
theorem dop_repT2 : DOp X (binaryOp .Mult) dRepT2 := by
  intro pins s σ H x y v u Q I rx ry h
  obtain ⟨d, e, W, P, q, r1, r2, rw, h, k⟩ := h
  cases d with
  | tup ds => cases e with
    | int i =>
      obtain ⟨h1, h2, h3, h4, h⟩ := h
      obtain rfl : y = .int i := r2
      by_cases c : 2 ≤ i
      · exact dop_repT pins s σ H x (.int i) v u Q I rx ry ⟨.tup ds, .int i, W, P, q, r1, rfl, rw, ⟨h1, c, h3, h4, h⟩, k⟩
      · have r1' := r1
        obtain ⟨a, xs, rfl, st, r⟩ := r1
        cases rx
        obtain ⟨tk, rfl⟩ := ry
        refine op_few I st.1 (by rintro rfl; exact h1 (List.length_eq_zero_iff.mp (repVs_len r))) (by omega) (fun e => ?_) (fun e => ?_)
        · subst e
          exact arr_newTup k (ds := []) rfl rw h
        · subst e
          refine k (.tup ds) W P (.ref a) H .refl r1' rw ?_
          have : (List.replicate (1 : Int).toNat ds).flatten = ds := by simp
          rw [← this]; exact h
    | _ => exact h.elim
  | _ => cases e <;> exact h.elim
end
end DL
namespace DL
open PySem L2 PySem.Spec PyProof.Rows
theorem FlOk.hand {A : FlA} (h : FlOk A) {k : KindR} {keys : List Int} {tick : Int} (h1 : 1 ≤ keys.length) (h2 : keys.length ≤ 64) (h3 : PyData.strOk k.name = true) (h4 : ∀ x ∈ keys, 0 ≤ x ∧ x ≤ 1000000000000000000) : FlOk (A.hand k keys tick) := by
  refine ⟨fun x hx => ?_, ?_, fun g hg => ?_, fun g hg => ?_⟩
  · show 0 ≤ x ∧ x < ((A.gs ++ [(⟨k, keys, tick⟩ : GrR)]).length : Int)
    rw [List.length_append, List.length_singleton]
    rcases List.mem_append.mp (show x ∈ A.away ++ [(A.gs.length : Int)] from hx) with hx | hx
    · have := h.aw x hx; omega
    · rw [List.mem_singleton] at hx; omega
  · show (A.away ++ [(A.gs.length : Int)]).Pairwise (· < ·)
    rw [List.pairwise_append]
    exact ⟨h.as_, List.pairwise_singleton _ _, fun x hx y hy => by rw [List.mem_singleton] at hy; subst hy; exact (h.aw x hx).2⟩
  · rcases List.mem_append.mp (show g ∈ A.gs ++ [(⟨k, keys, tick⟩ : GrR)] from hg) with hg | hg
    · exact h.gk g hg
    · rw [List.mem_singleton] at hg; subst hg; exact ⟨h1, h2, h3⟩
  · rcases List.mem_append.mp (show g ∈ A.gs ++ [(⟨k, keys, tick⟩ : GrR)] from hg) with hg | hg
    · exact h.gb g hg
    · rw [List.mem_singleton] at hg; subst hg; exact h4
theorem FlOk.out {A : FlA} (h : FlOk A) {x : Int} : FlOk (A.out x) := ⟨fun y hy => h.aw y (List.mem_of_mem_erase hy), h.as_.sublist List.erase_sublist, h.gk, h.gb⟩
theorem at_gs {α : Type} {L : List α} {f : α → D} {x : Int} {g : α} (h0 : 0 ≤ x) (h : L[x.toNat]? = some g) : atI (L.map f) x = some (f g) := by
  have := atI_nat (xs := L.map f) (j := x.toNat) (v := f g) (by rw [List.getElem?_map, h]; rfl)
  rwa [show ((x.toNat : Nat) : Int) = x by omega] at this
theorem gs_at {A : FlA} (h : FlOk A) {x : Int} (hx : x ∈ A.away) : ∃ g, A.gs[x.toNat]? = some g ∧ atI (A.gs.map grT) x = some (grT g) := by
  obtain ⟨h1, h2⟩ := h.aw x hx
  have hj : x.toNat < A.gs.length := by omega
  exact ⟨_, List.getElem?_eq_getElem hj, at_gs h1 (List.getElem?_eq_getElem hj)⟩
end DL
namespace DL
open PySem L2 PySem.Spec PyProof.Rows
theorem err_eq {h : Dh} {b l c : Addr} (n1 : l ≠ b) (n2 : c ≠ l) (n3 : c ≠ b) (nm : Str) (ho : PyData.strOk nm = true) : eqsB (rfD (dput (dput (dput h b (.lst [D.str nm])) l (.lst [D.ref b, D.bl true])) c (.lst [D.str nm])) deepN) [.ref b, .bl true] [.ref c, .bl true] = some true :=
  eqs_ref1 (ds := [D.str nm]) (by rw [dput_ne n3.symm, dput_ne n1.symm, dput_same]) dput_same (by rw [List.all_cons, plain_str ho]; rfl) rfl
end DL
namespace DL
open PySem L2 PySem.Spec PyProof.Rows
theorem ResOk.plainn {x : D} (h : ResOk x) {n : Nat} : plainD (n + 1) x = true := by
  rcases h with rfl | ⟨z, hz, rfl⟩ | ⟨i, _, _, rfl⟩
  · rw [plain_tup, List.all_cons, plain_str (by decide +kernel)]; rfl
  · rw [plain_tup, List.all_cons, List.all_cons, plain_str (by decide +kernel), plain_str hz.ok]; rfl
  · rw [plain_tup, List.all_cons, List.all_cons, plain_str (by decide +kernel), plain_int]; rfl
theorem setl_plain {k : Int} {r : D} {i : Nat} {n : Nat} (h : ResOk r) : plainD (n + 2) (setlD (k, r, i)) = true := by
  unfold setlD
  rw [plain_tup, List.all_cons, List.all_cons, List.all_cons, plain_int, h.plainn, plain_int]; rfl
theorem tk_noag {k : KindR} {rs : List D} (h : ∀ r ∈ rs, isAg r = false) : ∀ {i : Nat} {keys : List Int} {s : TkS}, (rowsOf i keys rs).foldl (tkStep k) s = ⟨s.st ++ rowsOf i keys rs, s.ag, s.c⟩ := by
  induction rs with
  | nil => intro i keys s; cases keys <;> simp [rowsOf]
  | cons r rs ih =>
    intro i keys s
    cases keys with
    | nil => simp [rowsOf]
    | cons x keys =>
      show (rowsOf (i + 1) keys rs).foldl (tkStep k) (tkStep k s (x, r, i)) = _
      rw [ih fun r hr => h r (List.mem_cons_of_mem _ hr)]
      have e : tkStep k s (x, r, i) = { s with st := s.st ++ [(x, r, i)] } := by
        unfold tkStep
        rw [if_neg (by rw [h r List.mem_cons_self]; exact Bool.false_ne_true)]
      rw [e]
      simp [rowsOf]
theorem list_noag {A : FlA} {g : GrR} {rs : List D} (h : ∀ r ∈ rs, isAg r = false) : A.list g rs = (rowsOf 0 g.keys rs, A) := by
  unfold FlA.list tkAll
  rw [tk_noag h]
  simp [lsAdd]
end DL
namespace DL
open PySem L2 PySem.Spec PyProof.Rows
theorem F20.law {C CG CA p f gc ac : Addr} {A : FlA} {W : Wd} {n m n2 : Nat} (s : F20 C CG CA p f gc ac A W n m) : F20 C CG CA p f gc ac A (W.hide p (.law n2)) n2 m :=
  ⟨hset_same, by rw [wd_hide_hid, hset_ne s.npf.symm]; exact s.sf, s.nf, s.sg, s.sa, s.ok, s.gl, s.npf, s.nga⟩
end DL

namespace DL
open PySem L2 PySem.Spec PyProof.Rows
theorem ne_nat {o : Option Int} {t : Int} {W : Wd} {q : DK} : dNe (natD o) (.int t) W q = q (.bl (decide (o ≠ some t))) W := by
  cases o with
  | none =>
    unfold natD dNe
    have : eqB (rfD W.hp deepN) .non (.int t) = some false := by
      rw [eqB_of (p := .none) (e := .int t) rfl rfl (shaped_by (n := 1) (d := .non) (rf := rfD W.hp deepN) rfl (by decide) rfl) shaped_int]
      simp [PyData.eqv]
    rw [this]
    simp
  | some i =>
    show dNe (.int i) (.int t) W q = _
    rw [rv_ne_int]
    congr 2
    simp
theorem ne_nilT {ks : List Int} {W : Wd} {q : DK} : dNe (.tup (ks.map D.int)) (.tup []) W q = q (.bl (decide (ks ≠ []))) W := by
  unfold dNe
  obtain ⟨ps, e1, e2, e3⟩ := pys_plain (rf := rfD W.hp deepN) (n := 1) (plain_ints (ns := ks))
  have hp : pyIn (rfD W.hp deepN) (.tup (ks.map D.int)) = some (.tuple (ks.map PyData.int)) := by simp only [pyIn, py_ints]
  have hs : SeqAt.shaped (.tuple (ks.map PyData.int)) = true := shaped_by (n := 2) (d := .tup (ks.map D.int)) (by rw [plain_tup]; exact plain_ints) (by decide) hp
  have hs0 : SeqAt.shaped (.tuple []) = true := shaped_by (n := 2) (d := .tup []) (rf := rfD W.hp deepN) rfl (by decide) rfl
  rw [eqB_of hp (show pyIn (rfD W.hp deepN) (.tup []) = some (.tuple []) from rfl) hs hs0]
  cases ks with
  | nil => simp [PyData.eqv, PyData.eqvAll]
  | cons k ks => simp [PyData.eqv, PyData.eqvAll]
theorem in_keys {k : Int} {ks : List Int} {W : Wd} {q : DK} : dIn (.int k) (.tup (ks.map D.int)) W q = q (.bl (decide (k ∈ ks))) W := by
  rw [rv_in_tup]
  have h : (ks.map D.int).all flatD = true := by rw [List.all_eq_true]; intro d h; obtain ⟨i, _, rfl⟩ := List.mem_map.mp h; rfl
  have h2 : (ks.map D.int).map toV = ks.map V.int := by rw [List.map_map]; rfl
  rw [h, h2, show flatD (.int k) = true from rfl, eq_self, true_and, true_and, show toV (.int k) = V.int k from rfl, inV_int]
/-! ### an attribute of an object of one class or another -/
def insAt2 (C1 C2 : Addr) (o : Option DO) (g : List (Str × D) → Prop) : Prop := match o with
  | some (.ins C fs) => (C = C1 ∨ C = C2) ∧ g fs
  | _ => False
def fldV2 (C1 C2 : Addr) (f : Str) (o : D) (W : Wd) (q : DK) : Prop := match o with
  | .ref a => insAt2 C1 C2 (W.hp a) fun fs => onSome (fs.lookup f) fun d => q d W
  | _ => False
def dFld2 (C1 C2 : Addr) (f : Str) (ta : TED) : TED := fun δ W q => ta δ W fun o W1 => fldV2 C1 C2 f o W1 q
theorem rd_fld2 {C1 C2 : Addr} {f : Str} {ta : TED} {δ : Sd} {W : Wd} {q : DK} : dFld2 C1 C2 f ta δ W q = ta δ W fun o W1 => fldV2 C1 C2 f o W1 q := rfl
theorem rd_fldV2 {C1 C2 : Addr} {f : Str} {a : Addr} {W : Wd} {q : DK} : fldV2 C1 C2 f (.ref a) W q = insAt2 C1 C2 (W.hp a) fun fs => onSome (fs.lookup f) fun d => q d W := rfl
theorem ins_at1 {C1 C2 : Addr} {fs : List (Str × D)} {g : List (Str × D) → Prop} : insAt2 C1 C2 (some (.ins C1 fs)) g = g fs := by unfold insAt2; simp
theorem ins_at2 {C1 C2 : Addr} {fs : List (Str × D)} {g : List (Str × D) → Prop} : insAt2 C1 C2 (some (.ins C2 fs)) g = g fs := by unfold insAt2; simp
theorem de_fld2 {X : Cx} {Ed : WXD} {Ex : WX} {C1 C2 : Addr} {e : Expr} {f : Str} {ta : TED} {pos : Pos} (c1 : Cls X.K C1) (n1 : NoAttr X.K C1 f) (c2 : Cls X.K C2) (n2 : NoAttr X.K C2 f) (he : PE X e (upE X.K Ed Ex ta)) (hb : attributeBase e f X.env (eval e X.env) = eval e X.env := by rfl) : PE X (.Attribute e f pos) (upE X.K Ed Ex (dFld2 C1 C2 f ta)) := (pe_fld he hb).imp fun _ _ _ h => by
  obtain ⟨δ, W, P, q, rs, rw, x, h, k⟩ := h
  refine ⟨δ, W, P, _, rs, rw, x, h, fun o W1 P1 v H1 s1 r1 rw1 h1 => ?_⟩
  cases o with
  | ref a =>
    have h1 : insAt2 C1 C2 (W1.hp a) fun fs => onSome (fs.lookup f) fun d => q d W1 := h1
    unfold insAt2 at h1
    split at h1
    · rename_i C fs e1
      obtain ⟨hc, h2⟩ := h1
      obtain ⟨d, e2, h3⟩ := onSome_inv h2
      obtain ⟨u, g1, dx, xs, rfl, g2⟩ := rw1.vis _ _ e1
      obtain ⟨w, l, rd⟩ := repKV_look g2 e2
      rcases hc with rfl | rfl
      · exact ⟨a, C, dx, xs, w, r1, g1, c1, n1, l, k d W1 P1 w H1 s1 rd rw1 h3⟩
      · exact ⟨a, C, dx, xs, w, r1, g1, c2, n2, l, k d W1 P1 w H1 s1 rd rw1 h3⟩
    · exact h1.elim
  | _ => exact h1.elim
def lsT (l : AgR) : D := .tup [.str l.kind.name, keysD l.keys]
end DL
namespace DL
open PySem L2 PySem.Spec PyProof.Rows
abbrev HeldR := Addr × (Str × List Int)
def heldG (G : List (Addr × GrR)) (x : Int) : HeldR := match G[x.toNat]? with
  | some y => (y.1, (y.2.kind.name, y.2.keys))
  | none => (0, (⟨#[]⟩, []))
def heldL (x : Addr × AgR) : HeldR := (x.1, (x.2.kind.name, x.2.keys))
section
variable {C CG CA p : Addr} {A : FlA} {n : Nat} {h : Dh} {g0 a0 t0 c0 : Addr} {G : List (Addr × GrR)} {L : List (Addr × AgR)}
theorem FlR.gAt (r : FlR C CG CA p A n h g0 a0 t0 c0 G L) {x : Int} (hx : x ∈ A.away) : ∃ y, G[x.toNat]? = some y ∧ A.gs[x.toNat]? = some y.2 ∧ y ∈ G := by
  obtain ⟨h1, h2⟩ := r.aw x hx
  have hl : G.length = A.gs.length := by rw [r.eg, List.length_map]
  have hj : x.toNat < G.length := by omega
  refine ⟨G[x.toNat], List.getElem?_eq_getElem hj, ?_, List.getElem_mem _⟩
  rw [r.eg, List.getElem?_map, List.getElem?_eq_getElem hj]; rfl
theorem FlR.heldO (r : FlR C CG CA p A n h g0 a0 t0 c0 G L) {e : HeldR} (he : e ∈ A.away.map (heldG G) ++ L.map heldL) : (∃ g : GrR, h e.1 = some (grO CG g) ∧ e.2 = (g.kind.name, g.keys)) ∨ ∃ l : AgR, h e.1 = some (agO CA l) ∧ e.2 = (l.kind.name, l.keys) := by
  rcases List.mem_append.mp he with he | he
  · obtain ⟨x, hx, rfl⟩ := List.mem_map.mp he
    obtain ⟨y, e1, e2, e3⟩ := r.gAt hx
    unfold heldG
    rw [e1]
    exact .inl ⟨y.2, r.og y e3, rfl⟩
  · obtain ⟨x, hx, rfl⟩ := List.mem_map.mp he
    exact .inr ⟨x.2, r.ol x hx, rfl⟩
theorem FlR.holds (r : FlR C CG CA p A n h g0 a0 t0 c0 G L) {nm : Str} {key : Int} : A.holds nm key = (A.away.map (heldG G) ++ L.map heldL).any fun e => decide (e.2.1 = nm) && decide (key ∈ e.2.2) := by
  unfold FlA.holds
  rw [List.any_append, List.any_map, List.any_map, r.el, List.any_map]
  congr 1
  have : ∀ (xs : List Int), (∀ x ∈ xs, x ∈ A.away) → (xs.any fun x => match A.gs[x.toNat]? with
      | some g => decide (g.kind.name = nm) && decide (key ∈ g.keys)
      | none => false) = xs.any ((fun e : HeldR => decide (e.2.1 = nm) && decide (key ∈ e.2.2)) ∘ heldG G) := by
    intro xs
    induction xs with
    | nil => intro _; rfl
    | cons x xs ih =>
      intro hh
      rw [List.any_cons, List.any_cons, ih fun y hy => hh y (List.mem_cons_of_mem _ hy)]
      congr 1
      obtain ⟨y, e1, e2, e3⟩ := r.gAt (hh x List.mem_cons_self)
      rw [e2]
      simp only [Function.comp, heldG, e1]
  exact this A.away fun _ h => h
end
theorem filter_ne_nil {α : Type} {f : α → D} {c : α → Bool} {l : List α} : (!decide ((l.filter c).map f = [])) = l.any c := by
  rw [Bool.eq_iff_iff]
  simp [List.filter_eq_nil_iff]
theorem keys_flat {ks : List Int} : (ks.map D.int).all flatD = true := by rw [List.all_eq_true]; intro d h; obtain ⟨i, _, rfl⟩ := List.mem_map.mp h; rfl
theorem keys_in {k : Int} {ks : List Int} : inV (toV (.int k)) ((ks.map D.int).map toV) = decide (k ∈ ks) := by
  rw [List.map_map, show (toV ∘ D.int) = V.int from rfl, show toV (.int k) = V.int k from rfl, inV_int]
theorem Sub.trans' {h g k : Dh} (a : Sub h g) (b : Sub g k) : Sub h k := fun x o e => b x o (a x o e)
/-- more again -/
theorem dropL_snoc {nm : Str} {key : Int} {s : List AgR} {l : AgR} : dropL nm key (s ++ [l]) = dropL nm key s ++ dropL nm key [l] := by
  unfold dropL
  rw [List.map_append, List.filter_append]
end DL

namespace DL
open PySem L2 PySem.Spec PyProof.Rows
/-! ### range(i, j, -1) -/
def downs (lo : Int) (n : Nat) : List D := (List.range n).map fun i : Nat => D.int (lo + (i : Nat) * (-1))
def itR3 (ds : List D) (W : Wd) (q : ItD → Wd → Prop) : Prop := match ds with
  | [.int i, .int j, .int c] => (c = -1 ∧ -(2 ^ 62) ≤ i ∧ i < 2 ^ 62 ∧ -(2 ^ 62) ≤ j ∧ j < 2 ^ 62) ∧ q ⟨downs i (i - j).toNat, gTrue⟩ W
  | _ => False
theorem rd_itR3j {i j c : Int} {W : Wd} {q : ItD → Wd → Prop} : itR3 [.int i, .int j, .int c] W q = ((c = -1 ∧ -(2 ^ 62) ≤ i ∧ i < 2 ^ 62 ∧ -(2 ^ 62) ≤ j ∧ j < 2 ^ 62) ∧ q ⟨downs i (i - j).toNat, gTrue⟩ W) := rfl
def dItR3 (tA : TAD) : TID := fun δ W q => tA δ W fun ds W1 => itR3 ds W1 q
theorem rd_itR3 {tA : TAD} {δ : Sd} {W : Wd} {q : ItD → Wd → Prop} : dItR3 tA δ W q = tA δ W fun ds W1 => itR3 ds W1 q := rfl
theorem ir_down {K : PySem.W.Frag} {W1 : Wd} {P1 : Addr → Dh} {H1 : Hp} {lo : Int} {n : Nat} : ItRep K (Itc lo (-1) n) ⟨downs lo n, gTrue⟩ W1 P1 H1 := fun i W P H _ rw _ => by
  refine ⟨fun d ed => ?_, fun hl => (by have q := hl; simp only [downs, List.length_map, List.length_range] at q; exact q)⟩
  simp only [downs, List.getElem?_map] at ed
  by_cases hi : i < n
  · rw [List.getElem?_range hi] at ed
    cases ed
    refine ⟨hi, fun y H' ⟨eh, ey⟩ => ?_⟩
    subst eh
    exact ⟨.refl, ey, rw⟩
  · rw [List.getElem?_eq_none (by simpa using hi)] at ed; cases ed
theorem di_r3 {X : Cx} {tg : Expr} {Ed : WXD} {Ex : WX} {a b c : Expr} {tA : TAD} {p pos : Pos} (hg : Gl X "range") (hm : X.mg "range" = none) (ha : PA X [a, b, c] (upA X.K Ed Ex tA)) (hs : starEach [a, b, c] X.env = (false, eval a X.env) :: starEach [b, c] X.env := by rfl) (hpl : (backTo pos (starEach [b, c] X.env)).any (·.1) = false := by rfl) :
    PI X tg (.Call (.Name "range" p) [a, b, c] [] pos) (upI X.K Ed Ex (dItR3 tA)) := (pi_range3 hg hm ha hs hpl).imp fun _ _ _ h => by
  obtain ⟨δ, W, P, q, rs, rw, x, h, k⟩ := h
  refine ⟨δ, W, P, _, rs, rw, x, h, fun ds W1 P1 vs H1 s1 r1 rw1 h1 => ?_⟩
  unfold itR3 at h1
  split at h1
  · obtain ⟨v, v2, rfl, r, v3, t3, rfl, r', v4, t4, rfl, r'', e⟩ := (by
      simp only [repVs] at r1
      obtain ⟨v, t, rfl, r, v', t', rfl, r', v'', t'', rfl, r'', e⟩ := r1
      exact ⟨v, _, rfl, r, v', _, rfl, r', v'', _, rfl, r'', e⟩ : ∃ v v2, vs = v :: v2 ∧ repV X.K H1 _ v ∧ ∃ v3 t3, v2 = v3 :: t3 ∧ repV X.K H1 _ v3 ∧ ∃ v4 t4, t3 = v4 :: t4 ∧ repV X.K H1 _ v4 ∧ t4 = [])
    obtain ⟨⟨rfl, b1, b2, b3, b4⟩, h2⟩ := h1
    subst e
    exact ⟨_, _, _, _, by rw [show v = V.int _ from r, show v3 = V.int _ from r', show v4 = V.int _ from r''], RgC.neg b1 b2 b3 b4, k _ W1 P1 _ H1 s1 rw1 ir_down h2⟩
  · exact h1.elim
end DL
namespace DL
open PySem L2 PySem.Spec PyProof.Rows
/-! ### l.pop(i) -/
theorem seq_ix {k : Int} {n : Nat} (h0 : 0 ≤ k) (h1 : k < n) : seqIndex? k n = some k.toNat := by
  unfold seqIndex?
  simp only [if_neg (show ¬ k < 0 by omega)]
  rw [if_pos (by simp; omega)]
def popAt (o x : D) (W : Wd) (q : DK) : Prop := match o, x with
  | .ref a, .int k => onLst (W.hp a) fun ds => 0 ≤ k ∧ k < ds.length ∧ k < 2 ^ 63 ∧ onSome ds[k.toNat]? fun d => q d (W.put a (.lst (ds.eraseIdx k.toNat)))
  | _, _ => False
theorem rd_popAtV {a : Addr} {k : Int} {W : Wd} {q : DK} : popAt (.ref a) (.int k) W q = onLst (W.hp a) fun ds => 0 ≤ k ∧ k < ds.length ∧ k < 2 ^ 63 ∧ onSome ds[k.toNat]? fun d => q d (W.put a (.lst (ds.eraseIdx k.toNat))) := rfl
def dPopAt (to te : TED) : TED := fun δ W q => to δ W fun o W1 => lstAt W1 o fun _ => te δ W1 fun x W2 => popAt o x W2 q
theorem rd_popAt {to te : TED} {δ : Sd} {W : Wd} {q : DK} : dPopAt to te δ W q = to δ W fun o W1 => lstAt W1 o fun _ => te δ W1 fun x W2 => popAt o x W2 q := rfl
theorem erase_rep {K : PySem.W.Frag} {H : Hp} : ∀ {ds : List D} {xs : List V} {j : Nat}, repVs K H ds xs → repVs K H (ds.eraseIdx j) (xs.eraseIdx j)
  | [], xs, j, h => by simp only [repVs] at h; subst h; exact rfl
  | d :: ds, _, 0, h => by
    simp only [repVs] at h
    obtain ⟨x, r, rfl, _, h2⟩ := h
    exact h2
  | d :: ds, _, j + 1, h => by
    simp only [repVs] at h
    obtain ⟨x, r, rfl, h1, h2⟩ := h
    exact ⟨x, _, rfl, h1, erase_rep h2⟩
theorem get_rep {K : PySem.W.Frag} {H : Hp} : ∀ {ds : List D} {xs : List V} {j : Nat} {d : D}, repVs K H ds xs → ds[j]? = some d → ∃ v, xs[j]? = some v ∧ repV K H d v
  | d :: ds, _, 0, e, h, q => by
    simp only [repVs] at h
    obtain ⟨x, r, rfl, h1, _⟩ := h
    cases q
    exact ⟨x, rfl, h1⟩
  | d :: ds, _, j + 1, e, h, q => by
    simp only [repVs] at h
    obtain ⟨x, r, rfl, _, h2⟩ := h
    exact get_rep (ds := ds) (xs := r) (j := j) h2 (by simpa using q)
theorem de_popAt {X : Cx} {Ed : WXD} {Ex : WX} {to te : TED} {ce : Expr} (h : PE X ce (tBM X.K "list" rPopAt (upE X.K Ed Ex to) (tCons (upE X.K Ed Ex te) tNil))) : PE X ce (upE X.K Ed Ex (dPopAt to te)) := h.imp fun σ H Q h => by
  obtain ⟨δ, W, P, q, rs, rw, x, h, k⟩ := h
  refine ⟨δ, W, P, _, rs, rw, x, h, fun d W1 P1 v H1 s1 r1 rw1 h1 => ?_⟩
  obtain ⟨a, ds, xs, rfl, rfl, _, g1, g2, h2⟩ := lstAt_rep rw1 r1 h1
  refine ⟨tyV_list g1, δ, W1, P1, _, rs.step s1, rw1, x.after s1, h2, fun d2 W2 P2 v2 H2 s2 r2 rw2 h3 => ?_⟩
  cases d2 with
  | int i =>
    obtain ⟨ds2, eds, b1, b2, b3, h4⟩ := onLst_inv (show onLst (W2.hp a) _ from h3)
    obtain ⟨d, ed, h5⟩ := onSome_inv h4
    obtain ⟨u, f1, ys, rfl, f2⟩ := rw2.vis _ _ eds
    obtain ⟨y, ey, ry⟩ := get_rep f2 ed
    have sw := Step.write (K := X.K) (o := .lst (ys.eraseIdx i.toNat)) (d := .lst (ds2.eraseIdx i.toNat)) rw2 eds
    refine ⟨a, ys, i, i.toNat, y, rfl, by rw [show v2 = V.int i from r2], f1, by omega, b3, ?_, ey, ?_⟩
    · rw [← repVs_len f2]; exact seq_ix b1 b2
    · exact k d _ P2 _ _ ((s1.trans s2).trans sw) (repV_step ry sw) (rw2.write eds ⟨_, rfl, repVs_step (erase_rep f2) sw⟩) h5
  | _ => exact h3.elim
end DL

namespace DL
open PySem L2 PySem.Spec PyProof.Rows
/-! ### a law's lists beside Flights -/
def grT2 (g : GrR) : D := .tup [.str g.kind.name, keysD g.keys]
def lsD (l : AgR) : D := .tup [.str l.kind.name, keysD l.keys, .int (l.nat.getD (-1))]
def LsOk (ls : List AgR) : Prop := ∀ l ∈ ls, 1 ≤ l.keys.length ∧ l.keys.length ≤ 64 ∧ PyData.strOk l.kind.name = true ∧ (∀ t, l.nat = some t → 0 ≤ t) ∧ ∀ k ∈ l.keys, 0 ≤ k ∧ k ≤ 1000000000000000000
structure F23 (C CG CA p f gc ac lc : Addr) (A : FlA) (W : Wd) (n m : Nat) : Prop where
  sp : W.hid p = some (.law n)
  sf : W.hid f = some (fltH C CG CA A m)
  nf : W.hp f = none
  sg : W.hp gc = some (.lst (A.gs.map grT2))
  sa : W.hp ac = some (.lst (A.away.map D.int))
  sl : W.hp lc = some (.lst (A.ls.map lsD))
  ok : FlOk A
  lo : LsOk A.ls
  gl : A.gs.length ≤ m
  ll : A.ls.length ≤ m
  npf : p ≠ f
  nga : gc ≠ ac
  ngl : gc ≠ lc
  nal : ac ≠ lc
theorem F23.law {C CG CA p f gc ac lc : Addr} {A : FlA} {W : Wd} {n m n2 : Nat} (s : F23 C CG CA p f gc ac lc A W n m) : F23 C CG CA p f gc ac lc A (W.hide p (.law n2)) n2 m :=
  ⟨hset_same, by rw [wd_hide_hid, hset_ne s.npf.symm]; exact s.sf, s.nf, s.sg, s.sa, s.sl, s.ok, s.lo, s.gl, s.ll, s.npf, s.nga, s.ngl, s.nal⟩
theorem gs_at2 {A : FlA} (h : FlOk A) {x : Int} (hx : x ∈ A.away) : ∃ g, A.gs[x.toNat]? = some g ∧ atI (A.gs.map grT2) x = some (grT2 g) := by
  obtain ⟨h1, h2⟩ := h.aw x hx
  have hj : x.toNat < A.gs.length := by omega
  exact ⟨_, List.getElem?_eq_getElem hj, at_gs h1 (List.getElem?_eq_getElem hj)⟩
/-- what is held by the first of the away, of the lists -/
def heldA (A : FlA) (nm : Str) (xs : List Int) : List Int := xs.flatMap fun x => match A.gs[x.toNat]? with
  | some g => if g.kind.name = nm then g.keys else []
  | none => []
def heldS (nm : Str) (ls : List AgR) : List Int := ls.flatMap fun l => if l.kind.name = nm then l.keys else []
theorem held_mem {A : FlA} {nm : Str} {k : Int} : k ∈ heldA A nm A.away ++ heldS nm A.ls ↔ A.holds nm k = true := by
  unfold FlA.holds heldA heldS
  rw [List.mem_append, Bool.or_eq_true, List.any_eq_true, List.any_eq_true, List.mem_flatMap, List.mem_flatMap]
  constructor
  · rintro (⟨x, hx, h⟩ | ⟨l, hl, h⟩)
    · refine .inl ⟨x, hx, ?_⟩
      cases e : A.gs[x.toNat]? with
      | none => rw [e] at h; cases h
      | some g =>
        rw [e] at h
        by_cases c : g.kind.name = nm
        · simp only [if_pos c] at h
          simp [c, h]
        · simp only [if_neg c] at h; cases h
    · refine .inr ⟨l, hl, ?_⟩
      by_cases c : l.kind.name = nm
      · rw [if_pos c] at h; simp [c, h]
      · rw [if_neg c] at h; cases h
  · rintro (⟨x, hx, h⟩ | ⟨l, hl, h⟩)
    · refine .inl ⟨x, hx, ?_⟩
      cases e : A.gs[x.toNat]? with
      | none => rw [e] at h; cases h
      | some g =>
        rw [e] at h
        simp only [Bool.and_eq_true, decide_eq_true_eq] at h
        simp only [if_pos h.1]; exact h.2
    · refine .inr ⟨l, hl, ?_⟩
      simp only [Bool.and_eq_true, decide_eq_true_eq] at h
      rw [if_pos h.1]; exact h.2
/-- the last tick that is not to be -/
theorem nat_ne {o : Option Int} {t : Int} (h : ∀ i, o = some i → 0 ≤ i) (ht : 0 ≤ t) : (o.getD (-1) ≠ t) ↔ o ≠ some t := by
  cases o with
  | none => simp; omega
  | some i => simp
/-- a list is dropped from behind -/
theorem dropL_keep {nm : Str} {key : Int} {l : AgR} (h : ¬ (l.kind.name = nm ∧ key ∈ l.keys)) (hk : 1 ≤ l.keys.length) : dropL nm key [l] = [l] := by
  unfold dropL
  by_cases c : l.kind.name = nm
  · have hf : l.keys.filter (fun x => decide (x ≠ key)) = l.keys := List.filter_eq_self.mpr fun x hx => decide_eq_true fun e => h ⟨c, by rw [← e]; exact hx⟩
    simp only [List.map_cons, List.map_nil, if_pos c, hf, List.filter_cons, List.filter_nil]
    cases q : l.keys with
    | nil => rw [q] at hk; cases hk
    | cons a b => cases l; subst q; rfl
  · simp only [List.map_cons, List.map_nil, if_neg c, List.filter_cons, List.filter_nil]
    cases q : l.keys with
    | nil => rw [q] at hk; cases hk
    | cons a b => rfl
theorem dropL_cut {nm : Str} {key : Int} {l : AgR} (h : l.kind.name = nm) : dropL nm key [l] = if l.keys.filter (fun x => decide (x ≠ key)) = [] then [] else [⟨l.kind, l.keys.filter fun x => decide (x ≠ key), l.nat⟩] := by
  unfold dropL
  simp only [List.map_cons, List.map_nil, if_pos h, List.filter_cons, List.filter_nil]
  cases l.keys.filter fun x => decide (x ≠ key) <;> simp
theorem dropL_cons {nm : Str} {key : Int} {l : AgR} {ls : List AgR} : dropL nm key (l :: ls) = dropL nm key [l] ++ dropL nm key ls := by
  show dropL nm key ([l] ++ ls) = _
  unfold dropL
  rw [List.map_append, List.filter_append]
theorem LsOk.drop {ls : List AgR} (h : LsOk ls) {nm : Str} {key : Int} : LsOk (dropL nm key ls) := by
  intro l hl
  unfold dropL at hl
  obtain ⟨h1, h2⟩ := List.mem_filter.mp hl
  obtain ⟨l0, h3, rfl⟩ := List.mem_map.mp h1
  obtain ⟨a1, a2, a3, a4, a5⟩ := h l0 h3
  by_cases c : l0.kind.name = nm
  · rw [if_pos c] at h2 ⊢
    refine ⟨?_, Nat.le_trans (List.length_filter_le _ _) a2, a3, a4, fun k hk => a5 k (List.mem_filter.mp hk).1⟩
    cases q : l0.keys.filter fun x => decide (x ≠ key) with
    | nil => simp only [q] at h2; simp at h2
    | cons a b => simp
  · rw [if_neg c] at h2 ⊢; exact ⟨a1, a2, a3, a4, a5⟩
end DL
namespace DL
open PySem L2 PySem.Spec PyProof.Rows
theorem ite3 {a b X Y : Prop} [Decidable a] [Decidable b] (h1 : a → b → X) (h2 : Y) : if a then (if b then X else Y) else Y := by
  by_cases c : a
  · rw [if_pos c]
    by_cases d : b
    · rw [if_pos d]; exact h1 c d
    · rw [if_neg d]; exact h2
  · rw [if_neg c]; exact h2
def valR (k : Int) : D := .tup [.str "value", .int k]
theorem valR_ok {k : Int} (h : 0 ≤ k ∧ k ≤ 1000000000000000000) : ResOk (valR k) := .inr (.inr ⟨k, by omega, by omega, rfl⟩)
end DL
namespace DL
open PySem L2 PySem.Spec PyProof.Rows
/-- the first of those that are ready -/
theorem first_ready {n k : Nat} {c : Int → Bool} (hk : k < n) (h0 : ∀ j : Nat, j < k → c (0 + (j : Int)) = false) (h1 : c (0 + (k : Int)) = true) : ∃ r : List Int, ((List.range n).map fun i : Nat => (0 : Int) + (i : Int)).filter c = (k : Int) :: r := by
  have e : List.range n = List.range k ++ (List.range' k (n - k)) := by
    rw [List.range_eq_range', List.range_eq_range']
    have := List.range'_append_1 (s := 0) (m := k) (n := n - k)
    rw [Nat.zero_add] at this
    rw [this]
    congr 1; omega
  obtain ⟨m, hm⟩ : ∃ m, n - k = m + 1 := ⟨n - k - 1, by omega⟩
  rw [e, hm, List.range'_succ, List.map_append, List.filter_append, List.map_cons, List.filter_cons, if_pos h1]
  have : ((List.range k).map fun i : Nat => (0 : Int) + (i : Int)).filter c = [] := by
    rw [List.filter_eq_nil_iff]
    intro x hx
    obtain ⟨j, hj, rfl⟩ := List.mem_map.mp hx
    rw [h0 j (List.mem_range.mp hj)]; exact Bool.false_ne_true
  rw [this, List.nil_append, Int.zero_add]
  exact ⟨_, rfl⟩
theorem erase_mid {α : Type} {s t : List α} {x : α} : (s ++ x :: t).eraseIdx s.length = s ++ t := by
  rw [List.eraseIdx_append_of_length_le (Nat.le_refl _), Nat.sub_self]; rfl
end DL

namespace DL
open PySem L2 PySem.Spec PyProof.Rows
/-! ### a law's lists and counts beside Flights -/
def lsD3 (l : AgR) : D := .tup [.str l.kind.name, keysD l.keys, natD l.nat]
structure F21 (C CG CA p f gc ac lc cc : Addr) (ks : List KindR) (A : FlA) (W : Wd) (n m : Nat) : Prop where
  sp : W.hid p = some (.law n)
  sf : W.hid f = some (fltH C CG CA A m)
  nf : W.hp f = none
  sg : W.hp gc = some (.lst (A.gs.map grT2))
  sa : W.hp ac = some (.lst (A.away.map D.int))
  sl : W.hp lc = some (.lst (A.ls.map lsD3))
  sc : W.hp cc = some (.dT (cKV A.cnt))
  ok : FlOk A
  lo : LsOk A.ls
  kg : ∀ g ∈ A.gs, g.kind ∈ ks ∧ ∀ k ∈ g.keys, (getC A.cnt (g.kind.name, k)).isSome = true
  kl : ∀ l ∈ A.ls, l.kind ∈ ks ∧ ∀ k ∈ l.keys, (getC A.cnt (l.kind.name, k)).isSome = true
  gl : A.gs.length ≤ m
  ll : A.ls.length ≤ m
  cl : A.cnt.length ≤ m
  npf : p ≠ f
  nga : gc ≠ ac
  ngl : gc ≠ lc
  nal : ac ≠ lc
section
variable {C CG CA p f gc ac lc cc : Addr} {ks : List KindR} {A : FlA} {W : Wd} {n m : Nat}
theorem F21.law {n2 : Nat} (s : F21 C CG CA p f gc ac lc cc ks A W n m) : F21 C CG CA p f gc ac lc cc ks A (W.hide p (.law n2)) n2 m :=
  ⟨hset_same, by rw [wd_hide_hid, hset_ne s.npf.symm]; exact s.sf, s.nf, s.sg, s.sa, s.sl, s.sc, s.ok, s.lo, s.kg, s.kl, s.gl, s.ll, s.cl, s.npf, s.nga, s.ngl, s.nal⟩
theorem F21.chg (s : F21 C CG CA p f gc ac lc cc ks A W n m) {W' : Wd} (g : Gr W W') (hf : W'.hp f = none) : F21 C CG CA p f gc ac lc cc ks A W' n m :=
  ⟨by rw [g.hid]; exact s.sp, by rw [g.hid]; exact s.sf, hf, g.hp _ _ s.sg, g.hp _ _ s.sa, g.hp _ _ s.sl, g.hp _ _ s.sc, s.ok, s.lo, s.kg, s.kl, s.gl, s.ll, s.cl, s.npf, s.nga, s.ngl, s.nal⟩
theorem F21.nfg (s : F21 C CG CA p f gc ac lc cc ks A W n m) : f ≠ gc := by rintro rfl; have := s.nf; rw [s.sg] at this; cases this
theorem F21.nfa (s : F21 C CG CA p f gc ac lc cc ks A W n m) : f ≠ ac := by rintro rfl; have := s.nf; rw [s.sa] at this; cases this
theorem F21.nfl (s : F21 C CG CA p f gc ac lc cc ks A W n m) : f ≠ lc := by rintro rfl; have := s.nf; rw [s.sl] at this; cases this
theorem F21.nfc (s : F21 C CG CA p f gc ac lc cc ks A W n m) : f ≠ cc := by rintro rfl; have := s.nf; rw [s.sc] at this; cases this
theorem F21.ngc (s : F21 C CG CA p f gc ac lc cc ks A W n m) : gc ≠ cc := by rintro rfl; have := s.sg; rw [s.sc] at this; cases this
theorem F21.nac (s : F21 C CG CA p f gc ac lc cc ks A W n m) : ac ≠ cc := by rintro rfl; have := s.sa; rw [s.sc] at this; cases this
theorem F21.nlc (s : F21 C CG CA p f gc ac lc cc ks A W n m) : lc ≠ cc := by rintro rfl; have := s.sl; rw [s.sc] at this; cases this
end
theorem lsT_plain {ls : List AgR} (h : LsOk ls) {n : Nat} : (ls.map lsT).all (plainD (n + 2)) = true := all_map fun l hl => by
  unfold lsT
  rw [plain_tup, List.all_cons, List.all_cons, plain_str (h l hl).2.2.1, keys_plain]; rfl
end DL
namespace DL
open PySem L2 PySem.Spec PyProof.Rows
theorem ne_again {r : D} (h : ResOk r) {W : Wd} {q : DK} : dNe r (.tup [.str "again"]) W q = q (.bl (!isAg r)) W := by
  have p1 : plainD 2 (.tup [.str "again"]) = true := by decide +kernel
  have e1 : ∀ rf, pyIn rf (.tup [.str "again"]) = some (.tuple [.str "again"]) := fun rf => by simp only [pyIn, pyIns]
  have s1 : SeqAt.shaped (.tuple [.str "again"]) = true := shaped_by p1 (by decide) (e1 (fun _ => none))
  rcases h with rfl | ⟨z, hz, rfl⟩ | ⟨i, _, _, rfl⟩
  · unfold dNe
    rw [eqB_self (plain_le p1 (by decide))]; rfl
  · unfold dNe
    have e2 : pyIn (rfD W.hp deepN) (.tup [.str "fault", .str z]) = some (.tuple [.str "fault", .str z]) := by simp only [pyIn, pyIns]
    have s2 : SeqAt.shaped (.tuple [.str "fault", .str z]) = true := shaped_by (n := 2) (d := .tup [.str "fault", .str z]) (by rw [plain_tup, List.all_cons, List.all_cons, plain_str (by decide +kernel), plain_str hz.ok]; rfl) (by decide) e2
    rw [eqB_of e2 (e1 _) s2 s1]
    simp [PyData.eqv, PyData.eqvAll, isAg]
  · unfold dNe
    have e2 : pyIn (rfD W.hp deepN) (.tup [.str "value", .int i]) = some (.tuple [.str "value", .int i]) := by simp only [pyIn, pyIns]
    have s2 : SeqAt.shaped (.tuple [.str "value", .int i]) = true := shaped_by (n := 2) (d := .tup [.str "value", .int i]) (by rw [plain_tup, List.all_cons, List.all_cons, plain_str (by decide +kernel), plain_int]; rfl) (by decide) e2
    rw [eqB_of e2 (e1 _) s2 s1]
    simp [PyData.eqv, PyData.eqvAll, isAg]
/-- who is held, by names and keys -/
def heldP (A : FlA) (x : Int) : Str × List Int := match A.gs[x.toNat]? with
  | some g => (g.kind.name, g.keys)
  | none => (⟨#[]⟩, [])
def lsP (l : AgR) : Str × List Int := (l.kind.name, l.keys)
def nkT (e : Str × List Int) : D := .tup [.str e.1, keysD e.2]
theorem nk_ls {l : AgR} : nkT (lsP l) = lsT l := rfl
theorem nk_at {A : FlA} (ok : FlOk A) {x : Int} (hx : x ∈ A.away) : atI (A.gs.map grT2) x = some (nkT (heldP A x)) := by
  obtain ⟨g, e1, e2⟩ := gs_at2 ok hx
  rw [e2]
  unfold heldP
  rw [e1]; rfl
theorem held_any {A : FlA} (ok : FlOk A) {nm : Str} {key : Int} : A.holds nm key = (A.away.map (heldP A) ++ A.ls.map lsP).any fun e => decide (e.1 = nm) && decide (key ∈ e.2) := by
  unfold FlA.holds
  rw [List.any_append, List.any_map, List.any_map]
  congr 1
  have : ∀ (xs : List Int), (∀ x ∈ xs, x ∈ A.away) → (xs.any fun x => match A.gs[x.toNat]? with
      | some g => decide (g.kind.name = nm) && decide (key ∈ g.keys)
      | none => false) = xs.any ((fun e : Str × List Int => decide (e.1 = nm) && decide (key ∈ e.2)) ∘ heldP A) := by
    intro xs
    induction xs with
    | nil => intro _; rfl
    | cons x xs ih =>
      intro hh
      rw [List.any_cons, List.any_cons, ih fun y hy => hh y (List.mem_cons_of_mem _ hy)]
      congr 1
      obtain ⟨g, e2, _⟩ := gs_at2 ok (hh x List.mem_cons_self)
      simp only [Function.comp, heldP, e2]
  exact this A.away fun _ h => h
theorem len_any {α : Type} {c : α → Bool} {l : List α} : decide (0 < ((l.filter c).length : Int)) = l.any c := by
  rw [Bool.eq_iff_iff, decide_eq_true_eq, List.any_eq_true]
  constructor
  · intro h
    obtain ⟨x, hx⟩ := List.exists_mem_of_length_pos (l := l.filter c) (by omega)
    obtain ⟨h1, h2⟩ := List.mem_filter.mp hx
    exact ⟨x, h1, h2⟩
  · rintro ⟨x, h1, h2⟩
    have := List.length_pos_of_mem (List.mem_filter.mpr ⟨h1, h2⟩)
    omega
theorem cnt_mono {nm : Str} {j : Str × Int} : ∀ {keys : List Int} {c : Cnt}, (getC c j).isSome = true → (getC (cntNew c nm keys) j).isSome = true
  | [], _, h => h
  | x :: keys, c, h => cnt_mono (keys := keys) (c := setC c (nm, x) 0) (by
      rw [get_set]
      split
      · rfl
      · exact h)
theorem cnt_new {nm : Str} {x : Int} : ∀ {keys : List Int} {c : Cnt}, x ∈ keys → (getC (cntNew c nm keys) (nm, x)).isSome = true
  | y :: keys, c, h => by
    by_cases q : y = x
    · subst q
      exact cnt_mono (keys := keys) (c := setC c (nm, y) 0) (by rw [get_set, if_pos rfl]; rfl)
    · have : x ∈ keys := by
        rcases List.mem_cons.mp h with rfl | h
        · exact absurd rfl q
        · exact h
      exact cnt_new (keys := keys) (c := setC c (nm, y) 0) this
theorem cnt_len {nm : Str} : ∀ {keys : List Int} {c : Cnt}, (cntNew c nm keys).length ≤ c.length + keys.length
  | [], _ => Nat.le_refl _
  | x :: keys, c => by
    have h1 := cnt_len (nm := nm) (keys := keys) (c := setC c (nm, x) 0)
    have h2 := setC_len (c := c) (k := (nm, x)) (v := 0)
    have h3 : cntNew c nm (x :: keys) = cntNew (setC c (nm, x) 0) nm keys := rfl
    rw [h3, List.length_cons]; omega
structure TkI (k : KindR) (rows : List (Int × D × Nat)) (s t : TkS) : Prop where
  ag : ∀ x ∈ t.ag, x ∈ s.ag ∨ x ∈ rows.map (·.1)
  al : t.ag.length ≤ s.ag.length + rows.length
  sl : t.st.length ≤ s.st.length + rows.length
  mo : ∀ j, (getC s.c j).isSome = true → (getC t.c j).isSome = true
  st : ∀ y ∈ t.st, y ∈ s.st ∨ y ∈ rows ∨ y.2.1 = spentD
  cl : (∀ y ∈ rows, (getC s.c (k.name, y.1)).isSome = true) → t.c.length = s.c.length
theorem tk_step {k : KindR} {s : TkS} {x : Int × D × Nat} : TkI k [x] s (tkStep k s x) := by
  unfold tkStep
  split
  · by_cases q : k.tries ≤ (getC s.c (k.name, x.1)).getD 0
    · simp only [if_pos q]
      refine ⟨fun _ h => .inl h, by simp, by simp, fun _ h => h, fun y h => ?_, fun _ => rfl⟩
      rcases List.mem_append.mp h with h | h
      · exact .inl h
      · rw [List.mem_singleton] at h; subst h; exact .inr (.inr rfl)
    · simp only [if_neg q]
      refine ⟨fun y h => ?_, by simp, by simp, fun j h => ?_, fun _ h => .inl h, fun h => ?_⟩
      · rcases List.mem_append.mp h with h | h
        · exact .inl h
        · rw [List.mem_singleton] at h; subst h; exact .inr (by simp)
      · rw [get_set]
        split
        · rfl
        · exact h
      · obtain ⟨v, hv⟩ := Option.isSome_iff_exists.mp (h x (by simp))
        exact setC_same (getC_any hv)
  · refine ⟨fun _ h => .inl h, by simp, by simp, fun _ h => h, fun y h => ?_, fun _ => rfl⟩
    rcases List.mem_append.mp h with h | h
    · exact .inl h
    · exact .inr (.inl h)
theorem tk_inv {k : KindR} : ∀ {rows : List (Int × D × Nat)} {s : TkS}, TkI k rows s (rows.foldl (tkStep k) s)
  | [], s => ⟨fun _ h => .inl h, Nat.le_refl _, Nat.le_refl _, fun _ h => h, fun _ h => .inl h, fun _ => rfl⟩
  | x :: rows, s => by
    have a := tk_step (k := k) (s := s) (x := x)
    have b := tk_inv (k := k) (rows := rows) (s := tkStep k s x)
    have al := a.al
    have bl := b.al
    have as_ := a.sl
    have bs := b.sl
    simp only [List.length_singleton] at al as_
    refine ⟨fun y h => ?_, by rw [List.length_cons, List.foldl_cons]; omega, by rw [List.length_cons, List.foldl_cons]; omega, fun j h => b.mo j (a.mo j h), fun y h => ?_, fun h => ?_⟩
    · rcases b.ag y h with h | h
      · rcases a.ag y h with h | h
        · exact .inl h
        · exact .inr (by simp at h; subst h; simp)
      · exact .inr (List.mem_cons_of_mem _ h)
    · rcases b.st y h with h | h | h
      · rcases a.st y h with h | h | h
        · exact .inl h
        · rw [List.mem_singleton] at h; subst h; exact .inr (.inl List.mem_cons_self)
        · exact .inr (.inr h)
      · exact .inr (.inl (List.mem_cons_of_mem _ h))
      · exact .inr (.inr h)
    · rw [List.foldl_cons, b.cl fun y hy => a.mo _ (h y (List.mem_cons_of_mem _ hy)), a.cl fun y hy => h y (by rw [List.mem_singleton] at hy; subst hy; exact List.mem_cons_self)]
theorem rows_fst {i : Nat} {ks : List Int} {rs : List D} {x : Int} (h : x ∈ (rowsOf i ks rs).map (·.1)) : x ∈ ks := by
  induction rs generalizing i ks with
  | nil => cases ks <;> simp [rowsOf] at h
  | cons r rs ih =>
    cases ks with
    | nil => simp [rowsOf] at h
    | cons k ks =>
      rw [rowsOf, List.map_cons, List.mem_cons] at h
      rcases h with h | h
      · exact List.mem_cons.mpr (.inl h)
      · exact List.mem_cons.mpr (.inr (ih h))
theorem rows_snd {i : Nat} {ks : List Int} {rs : List D} {y : Int × D × Nat} (h : y ∈ rowsOf i ks rs) : y.2.1 ∈ rs ∧ y.1 ∈ ks := by
  induction rs generalizing i ks with
  | nil => cases ks <;> simp [rowsOf] at h
  | cons r rs ih =>
    cases ks with
    | nil => simp [rowsOf] at h
    | cons k ks =>
      rw [rowsOf, List.mem_cons] at h
      rcases h with h | h
      · subst h; exact ⟨List.mem_cons_self, List.mem_cons_self⟩
      · exact ⟨List.mem_cons_of_mem _ (ih h).1, List.mem_cons_of_mem _ (ih h).2⟩
section
variable {k : KindR} {keys : List Int} {rs : List D} {c : Cnt}
theorem tk_ag (x : Int) (h : x ∈ (tkAll k keys rs c).ag) : x ∈ keys := by
  rcases (tk_inv (k := k) (rows := rowsOf 0 keys rs) (s := ⟨[], [], c⟩)).ag x h with h | h
  · cases h
  · exact rows_fst h
theorem tk_al (h : keys.length = rs.length) : (tkAll k keys rs c).ag.length ≤ keys.length := by
  have := (tk_inv (k := k) (rows := rowsOf 0 keys rs) (s := ⟨[], [], c⟩)).al
  rw [rows_len h] at this
  unfold tkAll
  simp only [List.length_nil] at this
  omega
theorem tk_mo {j : Str × Int} (h : (getC c j).isSome = true) : (getC (tkAll k keys rs c).c j).isSome = true :=
  (tk_inv (k := k) (rows := rowsOf 0 keys rs) (s := ⟨[], [], c⟩)).mo j h
theorem tk_cl (h : ∀ x ∈ keys, (getC c (k.name, x)).isSome = true) : (tkAll k keys rs c).c.length = c.length :=
  (tk_inv (k := k) (rows := rowsOf 0 keys rs) (s := ⟨[], [], c⟩)).cl fun y hy => h _ (rows_snd hy).2
theorem tk_pl (h : ∀ r ∈ rs, ResOk r) : ((tkAll k keys rs c).st.map setlD).all (plainD 40) = true := all_map fun y hy => by
  rcases (tk_inv (k := k) (rows := rowsOf 0 keys rs) (s := ⟨[], [], c⟩)).st y hy with h1 | h1 | h1
  · cases h1
  · obtain ⟨a, r, i⟩ := y
    exact setl_plain (h r (rows_snd h1).1)
  · obtain ⟨a, r, i⟩ := y
    obtain rfl : r = spentD := h1
    unfold setlD
    rw [plain_tup, List.all_cons, List.all_cons, List.all_cons, plain_int, plain_int]
    show (true && (plainD 39 spentD && (true && List.all [] (plainD 39)))) = true
    decide +kernel
end
end DL

namespace DL
open PySem L2 PySem.Spec PyProof.Rows
/-! ### == of two lists behind names -/
theorem eqB_refs {h : Dh} {a b : Addr} {ds : List D} (ha : h a = some (.lst ds)) (hb : h b = some (.lst ds)) (hd : ds.all (plainD 40) = true) : eqB (rfD h deepN) (.ref a) (.ref b) = some true := by
  obtain ⟨ps, e1, e2, e3⟩ := pys_plain (rf := rfD h 5) hd
  have ra : rfD h 6 a = some (.list ps) := rf_lst ha e1
  have rb : rfD h 6 b = some (.list ps) := rf_lst hb e1
  have s : SeqAt.shaped (.list ps) = true := by
    unfold SeqAt.shaped
    rw [show (PyData.list ps).canLay0 = PyData.canLayAll0 ps by simp only [PyData.canLay0], e2, Bool.true_and, decide_eq_true_eq]
    simp only [PyData.depth]; omega
  show eqB (rfD h 6) (.ref a) (.ref b) = some true
  rw [eqB_of (p := .list ps) (e := .list ps) (show pyIn (rfD h 6) (.ref a) = _ from ra) (show pyIn (rfD h 6) (.ref b) = _ from rb) s s]
  simp only [PyData.eqv, SeqAt.eqvAll_refl ps e2]
theorem ne_refs {W : Wd} {a b : Addr} {ds : List D} {q : DK} (ha : W.hp a = some (.lst ds)) (hb : W.hp b = some (.lst ds)) (hd : ds.all (plainD 40) = true) : dNe (.ref a) (.ref b) W q = q (.bl false) W := by
  unfold dNe
  rw [eqB_refs ha hb hd]; rfl
theorem eq_refs {W : Wd} {a b : Addr} {ds : List D} {q : DK} (ha : W.hp a = some (.lst ds)) (hb : W.hp b = some (.lst ds)) (hd : ds.all (plainD 40) = true) : dEq (.ref a) (.ref b) W q = q (.bl true) W := by
  unfold dEq
  rw [eqB_refs ha hb hd]
theorem nk_plain {A : FlA} (ok : FlOk A) (lo : LsOk A.ls) : ((A.away.map (heldP A) ++ A.ls.map lsP).map nkT).all (plainD 40) = true := all_map fun e he => by
  unfold nkT
  have : PyData.strOk e.1 = true := by
    rcases List.mem_append.mp he with he | he
    · obtain ⟨x, hx, rfl⟩ := List.mem_map.mp he
      obtain ⟨g, e1, _⟩ := gs_at2 ok hx
      unfold heldP
      rw [e1]
      exact (ok.gk g (List.mem_of_getElem? e1)).2.2
    · obtain ⟨l, hl, rfl⟩ := List.mem_map.mp he
      exact (lo l hl).2.2.1
  rw [plain_tup, List.all_cons, List.all_cons, plain_str this, keys_plain]; rfl
/-- a cell that the first world does not know may be written again -/
theorem Chg.own {cs : List Addr} {W W1 : Wd} {a : Addr} {o : DO} (c : Chg cs W W1) (f : W.hp a = none) (g : W.hid a = none) : Chg cs W (W1.put a o) :=
  ⟨fun x u n e => by rw [wd_put_hp, dput_ne (by rintro rfl; rw [f] at e; cases e)]; exact c.hp x u n e, c.hid, fun x n e1 e2 => by
    rw [wd_put_hp, dput_ne (by rintro rfl; exact e1 g)]; exact c.hpn x n e1 e2⟩
theorem dropL_one {nm : Str} {key : Int} {l : AgR} (hk : 1 ≤ l.keys.length) : dropL nm key [l] = if l.keys.filter (fun k => decide (¬ l.kind.name = nm) || decide (k ≠ key)) = [] then [] else [⟨l.kind, l.keys.filter fun k => decide (¬ l.kind.name = nm) || decide (k ≠ key), l.nat⟩] := by
  by_cases c : l.kind.name = nm
  · rw [dropL_cut c]
    simp only [c, not_true_eq_false, decide_false, Bool.false_or]
  · have hf : l.keys.filter (fun k => decide (¬ l.kind.name = nm) || decide (k ≠ key)) = l.keys := List.filter_eq_self.mpr fun x hx => by simp [c]
    rw [hf, dropL_keep (fun h => c h.1) hk]
    cases q : l.keys with
    | nil => rw [q] at hk; cases hk
    | cons a b => rw [if_neg (by simp), ← q]
theorem dropL_len {nm : Str} {key : Int} {ls : List AgR} : (dropL nm key ls).length ≤ ls.length := by
  unfold dropL
  exact Nat.le_trans (List.length_filter_le _ _) (Nat.le_of_eq (List.length_map _))
theorem dropL_mem {nm : Str} {key : Int} {ls : List AgR} {l : AgR} (h : l ∈ dropL nm key ls) : ∃ l0 ∈ ls, l.kind = l0.kind ∧ ∀ x ∈ l.keys, x ∈ l0.keys := by
  unfold dropL at h
  obtain ⟨h1, h2⟩ := List.mem_filter.mp h
  obtain ⟨l0, h3, rfl⟩ := List.mem_map.mp h1
  refine ⟨l0, h3, ?_, ?_⟩
  · split <;> rfl
  · by_cases c : l0.kind.name = nm
    · rw [if_pos c]; exact fun x hx => (List.mem_filter.mp hx).1
    · rw [if_neg c]; exact fun x hx => hx
theorem tk_sl {k : KindR} {keys : List Int} {rs : List D} {c : Cnt} (h : keys.length = rs.length) : (tkAll k keys rs c).st.length ≤ keys.length := by
  have := (tk_inv (k := k) (rows := rowsOf 0 keys rs) (s := ⟨[], [], c⟩)).sl
  rw [rows_len h] at this
  unfold tkAll
  simp only [List.length_nil] at this
  omega
end DL

namespace DL
open PySem L2 PySem.Spec PyProof.Rows
/-! ### sums over what is with the doer and to be handed again -/
def keyA (A : FlA) (x : Int) : List Int := match A.gs[x.toNat]? with
  | some g => g.keys
  | none => []
def tot (w : List Int → Nat) (A : FlA) : Nat := (A.away.map fun x => w (keyA A x)).sum + (A.ls.map fun l => w l.keys).sum
theorem sum_erase {f : Int → Nat} : ∀ {l : List Int} {x : Int}, x ∈ l → (l.map f).sum = f x + ((l.erase x).map f).sum
  | y :: l, x, h => by
    by_cases q : y = x
    · subst q; rw [List.erase_cons_head]; rfl
    · have hx : x ∈ l := by
        rcases List.mem_cons.mp h with rfl | h
        · exact absurd rfl q
        · exact h
      rw [List.erase_cons_tail (by simpa using q), List.map_cons, List.sum_cons, List.map_cons, List.sum_cons, sum_erase hx]
      omega
theorem tot_out {w : List Int → Nat} {A : FlA} {x : Int} {g : GrR} (hx : x ∈ A.away) (hg : A.gs[x.toNat]? = some g) : tot w A = w g.keys + tot w (A.out x) := by
  have hk : keyA A x = g.keys := by unfold keyA; rw [hg]
  have := sum_erase (f := fun x => w (keyA A x)) hx
  rw [hk] at this
  show _ + _ = w g.keys + (((A.away.erase x).map fun x => w (keyA A x)).sum + (A.ls.map fun l => w l.keys).sum)
  rw [this]; omega
theorem tot_over {w : List Int → Nat} {A : FlA} {k : KindR} {keys : List Int} {tick : Int} (ok : FlOk A) : tot w (A.over k keys tick) = tot w A + w keys := by
  have h1 : ((A.over k keys tick).away.map fun x => w (keyA (A.over k keys tick) x)) = (A.away.map fun x => w (keyA A x)) ++ [w keys] := by
    show ((A.away ++ [(A.gs.length : Int)]).map fun x => w (keyA (A.over k keys tick) x)) = _
    rw [List.map_append]
    congr 1
    · apply List.map_congr_left
      intro y hy
      obtain ⟨a1, a2⟩ := ok.aw y hy
      have : keyA (A.over k keys tick) y = keyA A y := by
        unfold keyA
        show (match (A.gs ++ [⟨k, keys, tick⟩])[y.toNat]? with | some g => g.keys | none => []) = _
        rw [List.getElem?_append_left (by omega)]
      rw [this]
    · show [w (keyA (A.over k keys tick) (A.gs.length : Int))] = _
      have : keyA (A.over k keys tick) (A.gs.length : Int) = keys := by
        unfold keyA
        show (match (A.gs ++ [⟨k, keys, tick⟩])[((A.gs.length : Int)).toNat]? with | some g => g.keys | none => []) = _
        rw [Int.toNat_natCast, List.getElem?_append_right (Nat.le_refl _), Nat.sub_self]; rfl
      rw [this]
  unfold tot
  rw [h1, List.sum_append]
  show _ + _ + (A.ls.map fun l => w l.keys).sum = _
  simp only [List.sum_cons, List.sum_nil]
  omega
theorem tot_ls {w : List Int → Nat} {A : FlA} {l : AgR} {t : List AgR} (e : A.ls = l :: t) : tot w A = w l.keys + tot w { A with ls := t } := by
  unfold tot
  rw [e, List.map_cons, List.sum_cons]
  show _ = w l.keys + ((A.away.map fun x => w (keyA A x)).sum + (t.map fun l => w l.keys).sum)
  omega
theorem tot_more {w : List Int → Nat} {A : FlA} {a b : AgR} : tot w { A with ls := A.ls ++ [a, b] } = tot w A + w a.keys + w b.keys := by
  unfold tot
  show (A.away.map fun x => w (keyA A x)).sum + ((A.ls ++ [a, b]).map fun l => w l.keys).sum = _
  rw [List.map_append, List.sum_append]
  simp only [List.map_cons, List.map_nil, List.sum_cons, List.sum_nil]
  omega
theorem tot_nil {w : List Int → Nat} {A : FlA} (h1 : A.away = []) (h2 : A.ls = []) : tot w A = 0 := by
  unfold tot; rw [h1, h2]; rfl
theorem tot_mem {w : List Int → Nat} {A : FlA} {x : Int} {g : GrR} (hx : x ∈ A.away) (hg : A.gs[x.toNat]? = some g) : w g.keys ≤ tot w A := by
  rw [tot_out hx hg]; omega
/-! ### halvings -/
def hvS (n : Int) : Nat → Int × Nat
  | 0 => (1, 0)
  | i + 1 => if (hvS n i).1 < n then (2 * (hvS n i).1, (hvS n i).2 + 1) else hvS n i
def hv (n : Nat) : Nat := (hvS (n : Int) 6).2
theorem hv_facts : ∀ n : Fin 65, 2 ≤ n.val → hv ((n.val + 1) / 2) + 1 = hv n.val ∧ hv (n.val / 2) ≤ hv ((n.val + 1) / 2) := by decide +kernel
def pc (ps ks : List Int) : Nat := (ps.filter fun p => decide (p ∈ ks)).length
theorem pc_split {ks : List Int} (n : Nat) (hn : ks.Nodup) : ∀ ps : List Int, pc ps (ks.take n) + pc ps (ks.drop n) = pc ps ks
  | [] => rfl
  | p :: ps => by
    have ih := pc_split n hn ps
    unfold pc at ih ⊢
    have hm : p ∈ ks ↔ p ∈ ks.take n ∨ p ∈ ks.drop n := by
      rw [← List.mem_append, List.take_append_drop]
    have hd : ¬ (p ∈ ks.take n ∧ p ∈ ks.drop n) := by
      rintro ⟨a, b⟩
      rw [← List.take_append_drop n ks] at hn
      exact (List.nodup_append.mp hn).2.2 p a p b rfl
    rw [List.filter_cons, List.filter_cons, List.filter_cons]
    by_cases a : p ∈ ks.take n
    · have b : p ∉ ks.drop n := fun b => hd ⟨a, b⟩
      have c : p ∈ ks := hm.mpr (.inl a)
      rw [if_pos (decide_eq_true a), if_neg (by simpa using b), if_pos (decide_eq_true c)]
      simp only [List.length_cons]; omega
    · by_cases b : p ∈ ks.drop n
      · have c : p ∈ ks := hm.mpr (.inr b)
        rw [if_neg (by simpa using a), if_pos (decide_eq_true b), if_pos (decide_eq_true c)]
        simp only [List.length_cons]; omega
      · have c : p ∉ ks := fun c => (hm.mp c).elim a b
        rw [if_neg (by simpa using a), if_neg (by simpa using b), if_neg (by simpa using c)]
        exact ih
/-! ### what k24 keeps -/
structure P24 (keys ps : List Int) (A : FlA) (S : List Int) (fur : Nat) : Prop where
  ok : FlOk A
  lo : LsOk A.ls
  nat : ∀ l ∈ A.ls, l.nat = none
  cnt : ∀ k, S.count k + tot (fun ks => ks.count k) A = keys.count k
  hb : ∃ H, fur + A.ls.length = 2 * H ∧ H + tot (fun ks => ks.length - 1) A ≤ keys.length - 1 ∧ H + tot (fun ks => pc ps ks * hv ks.length) A ≤ pc ps keys * hv keys.length
def phi (A : FlA) : Nat := tot (fun ks => 2 * ks.length - 1) A
section
variable {keys ps S : List Int} {A : FlA} {fur : Nat} {x : Int} {g : GrR}
theorem P24.gnd (s : P24 keys ps A S fur) (hk : keys.Nodup) (hx : x ∈ A.away) (hg : A.gs[x.toNat]? = some g) : g.keys.Nodup ∧ (∀ k ∈ g.keys, k ∈ keys) ∧ ∀ k, S.count k + g.keys.count k ≤ 1 := by
  have h1 : ∀ k, S.count k + g.keys.count k ≤ keys.count k := fun k => by
    have := s.cnt k
    have h2 := tot_mem (w := fun ks => ks.count k) hx hg
    omega
  have h3 : ∀ k, keys.count k ≤ 1 := fun k => List.nodup_iff_count.mp hk k
  refine ⟨List.nodup_iff_count.mpr fun k => ?_, fun k hk' => ?_, fun k => Nat.le_trans (h1 k) (h3 k)⟩
  · have := h1 k; have := h3 k; omega
  · have := List.count_pos_iff.mpr hk'
    have := h1 k
    exact List.count_pos_iff.mp (by omega)
theorem P24.settle (s : P24 keys ps A S fur) (hx : x ∈ A.away) (hg : A.gs[x.toNat]? = some g) : P24 keys ps (A.out x) (S ++ g.keys) fur := by
  obtain ⟨H, h1, h2, h3⟩ := s.hb
  refine ⟨s.ok.out, s.lo, s.nat, fun k => ?_, H, h1, ?_, ?_⟩
  · have := s.cnt k
    rw [tot_out (w := fun ks => ks.count k) hx hg] at this
    rw [List.count_append]; omega
  · rw [tot_out (w := fun ks => ks.length - 1) hx hg] at h2
    omega
  · rw [tot_out (w := fun ks => pc ps ks * hv ks.length) hx hg] at h3
    omega
theorem phi_settle (hx : x ∈ A.away) (hg : A.gs[x.toNat]? = some g) (h : 1 ≤ g.keys.length) : phi (A.out x) + 1 ≤ phi A := by
  unfold phi
  rw [tot_out (w := fun ks => 2 * ks.length - 1) hx hg]
  omega
theorem whole_half {w : Str} (h : 2 ≤ g.keys.length) : A.whole g w = ([], { A with ls := A.ls ++ [⟨g.kind, g.keys.take (halfN g.keys), none⟩, ⟨g.kind, g.keys.drop (halfN g.keys), none⟩] }) := by
  unfold FlA.whole
  split
  · rename_i k e; rw [e] at h; simp at h
  · rfl
theorem half_len (h : 2 ≤ g.keys.length) : (g.keys.take (halfN g.keys)).length = (g.keys.length + 1) / 2 ∧ (g.keys.drop (halfN g.keys)).length = g.keys.length / 2 := by
  unfold halfN
  rw [List.length_take, List.length_drop]
  omega
theorem P24.half {w : Str} (s : P24 keys ps A S fur) (hk : keys.Nodup) (hx : x ∈ A.away) (hg : A.gs[x.toNat]? = some g) (h : 2 ≤ g.keys.length) (hp : 1 ≤ pc ps g.keys) : P24 keys ps ((A.out x).whole g w).2 S fur ∧ phi ((A.out x).whole g w).2 + 1 ≤ phi A := by
  obtain ⟨H, h1, h2, h3⟩ := s.hb
  obtain ⟨hn, hs, _⟩ := s.gnd hk hx hg
  have hgm := List.mem_of_getElem? hg
  obtain ⟨k1, k2, k3⟩ := s.ok.gk g hgm
  have kb := s.ok.gb g hgm
  obtain ⟨q1, q2⟩ := half_len h
  obtain ⟨X, hX⟩ : ∃ X : FlA, X = { A.out x with ls := A.ls ++ [⟨g.kind, g.keys.take (halfN g.keys), none⟩, ⟨g.kind, g.keys.drop (halfN g.keys), none⟩] } := ⟨_, rfl⟩
  have hw : (A.out x).whole g w = ([], X) := by rw [hX]; exact whole_half h
  rw [hw]
  show P24 keys ps X S fur ∧ phi X + 1 ≤ phi A
  have ht : ∀ w : List Int → Nat, tot w X + w g.keys = tot w A + w (g.keys.take (halfN g.keys)) + w (g.keys.drop (halfN g.keys)) := fun w => by
    have : X = { A.out x with ls := (A.out x).ls ++ [⟨g.kind, g.keys.take (halfN g.keys), none⟩, ⟨g.kind, g.keys.drop (halfN g.keys), none⟩] } := by rw [hX]; rfl
    rw [this, tot_more, tot_out (w := w) hx hg]
    show tot w (A.out x) + w (g.keys.take (halfN g.keys)) + w (g.keys.drop (halfN g.keys)) + w g.keys = _
    omega
  have hXl : X.ls = A.ls ++ [⟨g.kind, g.keys.take (halfN g.keys), none⟩, ⟨g.kind, g.keys.drop (halfN g.keys), none⟩] := by rw [hX]
  have hXo : FlOk X := by rw [hX]; exact ⟨s.ok.out.aw, s.ok.out.as_, s.ok.gk, s.ok.gb⟩
  refine ⟨⟨hXo, ?_, ?_, fun k => ?_, H + 1, ?_, ?_, ?_⟩, ?_⟩
  · intro l hl
    rw [hXl] at hl
    rcases List.mem_append.mp hl with hl | hl
    · exact s.lo l hl
    · simp only [List.mem_cons, List.not_mem_nil, or_false] at hl
      rcases hl with rfl | rfl
      · exact ⟨by show 1 ≤ (g.keys.take _).length; omega, by show (g.keys.take _).length ≤ 64; omega, k3, nofun, fun k hk => kb k (List.mem_of_mem_take hk)⟩
      · exact ⟨by show 1 ≤ (g.keys.drop _).length; omega, by show (g.keys.drop _).length ≤ 64; omega, k3, nofun, fun k hk => kb k (List.mem_of_mem_drop hk)⟩
  · intro l hl
    rw [hXl] at hl
    rcases List.mem_append.mp hl with hl | hl
    · exact s.nat l hl
    · simp only [List.mem_cons, List.not_mem_nil, or_false] at hl
      rcases hl with rfl | rfl <;> rfl
  · have := ht fun ks => ks.count k
    have h4 := s.cnt k
    have h5 : (g.keys.take (halfN g.keys)).count k + (g.keys.drop (halfN g.keys)).count k = g.keys.count k := by rw [← List.count_append, List.take_append_drop]
    omega
  · rw [hXl, List.length_append]; simp only [List.length_cons, List.length_nil]; omega
  · have := ht fun ks => ks.length - 1
    simp only [q1, q2] at this
    omega
  · have := ht fun ks => pc ps ks * hv ks.length
    simp only [q1, q2] at this
    have h6 := pc_split (halfN g.keys) hn ps
    obtain ⟨f1, f2⟩ := hv_facts ⟨g.keys.length, by omega⟩ h
    simp only at f1 f2
    have h7 : pc ps (g.keys.take (halfN g.keys)) * hv ((g.keys.length + 1) / 2) + pc ps (g.keys.drop (halfN g.keys)) * hv (g.keys.length / 2) ≤ pc ps g.keys * hv ((g.keys.length + 1) / 2) := by
      rw [← h6, Nat.add_mul]
      exact Nat.add_le_add_left (Nat.mul_le_mul_left _ f2) _
    have h8 : pc ps g.keys * hv g.keys.length = pc ps g.keys * hv ((g.keys.length + 1) / 2) + pc ps g.keys := by
      rw [← f1, Nat.mul_add, Nat.mul_one]
    omega
  · have := ht fun ks => 2 * ks.length - 1
    simp only [q1, q2] at this
    unfold phi
    omega
theorem P24.again {l : AgR} {t : List AgR} {tick : Int} (s : P24 keys ps A S fur) (e : A.ls = l :: t) : P24 keys ps (({ A with ls := t } : FlA).over l.kind l.keys tick) S (fur + 1) ∧ phi (({ A with ls := t } : FlA).over l.kind l.keys tick) = phi A := by
  obtain ⟨H, h1, h2, h3⟩ := s.hb
  obtain ⟨a1, a2, a3, a4, a5⟩ := s.lo l (by rw [e]; exact List.mem_cons_self)
  have ok2 : FlOk ({ A with ls := t } : FlA) := ⟨s.ok.aw, s.ok.as_, s.ok.gk, s.ok.gb⟩
  have ht : ∀ w : List Int → Nat, tot w (({ A with ls := t } : FlA).over l.kind l.keys tick) = tot w A := fun w => by
    rw [tot_over ok2, tot_ls e]; omega
  have := ok2.hand (k := l.kind) (keys := l.keys) (tick := tick) a1 a2 a3 a5
  refine ⟨⟨⟨this.aw, this.as_, this.gk, this.gb⟩, fun l' hl' => s.lo l' (by rw [e]; exact List.mem_cons_of_mem _ hl'), fun l' hl' => s.nat l' (by rw [e]; exact List.mem_cons_of_mem _ hl'), fun k => by rw [ht]; exact s.cnt k, H, ?_, by rw [ht]; exact h2, by rw [ht]; exact h3⟩, ht _⟩
  show fur + 1 + t.length = _
  rw [e, List.length_cons] at h1
  omega
theorem P24.fin (s : P24 keys ps A S fur) (h1 : A.away = []) (h2 : A.ls = []) : S.Perm keys ∧ fur ≤ 2 * keys.length - 2 ∧ fur ≤ 2 * (pc ps keys * hv keys.length) := by
  obtain ⟨H, a1, a2, a3⟩ := s.hb
  rw [h2, List.length_nil] at a1
  refine ⟨List.perm_iff_count.mpr fun k => ?_, by omega, by omega⟩
  have := s.cnt k
  rw [tot_nil h1 h2] at this
  exact this
end
theorem pc_le {ps ks : List Int} : pc ps ks ≤ ps.length := List.length_filter_le _ _
theorem phi_new {A : FlA} {x : Int} {g : GrR} (hx : x ∈ A.away) (hg : A.gs[x.toNat]? = some g) (h : 1 ≤ g.keys.length) : 1 ≤ phi A := by
  have := tot_mem (w := fun ks => 2 * ks.length - 1) hx hg
  unfold phi
  omega
end DL

namespace DL
open PySem L2 PySem.Spec PyProof.Rows
def val3 (k : Int) : D := .tup [.str "value", .int (3 * k)]
def valP (ps : List Int) (k : Int) : D := if k ∈ ps then fauD "poison" else val3 k
theorem P24.new {room : Int} {k : KindR} {keys ps : List Int} (h1 : 1 ≤ keys.length) (h2 : keys.length ≤ 64) (h3 : PyData.strOk k.name = true) (h4 : ∀ x ∈ keys, 0 ≤ x ∧ x ≤ 1000000000000000000) : P24 keys ps ((FlA.new room).hand k keys 0) [] 0 ∧ phi ((FlA.new room).hand k keys 0) = 2 * keys.length - 1 := by
  have ok0 : FlOk (FlA.new room) := ⟨nofun, List.Pairwise.nil, nofun, nofun⟩
  have ok1 : FlOk ({ FlA.new room with cnt := cntNew [] k.name keys } : FlA) := ⟨nofun, List.Pairwise.nil, nofun, nofun⟩
  have ht : ∀ w : List Int → Nat, tot w ((FlA.new room).hand k keys 0) = w keys := fun w => by
    show tot w (({ FlA.new room with cnt := cntNew [] k.name keys } : FlA).over k keys 0) = _
    rw [tot_over ok1]
    show 0 + 0 + w keys = _
    omega
  refine ⟨⟨ok0.hand h1 h2 h3 h4, nofun, nofun, fun x => ?_, 0, rfl, ?_, ?_⟩, ht _⟩
  · rw [ht]; simp
  · rw [ht]; omega
  · rw [ht]; omega
theorem pc_pos {ps ks : List Int} (h : ∃ k ∈ ks, k ∈ ps) : 1 ≤ pc ps ks := by
  obtain ⟨k, h1, h2⟩ := h
  exact List.length_pos_of_mem (show k ∈ ps.filter (fun p => decide (p ∈ ks)) from List.mem_filter.mpr ⟨h2, decide_eq_true h1⟩)
theorem rows_fst_eq {ks : List Int} {rs : List D} (h : ks.length = rs.length) : ∀ {i : Nat}, (rowsOf i ks rs).map (·.1) = ks := by
  induction rs generalizing ks with
  | nil => intro i; cases ks with
    | nil => rfl
    | cons a b => cases h
  | cons r rs ih =>
    intro i
    cases ks with
    | nil => cases h
    | cons k ks =>
      rw [rowsOf, List.map_cons, ih (by simpa using h)]
theorem rows_val {f : Int → D} {y : Int × D × Nat} : ∀ {ks : List Int} {i : Nat}, y ∈ rowsOf i ks (ks.map f) → y.2.1 = f y.1
  | [], _, h => by simp [rowsOf] at h
  | k :: ks, i, h => by
    rw [List.map_cons, rowsOf, List.mem_cons] at h
    rcases h with rfl | h
    · rfl
    · exact rows_val h
/-- what an answer comes to -/
theorem P24.step {keys ps S : List Int} {A A' : FlA} {fur : Nat} {x : Int} {g : GrR} {st : List (Int × D × Nat)} (s : P24 keys ps A S fur) (hk : keys.Nodup) (hx : x ∈ A.away) (hg : A.gs[x.toNat]? = some g)
    (hor : (∃ k ∈ g.keys, k ∈ ps) ∧ (st, A') = (A.out x).whole g "poison" ∨ (∀ k ∈ g.keys, k ∉ ps) ∧ st = rowsOf 0 g.keys (g.keys.map val3) ∧ A' = A.out x) :
    (∀ y ∈ st, y.2.1 = valP ps y.1) ∧ (∀ k, S.count k + (st.map (·.1)).count k ≤ 1) ∧ P24 keys ps A' (S ++ st.map (·.1)) fur ∧ phi A' + 1 ≤ phi A ∧ A'.room = A.room ∧ A'.gs = A.gs ∧ (∀ l ∈ A'.ls, l ∈ A.ls ∨ ∀ k ∈ l.keys, k ∈ g.keys) ∧ st.length ≤ 64 := by
  obtain ⟨hn, hs, hc⟩ := s.gnd hk hx hg
  have hgm := List.mem_of_getElem? hg
  obtain ⟨k1, k2, k3⟩ := s.ok.gk g hgm
  rcases hor with ⟨hp, e⟩ | ⟨hp, rfl, rfl⟩
  · by_cases c : g.keys.length = 1
    · obtain ⟨k, hk1⟩ := List.length_eq_one_iff.mp c
      have hw : (A.out x).whole g "poison" = ([(k, fauD "poison", 0)], A.out x) := by unfold FlA.whole; rw [hk1]
      rw [hw] at e
      obtain ⟨rfl, rfl⟩ := Prod.mk.inj e
      refine ⟨fun y hy => ?_, fun j => ?_, ?_, phi_settle hx hg k1, rfl, rfl, fun l hl => .inl hl, by simp⟩
      · rw [List.mem_singleton] at hy
        subst hy
        obtain ⟨j, h1, h2⟩ := hp
        rw [hk1, List.mem_singleton] at h1
        subst h1
        unfold valP
        rw [if_pos h2]
      · have := hc j
        rw [hk1] at this
        exact this
      · have := s.settle hx hg
        rw [hk1] at this
        exact this
    · have h2 : 2 ≤ g.keys.length := by omega
      obtain ⟨a, b⟩ := s.half (w := "poison") hk hx hg h2 (pc_pos hp)
      rw [whole_half h2] at e
      obtain ⟨rfl, rfl⟩ := Prod.mk.inj e
      rw [whole_half h2] at a b
      refine ⟨nofun, fun j => ?_, by rw [List.map_nil, List.append_nil]; exact a, b, rfl, rfl, fun l hl => ?_, by simp⟩
      · have := hc j
        show S.count j + 0 ≤ 1
        omega
      · rcases List.mem_append.mp (show l ∈ A.ls ++ [⟨g.kind, g.keys.take (halfN g.keys), none⟩, ⟨g.kind, g.keys.drop (halfN g.keys), none⟩] from hl) with hl | hl
        · exact .inl hl
        · simp only [List.mem_cons, List.not_mem_nil, or_false] at hl
          rcases hl with rfl | rfl
          · exact .inr fun k hk => List.mem_of_mem_take hk
          · exact .inr fun k hk => List.mem_of_mem_drop hk
  · have hfe : (rowsOf 0 g.keys (g.keys.map val3)).map (·.1) = g.keys := rows_fst_eq (List.length_map ..).symm
    refine ⟨fun y hy => ?_, fun j => by rw [hfe]; exact hc j, by rw [hfe]; exact s.settle hx hg, phi_settle hx hg k1, rfl, rfl, fun l hl => .inl hl, ?_⟩
    · rw [rows_val hy]
      unfold valP
      rw [if_neg (hp _ (rows_snd hy).2)]
    · have := congrArg List.length hfe
      rw [List.length_map] at this
      omega
theorem keys24 {many : Nat} (h : many ≤ 64) : ∃ keys : List Int, ((List.range many).map fun i : Nat => (0 : Int) + (i : Int)).map (fun k => (11 + 17 * k) % 1009) = keys ∧ keys.length = many ∧ (∀ k ∈ keys, 0 ≤ k ∧ k ≤ 2000) ∧ keys.Nodup := by
  refine ⟨_, rfl, by rw [List.length_map, List.length_map, List.length_range], fun k hk => ?_, ?_⟩
  · obtain ⟨j, _, rfl⟩ := List.mem_map.mp hk
    omega
  · rw [List.map_map]
    unfold List.Nodup
    rw [List.pairwise_map]
    refine (List.pairwise_lt_range (n := many)).imp_of_mem fun {a b} ha hb hab => ?_
    have ha := List.mem_range.mp ha
    have hb := List.mem_range.mp hb
    simp only [Function.comp]
    omega
theorem ne_self {x : D} {W : Wd} {q : DK} (h : plainD 60 x = true) : dNe x x W q = q (.bl false) W := by
  unfold dNe
  rw [eqB_self h]; rfl
theorem hv6 : ∀ n : Fin 65, hv n.val ≤ 6 := by decide +kernel
end DL

namespace DL
open PySem L2 PySem.Spec PyProof.Rows SrtO
/-! ### sorted(l) of pairs of a text and an int -/
abbrev SI := Str × Int
def siD (p : SI) : D := .tup [.str p.1, .int p.2]
def ltS (a b : Str) : Bool := decide (a.cps.toList < b.cps.toList)
def ltSI (p q : SI) : Bool := if p.1 = q.1 then decide (p.2 < q.2) else ltS p.1 q.1
theorem str_list {a b : Str} (h : a.cps.toList = b.cps.toList) : a = b := by
  cases a; cases b
  simp only at h
  congr 1
  exact Array.toList_inj.mp h
theorem ltS_asym {a b : Str} (h : ltS a b = true) : ltS b a = false := by
  unfold ltS at h ⊢
  rw [decide_eq_true_eq] at h
  rw [decide_eq_false_iff_not]
  exact List.lt_asymm h
theorem ltS_eq {a b : Str} (h1 : ltS a b = false) (h2 : ltS b a = false) : a = b := by
  unfold ltS at h1 h2
  rw [decide_eq_false_iff_not] at h1 h2
  exact str_list (List.le_antisymm (List.not_lt.mp h2) (List.not_lt.mp h1))
theorem ltS_tr {a b c : Str} (h1 : ltS b a = false) (h2 : ltS c b = false) : ltS c a = false := by
  unfold ltS at h1 h2 ⊢
  rw [decide_eq_false_iff_not] at h1 h2 ⊢
  exact List.not_lt.mpr (List.le_trans (List.not_lt.mp h1) (List.not_lt.mp h2))
theorem ltSI_asym (p q : SI) (h : ltSI p q = true) : ltSI q p = false := by
  unfold ltSI at h ⊢
  by_cases c : p.1 = q.1
  · rw [if_pos c, decide_eq_true_eq] at h
    rw [if_pos c.symm, decide_eq_false_iff_not]; omega
  · rw [if_neg c] at h
    rw [if_neg (Ne.symm c)]
    exact ltS_asym h
theorem ltSI_eq {p q : SI} (h1 : ltSI p q = false) (h2 : ltSI q p = false) : p = q := by
  unfold ltSI at h1 h2
  by_cases c : p.1 = q.1
  · rw [if_pos c, decide_eq_false_iff_not] at h1
    rw [if_pos c.symm, decide_eq_false_iff_not] at h2
    exact Prod.ext c (by omega)
  · rw [if_neg c] at h1
    rw [if_neg (Ne.symm c)] at h2
    exact absurd (ltS_eq h1 h2) c
theorem ltSI_tr (x y z : SI) (h1 : ltSI y x = false) (h2 : ltSI z y = false) : ltSI z x = false := by
  unfold ltSI at h1 h2 ⊢
  by_cases c1 : y.1 = x.1
  · rw [if_pos c1, decide_eq_false_iff_not] at h1
    by_cases c2 : z.1 = y.1
    · rw [if_pos c2, decide_eq_false_iff_not] at h2
      rw [if_pos (c2.trans c1), decide_eq_false_iff_not]; omega
    · rw [if_neg c2] at h2
      rw [if_neg (fun e => c2 (e.trans c1.symm)), ← c1]; exact h2
  · rw [if_neg c1] at h1
    by_cases c2 : z.1 = y.1
    · rw [if_pos c2, decide_eq_false_iff_not] at h2
      rw [if_neg (fun e => c1 (c2.symm.trans e)), c2]; exact h1
    · rw [if_neg c2] at h2
      by_cases c3 : z.1 = x.1
      · exfalso
        rw [c3] at h2
        exact c1 (ltS_eq h1 h2)
      · rw [if_neg c3]; exact ltS_tr h1 h2
theorem swo_SI {α : Type} (k : α → SI) : Swo fun p q : α => ltSI (k p) (k q) := ⟨fun x y => ltSI_asym _ _, fun x y z => ltSI_tr _ _ _⟩
def kS (h : Heap) : Value → SI
  | .ref a => match h.get? a with
    | some o => (match o.data with
      | .seq its _ => (match its.toList with
        | [.str a _, .int i _] => (a, i)
        | _ => (⟨#[]⟩, 0))
      | _ => (⟨#[]⟩, 0))
    | none => (⟨#[]⟩, 0)
  | _ => (⟨#[]⟩, 0)
def IsSI (h : Heap) (v : Value) (p : SI) : Prop := ∃ a o its n t u, v = .ref a ∧ h.get? a = some o ∧ o.cls = .type "tuple" ∧ o.data = .seq its n ∧ its.toList = [.str p.1 t, .int p.2 u]
theorem IsSI.k {h : Heap} {v : Value} {p : SI} (x : IsSI h v p) : kS h v = p := by
  obtain ⟨a, o, its, n, t, u, rfl, ho, hc, hd, hi⟩ := x
  unfold kS
  simp only [ho, hd, hi]
section
variable {X : Cx} {pins : List (Addr × Obj)} {σ : L2.St} {H : Hp} {s : Shared}
theorem si_of (I : Inv X pins σ H s) {p : SI} {z : V} {v : Value} (hr : repV X.K H (siD p) z) (rv : RelV z v) : IsSI s.heap v p := by
  obtain ⟨a, xs, rfl, sq, rs⟩ := hr
  obtain rfl : v = .ref a := rv
  obtain ⟨x1, xs1, rfl, h1, rs⟩ := rs
  obtain ⟨x2, xs2, rfl, h2, rs⟩ := rs
  obtain rfl : xs2 = [] := rs
  obtain rfl : x1 = .str p.1 := h1
  obtain rfl : x2 = .int p.2 := h2
  obtain ⟨its, rv, ⟨o, ho, hc, n, hd⟩, hz⟩ := I.tuple sq.1
  cases rv with
  | cons a1 r1 => cases r1 with
    | cons a2 r2 =>
      cases r2
      obtain ⟨t, rfl⟩ := a1
      obtain ⟨u, rfl⟩ := a2
      exact ⟨a, o, _, n, t, u, rfl, ho, hc, hd, by simp⟩
end
section
variable {prog : Program} {w : World} {A : Around} {s : Shared} {vs : List Value}
theorem si_cmp {k : Value → SI} (hp : ∀ v ∈ vs, IsSI s.heap v (k v)) : Cmp prog w A s (tuples' true) (fun p => p.1 ∈ vs) fun p q => ltSI (k p.1) (k q.1) := by
  intro p q hm hm'
  show wpAny (model prog w) A (keyLt' (tuples' true) p.1 q.1) (fun r s' => s' = s ∧ r = ltSI (k p.1) (k q.1)) (fun _ _ => False) s
  obtain ⟨a, o, its, n, t, u, e1, ho, hc, hd, hi⟩ := hp _ hm
  obtain ⟨a', o', its', n', t', u', e1', ho', hc', hd', hi'⟩ := hp _ hm'
  have l1 : its.size = 2 := by rw [← Array.length_toList, hi]; rfl
  have l2 : its'.size = 2 := by rw [← Array.length_toList, hi']; rfl
  rw [e1] at hi ⊢
  rw [e1'] at hi' ⊢
  refine PySem.W.kat_lt ho hd ho' hd' ?_
  rw [hi, hi']
  refine PySem.W.kat_cons (SeqAt.EqAt.str_str _ t _ t' prog w _ _ ?_)
  unfold ltSI
  by_cases c : (k (.ref a)).1 = (k (.ref a')).1
  · rw [show ((k (.ref a)).1 == (k (.ref a')).1) = true from by rw [c]; exact beq_self_eq_true _, if_pos c]
    refine PySem.W.kat_yes (PySem.W.kat_cons (SeqAt.EqAt.int_int _ u _ u' prog w _ _ ?_))
    refine PySem.W.kat_go (fun e => ?_) (fun e => ?_)
    · have e : (k (.ref a)).2 = (k (.ref a')).2 := by simpa using e
      refine PySem.W.kat_yes (PySem.W.kat_nil ⟨rfl, ?_⟩)
      rw [e, l1, l2]; simp
    · exact PySem.W.kat_no (TS.oneLt_ints _ ⟨rfl, rfl⟩)
  · rw [show ((k (.ref a)).1 == (k (.ref a')).1) = false from by simpa using c, if_neg c]
    exact PySem.W.kat_no (PyProof.Rows.oneLt_str ⟨rfl, rfl⟩)
theorem si_firsts {h : Heap} {k : Value → SI} : ∀ {vs : List Value}, (∀ v ∈ vs, IsSI h v (k v)) → ∃ fs : List Value, PySem.W.KatTups h vs fs ∧ fs.length = vs.length ∧ ∀ f ∈ fs, ∃ x t, f = Value.str x t
  | [], hp => ⟨[], PySem.W.KatTups.nil, rfl, fun _ hm => by simp at hm⟩
  | v :: vs, hp => by
    obtain ⟨fs, h1, h2, h3⟩ := si_firsts (vs := vs) fun v' hm => hp v' (List.mem_cons_of_mem _ hm)
    obtain ⟨a, o, its, n, t, u, e, ho, hc, hd, hi⟩ := hp v (List.mem_cons_self ..)
    refine ⟨.str (k v).1 t :: fs, ?_, by rw [List.length_cons, List.length_cons, h2], fun f hm => ?_⟩
    · rw [e] at hi ⊢
      exact PySem.W.KatTups.cons ho hc hd (by rw [← Array.getElem?_toList, hi]; rfl) h1
    · rcases List.mem_cons.mp hm with rfl | hm
      · exact ⟨_, t, rfl⟩
      · exact h3 f hm
theorem si_kind {k : Value → SI} (h0 : 0 < vs.length) (hp : ∀ v ∈ vs, IsSI s.heap v (k v)) {Q : SortKind → Shared → Prop} {E : Value → Shared → Prop} (h : Q (tuples' true) s) : wpAny (model prog w) A (keyKind' vs.toArray) Q E s := by
  obtain ⟨fs, h1, h2, h3⟩ := si_firsts hp
  refine PySem.W.kat_kind (T := .type "str") h1 (by omega) (fun f hm => ?_) (by rfl) ?_
  · obtain ⟨x, t, rfl⟩ := h3 f hm
    exact PySem.W.Looks.now
  · have e : (Value.type "str" != Value.type "tuple") = true := by first | decide +kernel | rfl | decide
    rw [e]
    exact h
end
theorem triples {K : PySem.W.Frag} {H : Hp} {f : SI → D} : ∀ {L : List SI} {xs : List V} {its : List Value}, repVs K H (L.map f) xs → Vals xs its → ∃ T : List (SI × V × Value), (∀ t ∈ T, repV K H (f t.1) t.2.1 ∧ RelV t.2.1 t.2.2) ∧ T.map (·.1) = L ∧ T.map (·.2.1) = xs ∧ T.map (·.2.2) = its
  | [], xs, its, r, v => by
    obtain rfl : xs = [] := r
    cases v
    exact ⟨[], nofun, rfl, rfl, rfl⟩
  | p :: L, xs, its, r, v => by
    obtain ⟨x, xs1, rfl, h1, r⟩ := r
    cases v with
    | cons a v =>
      obtain ⟨T, t1, t2, t3, t4⟩ := triples (L := L) r v
      exact ⟨(p, x, _) :: T, fun t ht => by
        rcases List.mem_cons.mp ht with rfl | ht
        · exact ⟨h1, a⟩
        · exact t1 t ht, by rw [List.map_cons, t2], by rw [List.map_cons, t3], by rw [List.map_cons, t4]⟩
theorem untriples {K : PySem.W.Frag} {H : Hp} {f : SI → D} : ∀ {T : List (SI × V × Value)}, (∀ t ∈ T, repV K H (f t.1) t.2.1 ∧ RelV t.2.1 t.2.2) → repVs K H ((T.map (·.1)).map f) (T.map (·.2.1)) ∧ Vals (T.map (·.2.1)) (T.map (·.2.2))
  | [], _ => ⟨rfl, .nil⟩
  | t :: T, h => by
    obtain ⟨a, b⟩ := untriples (T := T) fun t ht => h t (List.mem_cons_of_mem _ ht)
    obtain ⟨c, d⟩ := h t List.mem_cons_self
    exact ⟨⟨_, _, rfl, c, a⟩, .cons d b⟩
def rSortSI : List D → Wd → (List D → Wd → Prop) → Prop := fun ds W q => ∃ L : List SI, ds = L.map siD ∧ ∀ L' : List SI, L'.Perm L → L'.Pairwise (fun x y => ltSI y x = false) → q (L'.map siD) W
theorem dc_sortedSI {X : Cx} : CallR X (.builtin "sorted") (upCML X.K rSortSI) := by
  intro pins s σ H vs us Q I r h
  obtain ⟨a, xs, ds, W, P, q, rfl, ha, r1, rw, ⟨L, rfl, hq⟩, kk⟩ := h
  obtain rfl := Vals.ref1 r
  obtain ⟨z, its, n, rv, hl, e⟩ := I.lstM ha
  obtain ⟨T, t1, t2, t3, t4⟩ := triples r1 rv
  have hsi : ∀ v ∈ its, IsSI s.heap v (kS s.heap v) := fun v hv => by
    rw [← t4] at hv
    obtain ⟨t, ht, rfl⟩ := List.mem_map.mp hv
    have := si_of I (t1 t ht).1 (t1 t ht).2
    rw [this.k]; exact this
  refine sorted_ord (ltv := fun v u => ltSI (kS s.heap v) (kS s.heap u)) (swo_SI fun v : Value => kS s.heap v) (vs := its) ⟨_, e, rfl, _, rfl⟩ (by rw [← hl]; exact z) (fun h2 h₁ a' ha' kp => ?_) fun out hs hb => ?_
  · intro h' kp'
    have hsi' : ∀ v ∈ its, IsSI h' v (kS s.heap v) := fun v hv => by
      obtain ⟨b, o, its', n', t, u, e1, ho, hc, hd, hi⟩ := hsi v hv
      obtain ⟨hne, h1⟩ := kp b o ho
      exact ⟨b, o, its', n', t, u, e1, kp' b o hne h1, hc, hd, hi⟩
    exact ⟨tuples' true, fun Q E hq => si_kind (s := { s with heap := h' }) (by omega) hsi' hq, si_cmp (s := { s with heap := h' }) hsi'⟩
  · obtain ⟨T', p1, p2⟩ := perm_map_inv (f := fun t : SI × V × Value => t.2.2) (l := out) (L := T) (by rw [t4]; exact hb.perm)
    obtain ⟨g3, g4⟩ := untriples (K := X.K) (H := H) (f := siD) (T := T') fun t ht => t1 t (p1.mem_iff.mp ht)
    have g4 : Vals (T'.map (·.2.1)) out := by rw [p2]; exact g4
    have g1 : (T'.map (·.1)).Perm L := by rw [← t2]; exact p1.map _
    have hk : ∀ t ∈ T', kS s.heap t.2.2 = t.1 := fun t ht => by
      have := t1 t (p1.mem_iff.mp ht)
      exact (si_of I this.1 this.2).k
    have g2 : (T'.map (·.1)).Pairwise (fun x y => ltSI y x = false) := by
      rw [p2] at hs
      have h1 := List.pairwise_map.mp hs
      refine List.pairwise_map.mpr (List.Pairwise.imp_of_mem ?_ h1)
      intro x y hx hy g1
      have g1 : ltSI (kS s.heap y.2.2) (kS s.heap x.2.2) = false := g1
      rw [hk x hx, hk y hy] at g1
      exact g1
    obtain ⟨ep, he'⟩ := PyProof.Rows.sortedAll_at s.heap its out.toArray
    have hlen : (T'.map (·.2.1)).length ≤ sizeLine := by
      rw [← repVs_len g3, List.length_map, g1.length_eq]
      have := repVs_len r1
      rw [List.length_map] at this
      rw [this]; exact z
    have hf : H (s.heap.objs.size + 1) = none := I.hok.fresh (Nat.le_succ _)
    refine ⟨.ref _, upd H (s.heap.objs.size + 1) (.lst (T'.map (·.2.1))), I.laid (t' := s.toks) (fun _ _ => PyProof.Rows.sortedAll_old) (Nat.le_succ _) ⟨hlen, out, ep, g4, he'⟩, rfl, ?_⟩
    exact kk ((T'.map (·.1)).map siD) W P _ (T'.map (·.2.1)) _ (Step.new hf) hf upd_same (fun h => (rw.tracked h) hf) (repVs_mono (tupLe_upd (.inl hf)) _ g3) (rw.new hf) (hq _ g1 g2)
theorem rd_sortSI {L : List SI} {W : Wd} {q : List D → Wd → Prop} (h : ∀ L' : List SI, L'.Perm L → L'.Pairwise (fun x y => ltSI y x = false) → q (L'.map siD) W) : rSortSI (L.map siD) W q := ⟨L, rfl, h⟩
/-- two in order, of alike things, are one -/
theorem si_same : ∀ {a b : List SI}, a.Perm b → a.Pairwise (fun x y => ltSI y x = false) → b.Pairwise (fun x y => ltSI y x = false) → a = b
  | [], b, p, _, _ => by rw [List.nil_perm.mp p]
  | x :: a, b, p, h1, h2 => by
    cases b with
    | nil => exact absurd p.symm (by simp)
    | cons y b =>
      have hxy : x = y := by
        rcases List.mem_cons.mp (p.mem_iff.mp List.mem_cons_self : x ∈ y :: b) with e | e
        · exact e
        · rcases List.mem_cons.mp (p.mem_iff.mpr List.mem_cons_self : y ∈ x :: a) with e2 | e2
          · exact e2.symm
          · exact ltSI_eq ((List.pairwise_cons.mp h2).1 x e) ((List.pairwise_cons.mp h1).1 y e2)
      subst hxy
      rw [si_same (List.Perm.cons_inv p) (List.pairwise_cons.mp h1).2 (List.pairwise_cons.mp h2).2]
end DL

namespace DL
open PySem L2 PySem.Spec PyProof.Rows
/-! ### sums by names and keys -/
def nmA (A : FlA) (x : Int) : Str := match A.gs[x.toNat]? with
  | some g => g.kind.name
  | none => ⟨#[]⟩
def totN (w : Str → List Int → Nat) (A : FlA) : Nat := (A.away.map fun x => w (nmA A x) (keyA A x)).sum + (A.ls.map fun l => w l.kind.name l.keys).sum
section
variable {w : Str → List Int → Nat} {A : FlA}
theorem totN_out {x : Int} {g : GrR} (hx : x ∈ A.away) (hg : A.gs[x.toNat]? = some g) : totN w A = w g.kind.name g.keys + totN w (A.out x) := by
  have hk : keyA A x = g.keys := by unfold keyA; rw [hg]
  have hm : nmA A x = g.kind.name := by unfold nmA; rw [hg]
  have := sum_erase (f := fun x => w (nmA A x) (keyA A x)) hx
  rw [hk, hm] at this
  show _ + _ = w g.kind.name g.keys + (((A.away.erase x).map fun x => w (nmA A x) (keyA A x)).sum + (A.ls.map fun l => w l.kind.name l.keys).sum)
  rw [this]; omega
theorem totN_over {k : KindR} {keys : List Int} {tick : Int} (ok : FlOk A) : totN w (A.over k keys tick) = totN w A + w k.name keys := by
  have h1 : ((A.over k keys tick).away.map fun x => w (nmA (A.over k keys tick) x) (keyA (A.over k keys tick) x)) = (A.away.map fun x => w (nmA A x) (keyA A x)) ++ [w k.name keys] := by
    show ((A.away ++ [(A.gs.length : Int)]).map fun x => w (nmA (A.over k keys tick) x) (keyA (A.over k keys tick) x)) = _
    rw [List.map_append]
    congr 1
    · apply List.map_congr_left
      intro y hy
      obtain ⟨a1, a2⟩ := ok.aw y hy
      have h1 : keyA (A.over k keys tick) y = keyA A y := by
        unfold keyA
        show (match (A.gs ++ [⟨k, keys, tick⟩])[y.toNat]? with | some g => g.keys | none => []) = _
        rw [List.getElem?_append_left (by omega)]; first | done | rfl
      have h2 : nmA (A.over k keys tick) y = nmA A y := by
        unfold nmA
        show (match (A.gs ++ [⟨k, keys, tick⟩])[y.toNat]? with | some g => g.kind.name | none => ⟨#[]⟩) = _
        rw [List.getElem?_append_left (by omega)]
      rw [h1, h2]
    · show [w (nmA (A.over k keys tick) (A.gs.length : Int)) (keyA (A.over k keys tick) (A.gs.length : Int))] = _
      have h1 : keyA (A.over k keys tick) (A.gs.length : Int) = keys := by
        unfold keyA
        show (match (A.gs ++ [⟨k, keys, tick⟩])[((A.gs.length : Int)).toNat]? with | some g => g.keys | none => []) = _
        rw [Int.toNat_natCast, List.getElem?_append_right (Nat.le_refl _), Nat.sub_self]; rfl
      have h2 : nmA (A.over k keys tick) (A.gs.length : Int) = k.name := by
        unfold nmA
        show (match (A.gs ++ [⟨k, keys, tick⟩])[((A.gs.length : Int)).toNat]? with | some g => g.kind.name | none => ⟨#[]⟩) = _
        rw [Int.toNat_natCast, List.getElem?_append_right (Nat.le_refl _), Nat.sub_self]; rfl
      rw [h1, h2]
  unfold totN
  rw [h1, List.sum_append]
  show _ + _ + (A.ls.map fun l => w l.kind.name l.keys).sum = _
  simp only [List.sum_cons, List.sum_nil]
  omega
theorem totN_ls {l : AgR} {t : List AgR} (e : A.ls = l :: t) : totN w A = w l.kind.name l.keys + totN w { A with ls := t } := by
  unfold totN
  rw [e, List.map_cons, List.sum_cons]
  show _ = w l.kind.name l.keys + ((A.away.map fun x => w (nmA A x) (keyA A x)).sum + (t.map fun l => w l.kind.name l.keys).sum)
  omega
theorem totN_more {a b : AgR} : totN w { A with ls := A.ls ++ [a, b] } = totN w A + w a.kind.name a.keys + w b.kind.name b.keys := by
  unfold totN
  show (A.away.map fun x => w (nmA A x) (keyA A x)).sum + ((A.ls ++ [a, b]).map fun l => w l.kind.name l.keys).sum = _
  rw [List.map_append, List.sum_append]
  simp only [List.map_cons, List.map_nil, List.sum_cons, List.sum_nil]
  omega
theorem totN_nil (h1 : A.away = []) (h2 : A.ls = []) : totN w A = 0 := by
  unfold totN; rw [h1, h2]; rfl
end
/-! ### what k22 keeps -/
def cntP (pr : SI) (nm : Str) (ks : List Int) : Nat := if nm = pr.1 then ks.count pr.2 else 0
structure P22 (L0 : List SI) (A : FlA) (S : List SI) : Prop where
  ok : FlOk A
  lo : LsOk A.ls
  nat : ∀ l ∈ A.ls, l.nat = none
  cnt : ∀ pr, S.count pr + totN (cntP pr) A = L0.count pr
section
variable {L0 S : List SI} {A : FlA} {x : Int} {g : GrR}
theorem P22.one {k : Int} (s : P22 L0 A S) (hx : x ∈ A.away) (hg : A.gs[x.toNat]? = some g) (hk : g.keys = [k]) : P22 L0 (A.out x) (S ++ [(g.kind.name, k)]) ∧ phi (A.out x) + 1 = phi A := by
  refine ⟨⟨s.ok.out, s.lo, s.nat, fun pr => ?_⟩, ?_⟩
  · have := s.cnt pr
    rw [totN_out (w := cntP pr) hx hg] at this
    have e : cntP pr g.kind.name g.keys = [(g.kind.name, k)].count pr := by
      unfold cntP
      rw [hk, List.count_singleton]
      by_cases c : g.kind.name = pr.1
      · rw [if_pos c, List.count_singleton]
        by_cases d : k = pr.2
        · have : (g.kind.name, k) = pr := Prod.ext c d
          simp [d]
          exact Prod.ext c rfl
        · have : ¬ (g.kind.name, k) = pr := fun e => d (by rw [← e])
          simp [d, this]
      · rw [if_neg c]
        have : ¬ (g.kind.name, k) = pr := fun e => c (by rw [← e])
        simp [this]
    rw [List.count_append, ← e]; omega
  · unfold phi
    rw [tot_out (w := fun ks => 2 * ks.length - 1) hx hg, hk]
    simp; omega
theorem P22.half {w : Str} (s : P22 L0 A S) (hx : x ∈ A.away) (hg : A.gs[x.toNat]? = some g) (h : 2 ≤ g.keys.length) : P22 L0 ((A.out x).whole g w).2 S ∧ phi ((A.out x).whole g w).2 + 1 = phi A := by
  have hgm := List.mem_of_getElem? hg
  obtain ⟨k1, k2, k3⟩ := s.ok.gk g hgm
  have kb := s.ok.gb g hgm
  obtain ⟨q1, q2⟩ := half_len h
  obtain ⟨X, hX⟩ : ∃ X : FlA, X = { A.out x with ls := A.ls ++ [⟨g.kind, g.keys.take (halfN g.keys), none⟩, ⟨g.kind, g.keys.drop (halfN g.keys), none⟩] } := ⟨_, rfl⟩
  have hw : (A.out x).whole g w = ([], X) := by rw [hX]; exact whole_half h
  rw [hw]
  show P22 L0 X S ∧ phi X + 1 = phi A
  have hX2 : X = { A.out x with ls := (A.out x).ls ++ [⟨g.kind, g.keys.take (halfN g.keys), none⟩, ⟨g.kind, g.keys.drop (halfN g.keys), none⟩] } := by rw [hX]; rfl
  have ht : tot (fun ks => 2 * ks.length - 1) X + (2 * g.keys.length - 1) = tot (fun ks => 2 * ks.length - 1) A + (2 * (g.keys.take (halfN g.keys)).length - 1) + (2 * (g.keys.drop (halfN g.keys)).length - 1) := by
    rw [hX2, tot_more, tot_out (w := fun ks => 2 * ks.length - 1) hx hg]
    simp only
    omega
  have htn : ∀ pr, totN (cntP pr) X = totN (cntP pr) A := fun pr => by
    rw [hX2, totN_more, totN_out (w := cntP pr) hx hg]
    have h5 : (g.keys.take (halfN g.keys)).count pr.2 + (g.keys.drop (halfN g.keys)).count pr.2 = g.keys.count pr.2 := by rw [← List.count_append, List.take_append_drop]
    have : cntP pr g.kind.name (g.keys.take (halfN g.keys)) + cntP pr g.kind.name (g.keys.drop (halfN g.keys)) = cntP pr g.kind.name g.keys := by
      unfold cntP
      by_cases c : g.kind.name = pr.1
      · rw [if_pos c, if_pos c, if_pos c]; exact h5
      · rw [if_neg c, if_neg c, if_neg c]
    simp only
    omega
  have hXl : X.ls = A.ls ++ [⟨g.kind, g.keys.take (halfN g.keys), none⟩, ⟨g.kind, g.keys.drop (halfN g.keys), none⟩] := by rw [hX]
  have hXo : FlOk X := by rw [hX]; exact ⟨s.ok.out.aw, s.ok.out.as_, s.ok.gk, s.ok.gb⟩
  refine ⟨⟨hXo, ?_, ?_, fun pr => by rw [htn]; exact s.cnt pr⟩, ?_⟩
  · intro l hl
    rw [hXl] at hl
    rcases List.mem_append.mp hl with hl | hl
    · exact s.lo l hl
    · simp only [List.mem_cons, List.not_mem_nil, or_false] at hl
      rcases hl with rfl | rfl
      · exact ⟨by show 1 ≤ (g.keys.take _).length; omega, by show (g.keys.take _).length ≤ 64; omega, k3, nofun, fun k hk => kb k (List.mem_of_mem_take hk)⟩
      · exact ⟨by show 1 ≤ (g.keys.drop _).length; omega, by show (g.keys.drop _).length ≤ 64; omega, k3, nofun, fun k hk => kb k (List.mem_of_mem_drop hk)⟩
  · intro l hl
    rw [hXl] at hl
    rcases List.mem_append.mp hl with hl | hl
    · exact s.nat l hl
    · simp only [List.mem_cons, List.not_mem_nil, or_false] at hl
      rcases hl with rfl | rfl <;> rfl
  · unfold phi
    omega
theorem P22.again {l : AgR} {t : List AgR} {tick : Int} (s : P22 L0 A S) (e : A.ls = l :: t) : P22 L0 (({ A with ls := t } : FlA).over l.kind l.keys tick) S ∧ phi (({ A with ls := t } : FlA).over l.kind l.keys tick) = phi A := by
  obtain ⟨a1, a2, a3, a4, a5⟩ := s.lo l (by rw [e]; exact List.mem_cons_self)
  have ok2 : FlOk ({ A with ls := t } : FlA) := ⟨s.ok.aw, s.ok.as_, s.ok.gk, s.ok.gb⟩
  have ht : ∀ w : List Int → Nat, tot w (({ A with ls := t } : FlA).over l.kind l.keys tick) = tot w A := fun w => by
    rw [tot_over ok2, tot_ls e]; omega
  have htn : ∀ w : Str → List Int → Nat, totN w (({ A with ls := t } : FlA).over l.kind l.keys tick) = totN w A := fun w => by
    rw [totN_over ok2, totN_ls e]; omega
  have := ok2.hand (k := l.kind) (keys := l.keys) (tick := tick) a1 a2 a3 a5
  exact ⟨⟨⟨this.aw, this.as_, this.gk, this.gb⟩, fun l' hl' => s.lo l' (by rw [e]; exact List.mem_cons_of_mem _ hl'), fun l' hl' => s.nat l' (by rw [e]; exact List.mem_cons_of_mem _ hl'), fun pr => by rw [htn]; exact s.cnt pr⟩, ht _⟩
theorem P22.done (s : P22 L0 A S) (h : phi A = 0) : A.away = [] ∧ A.ls = [] ∧ S.Perm L0 := by
  have h1 : A.away = [] := by
    cases q : A.away with
    | nil => rfl
    | cons x t =>
      exfalso
      have hx : x ∈ A.away := by rw [q]; exact List.mem_cons_self
      obtain ⟨a1, a2⟩ := s.ok.aw x hx
      have hg : A.gs[x.toNat]? = some (A.gs[x.toNat]'(by omega)) := List.getElem?_eq_getElem (by omega)
      have := phi_new hx hg (s.ok.gk _ (List.mem_of_getElem? hg)).1
      omega
  have h2 : A.ls = [] := by
    cases q : A.ls with
    | nil => rfl
    | cons l t =>
      exfalso
      have := (s.lo l (by rw [q]; exact List.mem_cons_self)).1
      unfold phi at h
      rw [tot_ls q] at h
      omega
  refine ⟨h1, h2, List.perm_iff_count.mpr fun pr => ?_⟩
  have := s.cnt pr
  rw [totN_nil h1 h2] at this
  exact this
end
theorem keys22 {many : Nat} {base : Int} (h : many ≤ 64) (h0 : 0 ≤ base) (h1 : base ≤ 999999999999999800) : ∃ keys : List Int, ((List.range many).map fun i : Nat => (0 : Int) + (i : Int)).map (fun k => base + (5 + 3 * k) % 193) = keys ∧ keys.length = many ∧ (∀ k ∈ keys, 0 ≤ k ∧ k ≤ 1000000000000000000) := by
  refine ⟨_, rfl, by rw [List.length_map, List.length_map, List.length_range], fun k hk => ?_⟩
  obtain ⟨j, _, rfl⟩ := List.mem_map.mp hk
  omega
def prsN (nm : Str) (keys : List Int) : List SI := keys.map fun k => (nm, k)
theorem cntP_prs {pr : SI} {nm : Str} : ∀ {keys : List Int}, (prsN nm keys).count pr = cntP pr nm keys
  | [] => by unfold prsN cntP; simp
  | k :: keys => by
    have ih := cntP_prs (pr := pr) (nm := nm) (keys := keys)
    unfold prsN cntP at ih ⊢
    rw [List.map_cons, List.count_cons, ih, List.count_cons]
    by_cases c : nm = pr.1
    · rw [if_pos c, if_pos c]
      congr 1
      by_cases d : k = pr.2
      · have : (nm, k) = pr := Prod.ext c d
        rw [if_pos (by simpa using this), if_pos (by simpa using d)]
      · have : ¬ (nm, k) = pr := fun e => d (by rw [← e])
        rw [if_neg (by simpa using this), if_neg (by simpa using d)]
    · rw [if_neg c, if_neg c]
      have : ¬ (nm, k) = pr := fun e => c (by rw [← e])
      rw [if_neg (by simpa using this)]
theorem P22.start {room : Int} : P22 [] (FlA.new room) [] ∧ phi (FlA.new room) = 0 :=
  ⟨⟨⟨nofun, List.Pairwise.nil, nofun, nofun⟩, nofun, nofun, fun _ => rfl⟩, rfl⟩
theorem P22.hand {L0 S : List SI} {A : FlA} {k : KindR} {keys : List Int} {tick : Int} (s : P22 L0 A S) (h1 : 1 ≤ keys.length) (h2 : keys.length ≤ 64) (h3 : PyData.strOk k.name = true) (h4 : ∀ x ∈ keys, 0 ≤ x ∧ x ≤ 1000000000000000000) :
    P22 (L0 ++ prsN k.name keys) (A.hand k keys tick) S ∧ phi (A.hand k keys tick) = phi A + (2 * keys.length - 1) := by
  have ok1 : FlOk ({ A with cnt := cntNew A.cnt k.name keys } : FlA) := ⟨s.ok.aw, s.ok.as_, s.ok.gk, s.ok.gb⟩
  refine ⟨⟨s.ok.hand h1 h2 h3 h4, s.lo, s.nat, fun pr => ?_⟩, ?_⟩
  · have := s.cnt pr
    have e : totN (cntP pr) (A.hand k keys tick) = totN (cntP pr) A + cntP pr k.name keys := by
      show totN (cntP pr) (({ A with cnt := cntNew A.cnt k.name keys } : FlA).over k keys tick) = _
      rw [totN_over ok1]; rfl
    rw [e, List.count_append, cntP_prs]; omega
  · unfold phi
    show tot (fun ks => 2 * ks.length - 1) (({ A with cnt := cntNew A.cnt k.name keys } : FlA).over k keys tick) = _
    rw [tot_over ok1]; rfl
theorem phi_nil {A : FlA} (h1 : A.away = []) (h2 : A.ls = []) : phi A = 0 := tot_nil h1 h2
end DL

namespace DL
open PySem L2 PySem.Spec PyProof.Rows
/-! ### windows, plans, papers, plainly -/
abbrev Win := Int × Int
abbrev GrP := Int × List Int
def pW (ws : List Win) (p : Int) : Win := (ws[p.toNat]?).getD (0, -1)
def inS (s w : Win) : Bool := decide (s.1 ≤ w.1) && decide (w.2 ≤ s.2)
def cntS (ws : List Win) (s : Win) : Nat := (ws.filter (inS s)).length
def ceilN (c m : Nat) : Nat := (c + m - 1) / m
def worthP (m : Nat) (ws : List Win) (q : List Win) : Nat := (q.map fun s => ceilN (cntS ws s) m).sum
structure PlanOk (m : Nat) (ws : List Win) (P : List GrP) : Prop where
  all : (P.flatMap (·.2)).Perm ((List.range ws.length).map fun i : Nat => (i : Int))
  len : ∀ g ∈ P, g.2.length ≤ m
  hold : ∀ g ∈ P, ∀ p ∈ g.2, (pW ws p).1 ≤ g.1 ∧ g.1 ≤ (pW ws p).2
theorem ceil_le {c m b : Nat} (hm : 1 ≤ m) (h : c ≤ m * b) : ceilN c m ≤ b := by
  unfold ceilN
  have : (c + m - 1) / m < b + 1 := (Nat.div_lt_iff_lt_mul (by omega)).mpr (by
    rw [Nat.add_mul, Nat.one_mul, Nat.mul_comm b m]; omega)
  omega
theorem ceil_ge {c m b : Nat} (hm : 1 ≤ m) (h : m * b + 1 ≤ c) : b + 1 ≤ ceilN c m := by
  unfold ceilN
  refine (Nat.le_div_iff_mul_le (by omega)).mpr ?_
  rw [Nat.add_mul, Nat.one_mul, Nat.mul_comm b m]; omega
theorem cntS_perm {ws ws' : List Win} (h : ws.Perm ws') (s : Win) : cntS ws s = cntS ws' s := (h.filter _).length_eq
theorem range_win {ws : List Win} : ((List.range ws.length).map fun i : Nat => pW ws (i : Int)) = ws := by
  apply List.ext_getElem?
  intro i
  rw [List.getElem?_map]
  by_cases h : i < ws.length
  · rw [List.getElem?_range h]
    simp only [Option.map_some, pW, Int.toNat_natCast]
    rw [List.getElem?_eq_getElem h]; rfl
  · rw [List.getElem?_eq_none (by simpa using h), List.getElem?_eq_none (by omega)]; rfl
theorem cnt_places {m : Nat} {ws : List Win} {P : List GrP} (o : PlanOk m ws P) (s : Win) : cntS ws s = (P.map fun g => (g.2.filter fun p => inS s (pW ws p)).length).sum := by
  have h1 : cntS ws s = (((List.range ws.length).map fun i : Nat => (i : Int)).filter fun p => inS s (pW ws p)).length := by
    unfold cntS
    conv => lhs; rw [← range_win (ws := ws)]
    rw [List.filter_map, List.filter_map, List.length_map, List.length_map]; rfl
  rw [h1, ← (o.all.filter fun p => inS s (pW ws p)).length_eq]
  have : ∀ P : List GrP, ((P.flatMap (·.2)).filter fun p => inS s (pW ws p)).length = (P.map fun g => (g.2.filter fun p => inS s (pW ws p)).length).sum := by
    intro P
    induction P with
    | nil => rfl
    | cons g P ih => rw [List.flatMap_cons, List.filter_append, List.length_append, List.map_cons, List.sum_cons, ih]
  exact this P
def inT (s : Win) (g : GrP) : Bool := decide (s.1 ≤ g.1) && decide (g.1 ≤ s.2)
theorem cnt_ticks {m : Nat} {ws : List Win} {P : List GrP} (o : PlanOk m ws P) (s : Win) : cntS ws s ≤ m * (P.filter (inT s)).length := by
  rw [cnt_places o]
  have : ∀ P' : List GrP, (∀ g ∈ P', g ∈ P) → (P'.map fun g => (g.2.filter fun p => inS s (pW ws p)).length).sum ≤ m * (P'.filter (inT s)).length := by
    intro P'
    induction P' with
    | nil => intro _; exact Nat.zero_le _
    | cons g P' ih =>
      intro hP
      have h1 := ih fun g' hg' => hP g' (List.mem_cons_of_mem _ hg')
      have hg := hP g List.mem_cons_self
      rw [List.map_cons, List.sum_cons, List.filter_cons]
      by_cases c : inT s g = true
      · rw [if_pos c, List.length_cons, Nat.mul_add, Nat.mul_one]
        have := List.length_filter_le (fun p => inS s (pW ws p)) g.2
        have := o.len g hg
        omega
      · rw [if_neg c]
        have h0 : g.2.filter (fun p => inS s (pW ws p)) = [] := List.filter_eq_nil_iff.mpr fun p hp hi => by
          obtain ⟨a, b⟩ := o.hold g hg p hp
          unfold inS at hi
          unfold inT at c
          simp only [Bool.and_eq_true, decide_eq_true_eq] at hi c
          exact c ⟨by omega, by omega⟩
        rw [h0, List.length_nil]; omega
  exact this P fun _ h => h
/-- spans one behind another -/
def Chain (q : List Win) : Prop := q.Pairwise fun a b => a.2 < b.1
theorem spans_le {P : List GrP} : ∀ {q : List Win}, Chain q → ∀ b0 : Int, (∀ s ∈ q, b0 ≤ s.1 ∧ s.1 ≤ s.2) → (q.map fun s => (P.filter (inT s)).length).sum ≤ (P.filter fun g => decide (b0 ≤ g.1)).length
  | [], _, _, _ => Nat.zero_le _
  | s :: q, hc, b0, hb => by
    obtain ⟨h1, h2⟩ := List.pairwise_cons.mp hc
    have ih := spans_le (P := P) h2 (s.2 + 1) fun s' hs' => ⟨by have := h1 s' hs'; omega, (hb s' (List.mem_cons_of_mem _ hs')).2⟩
    obtain ⟨b1, b2⟩ := hb s List.mem_cons_self
    rw [List.map_cons, List.sum_cons]
    refine Nat.le_trans (Nat.add_le_add_left ih _) ?_
    clear ih h1 h2 hc hb
    induction P with
    | nil => exact Nat.le_refl _
    | cons g P ih =>
      rw [List.filter_cons, List.filter_cons, List.filter_cons]
      by_cases c1 : inT s g = true
      · have c1' := c1
        unfold inT at c1'
        simp only [Bool.and_eq_true, decide_eq_true_eq] at c1'
        rw [if_pos c1, if_neg (by rw [decide_eq_true_eq]; omega), if_pos (by rw [decide_eq_true_eq]; omega)]
        simp only [List.length_cons]; omega
      · rw [if_neg c1]
        by_cases c2 : s.2 + 1 ≤ g.1
        · rw [if_pos (decide_eq_true c2), if_pos (by rw [decide_eq_true_eq]; omega)]
          simp only [List.length_cons]; omega
        · rw [if_neg (by rw [decide_eq_true_eq]; exact c2)]
          split
          · simp only [List.length_cons]; omega
          · exact ih
/-- no plan has fewer than a paper is worth -/
theorem weak {m : Nat} {ws : List Win} {P : List GrP} {q : List Win} (hm : 1 ≤ m) (o : PlanOk m ws P) (hc : Chain q) (hb : ∀ s ∈ q, s.1 ≤ s.2) : worthP m ws q ≤ P.length := by
  have h1 : worthP m ws q ≤ (q.map fun s => (P.filter (inT s)).length).sum := by
    unfold worthP
    have : ∀ q' : List Win, (q'.map fun s => ceilN (cntS ws s) m).sum ≤ (q'.map fun s => (P.filter (inT s)).length).sum := by
      intro q'
      induction q' with
      | nil => exact Nat.le_refl _
      | cons s q' ih =>
        rw [List.map_cons, List.sum_cons, List.map_cons, List.sum_cons]
        have := ceil_le hm (cnt_ticks o s)
        omega
    exact this q
  cases q with
  | nil => exact Nat.le_trans h1 (Nat.zero_le _)
  | cons s q =>
    have hlo : ∀ s' ∈ s :: q, s.1 ≤ s'.1 ∧ s'.1 ≤ s'.2 := fun s' hs' => by
      rcases List.mem_cons.mp hs' with rfl | h
      · exact ⟨Int.le_refl _, hb _ List.mem_cons_self⟩
      · have := (List.pairwise_cons.mp hc).1 s' h
        have := hb s List.mem_cons_self
        exact ⟨by omega, hb s' hs'⟩
    exact Nat.le_trans h1 (Nat.le_trans (spans_le hc s.1 hlo) (List.length_filter_le _ _))
theorem worthP_perm {m : Nat} {ws ws' : List Win} (h : ws.Perm ws') (q : List Win) : worthP m ws q = worthP m ws' q := by
  unfold worthP
  congr 1
  exact List.map_congr_left fun s _ => by rw [cntS_perm h]
end DL

namespace DL
open PySem L2 PySem.Spec PyProof.Rows
/-! ### the paper of a plan that is full where it may be -/
def fullP (m : Nat) (ws : List Win) (g : GrP) (last : Int) : Bool := decide (g.2.length = m) && g.2.all fun p => decide ((pW ws p).2 ≤ last)
structure PlanG (m : Nat) (ws : List Win) (P : List GrP) : Prop extends PlanOk m ws P where
  star : P.Pairwise fun h g => ∀ p ∈ g.2, ∀ last, (pW ws p).2 ≤ last → (pW ws p).1 ≤ h.1 → fullP m ws h last = true
  head : ∀ g ∈ P, ∃ p ∈ g.2, (pW ws p).2 = g.1
  mono : P.Pairwise fun a b => a.1 ≤ b.1
  rng : ∀ g ∈ P, 0 ≤ g.1 ∧ g.1 ≤ 1000000000
  fst0 : ∀ w ∈ ws, 0 ≤ w.1 ∧ w.1 ≤ w.2 ∧ w.2 ≤ 1000000000
  rise : ∀ g ∈ P, g.2.Pairwise (· < ·)
theorem pW_mem {ws : List Win} {p : Int} (h : p ∈ (List.range ws.length).map fun i : Nat => (i : Int)) : pW ws p ∈ ws := by
  obtain ⟨i, hi, rfl⟩ := List.mem_map.mp h
  have hi := List.mem_range.mp hi
  unfold pW
  rw [Int.toNat_natCast, List.getElem?_eq_getElem hi]
  exact List.getElem_mem hi
theorem PlanG.win {m : Nat} {ws : List Win} {P : List GrP} (s : PlanG m ws P) {g : GrP} (hg : g ∈ P) {p : Int} (hp : p ∈ g.2) : 0 ≤ (pW ws p).1 ∧ (pW ws p).1 ≤ (pW ws p).2 ∧ (pW ws p).2 ≤ 1000000000 :=
  s.fst0 _ (pW_mem (s.all.mem_iff.mp (List.mem_flatMap.mpr ⟨g, hg, hp⟩)))
structure PapI (m : Nat) (ws : List Win) (P : List GrP) (sp : List Win) (many : Nat) : Prop where
  le : many ≤ P.length
  rng : ∀ s ∈ sp, 0 ≤ s.1 ∧ s.1 ≤ s.2 ∧ s.2 ≤ 1000000000
  chain : sp.Pairwise fun a b => b.2 < a.1
  gap : ∀ g, P[many - 1]? = some g → 0 < many → ∀ s ∈ sp, g.1 < s.1
  worth : P.length ≤ many + worthP m ws sp
theorem PapI.start {m : Nat} {ws : List Win} {P : List GrP} : PapI m ws P [] P.length :=
  ⟨Nat.le_refl _, nofun, .nil, nofun, Nat.le_add_right _ _⟩
/-- one span more -/
theorem PapI.step {m : Nat} {ws : List Win} {A B C : List GrP} {g : GrP} {sp : List Win} {first : Int} (hm : 1 ≤ m) (s : PlanG m ws (A ++ B ++ g :: C)) (i : PapI m ws (A ++ B ++ g :: C) sp (A.length + B.length + 1))
    (hB : ∀ b ∈ B, fullP m ws b g.1 = true) (hA : A = [] ∧ first = 0 ∨ ∃ A' h, A = A' ++ [h] ∧ fullP m ws h g.1 = false ∧ first = h.1 + 1) :
    PapI m ws (A ++ B ++ g :: C) (sp ++ [(first, g.1)]) A.length := by
  have hgP : g ∈ A ++ B ++ g :: C := by simp
  have hlate : ∀ g' ∈ B ++ [g], ∀ p ∈ g'.2, (pW ws p).2 ≤ g.1 → first ≤ (pW ws p).1 := by
    intro g' hg' p hp hl
    have hg'P : g' ∈ A ++ B ++ g :: C := by
      rcases List.mem_append.mp hg' with h | h
      · simp [h]
      · rw [List.mem_singleton] at h; subst h; exact hgP
    have hw := s.win hg'P hp
    rcases hA with ⟨_, rfl⟩ | ⟨A', h, rfl, hf, rfl⟩
    · exact hw.1
    · by_cases c : (pW ws p).1 ≤ h.1
      · exfalso
        have hst := s.star
        rw [show A' ++ [h] ++ B ++ g :: C = (A' ++ [h]) ++ ((B ++ [g]) ++ C) by simp] at hst
        have := (List.pairwise_append.mp hst).2.2 h (by simp) g' (List.mem_append_left _ hg') p hp g.1 hl c
        rw [hf] at this; cases this
      · omega
  obtain ⟨p0, hp0, he0⟩ := s.head g hgP
  have hw0 := s.win hgP hp0
  have hfl : first ≤ g.1 := by
    have := hlate g (by simp) p0 hp0 (by rw [he0]; exact Int.le_refl _)
    omega
  have hf0 : 0 ≤ first := by
    rcases hA with ⟨_, rfl⟩ | ⟨A', h, rfl, hf, rfl⟩
    · exact Int.le_refl _
    · have := (s.rng h (by simp)).1; omega
  have hgr := s.rng g hgP
  have hgap := i.gap g (by
    rw [Nat.add_sub_cancel, List.getElem?_append_right (by rw [List.length_append]; exact Nat.le_refl _), List.length_append, Nat.sub_self]; rfl) (by omega)
  refine ⟨by simp, fun x hx => ?_, ?_, fun h' hh hpos x hx => ?_, ?_⟩
  · rcases List.mem_append.mp hx with hx | hx
    · exact i.rng x hx
    · rw [List.mem_singleton] at hx; subst hx; exact ⟨hf0, hfl, hgr.2⟩
  · rw [List.pairwise_append]
    exact ⟨i.chain, List.pairwise_singleton _ _, fun x hx y hy => by rw [List.mem_singleton] at hy; subst hy; exact hgap x hx⟩
  · rcases hA with ⟨rfl, _⟩ | ⟨A', h, rfl, hf, rfl⟩
    · simp at hpos
    · have e : h' = h := by
        rw [List.length_append, List.length_singleton, Nat.add_sub_cancel, List.append_assoc, List.append_assoc, List.getElem?_append_right (Nat.le_refl _), Nat.sub_self] at hh
        exact (Option.some.inj hh).symm
      subst e
      rcases List.mem_append.mp hx with hx | hx
      · have h1 := hgap x hx
        have hmo := s.mono
        rw [show A' ++ [h'] ++ B ++ g :: C = (A' ++ [h']) ++ (B ++ g :: C) by simp] at hmo
        have := (List.pairwise_append.mp hmo).2.2 h' (by simp) g (by simp)
        omega
      · rw [List.mem_singleton] at hx; subst hx
        show h'.1 < h'.1 + 1
        omega
  · have h1 := i.worth
    have hw : worthP m ws (sp ++ [(first, g.1)]) = worthP m ws sp + ceilN (cntS ws (first, g.1)) m := by
      unfold worthP
      rw [List.map_append, List.sum_append]
      simp
    have hc : m * B.length + 1 ≤ cntS ws (first, g.1) := by
      rw [cnt_places s.toPlanOk]
      have hsum : ∀ X Y : List GrP, ((X ++ Y).map fun g' => (g'.2.filter fun p => inS (first, g.1) (pW ws p)).length).sum = (X.map fun g' => (g'.2.filter fun p => inS (first, g.1) (pW ws p)).length).sum + (Y.map fun g' => (g'.2.filter fun p => inS (first, g.1) (pW ws p)).length).sum := fun X Y => by rw [List.map_append, List.sum_append]
      rw [hsum, hsum, List.map_cons, List.sum_cons]
      have hBs : m * B.length ≤ (B.map fun g' => (g'.2.filter fun p => inS (first, g.1) (pW ws p)).length).sum := by
        have : ∀ B' : List GrP, (∀ b ∈ B', b ∈ B) → m * B'.length ≤ (B'.map fun g' => (g'.2.filter fun p => inS (first, g.1) (pW ws p)).length).sum := by
          intro B'
          induction B' with
          | nil => intro _; exact Nat.le_refl _
          | cons b B' ih =>
            intro hb
            have h1 := ih fun b' hb' => hb b' (List.mem_cons_of_mem _ hb')
            have hbB := hb b List.mem_cons_self
            have hfull := hB b hbB
            unfold fullP at hfull
            rw [Bool.and_eq_true, decide_eq_true_eq, List.all_eq_true] at hfull
            have h2 : b.2.filter (fun p => inS (first, g.1) (pW ws p)) = b.2 := List.filter_eq_self.mpr fun p hp => by
              have hl := of_decide_eq_true (hfull.2 p hp)
              have := hlate b (List.mem_append_left _ hbB) p hp hl
              unfold inS
              simp only [Bool.and_eq_true, decide_eq_true_eq]
              exact ⟨this, hl⟩
            rw [List.map_cons, List.sum_cons, h2, hfull.1, List.length_cons, Nat.mul_add, Nat.mul_one]; omega
        exact this B fun _ h => h
      have hg1 : 1 ≤ (g.2.filter fun p => inS (first, g.1) (pW ws p)).length := by
        refine List.length_pos_of_mem (a := p0) (List.mem_filter.mpr ⟨hp0, ?_⟩)
        have := hlate g (by simp) p0 hp0 (by rw [he0]; exact Int.le_refl _)
        unfold inS
        simp only [Bool.and_eq_true, decide_eq_true_eq]
        exact ⟨this, by rw [he0]; exact Int.le_refl _⟩
      omega
    have := ceil_ge hm hc
    rw [hw]; omega
theorem PapI.done {m : Nat} {ws : List Win} {P : List GrP} {sp : List Win} (hm : 1 ≤ m) (s : PlanG m ws P) (i : PapI m ws P sp 0) : Chain sp.reverse ∧ worthP m ws sp.reverse = P.length := by
  have hc : Chain sp.reverse := List.pairwise_reverse.mpr i.chain
  have hp : worthP m ws sp.reverse = worthP m ws sp := by
    unfold worthP
    exact ((List.reverse_perm sp).map _).sum_nat
  refine ⟨hc, ?_⟩
  have h1 := weak hm s.toPlanOk hc fun x hx => (i.rng x (List.mem_reverse.mp hx)).2.1
  have h2 := i.worth
  omega
end DL

namespace DL
open PySem L2 PySem.Spec PyProof.Rows
/-! ### the greedy plan, plainly -/
abbrev WRow := Int × Int × Int
def r3D (r : WRow) : D := .tup [.int r.1, .int r.2.1, .int r.2.2]
def wD (w : Win) : D := .tup [.int w.1, .int w.2]
def gD (g : GrP) : D := .tup [.int g.1, .tup (g.2.map D.int)]
def srtI (l : List Int) : List Int := l.mergeSort fun a b => decide (a ≤ b)
theorem srtI_perm (l : List Int) : (srtI l).Perm l := List.mergeSort_perm l _
theorem srtI_pw (l : List Int) : (srtI l).Pairwise (· ≤ ·) := by
  refine (List.pairwise_mergeSort (le := fun a b => decide (a ≤ b)) (fun a b c h1 h2 => ?_) (fun a b => ?_) l).imp fun {a b} h => of_decide_eq_true h
  · exact decide_eq_true (Int.le_trans (of_decide_eq_true h1) (of_decide_eq_true h2))
  · by_cases q : a ≤ b
    · rw [decide_eq_true q]; rfl
    · have : b ≤ a := by omega
      rw [decide_eq_true this, Bool.or_true]
theorem srtI_eq {l s : List Int} (hp : s.Perm l) (hs : s.Pairwise (· ≤ ·)) : s = srtI l :=
  (hp.trans (srtI_perm l).symm).eq_of_pairwise (le := (· ≤ ·)) (fun a b _ _ h1 h2 => Int.le_antisymm h1 h2) hs (srtI_pw l)
def tkR (rest : List WRow) : Int := match rest with
  | [] => 0
  | r :: _ => r.1
def chR (m : Nat) (rest : List WRow) : List WRow := (rest.filter fun r => decide (r.2.1 ≤ tkR rest)).take m
def plR (m : Nat) (rest : List WRow) : List Int := (chR m rest).map fun r => r.2.2
def nxR (m : Nat) (rest : List WRow) : List WRow := rest.filter fun r => !(plR m rest).contains r.2.2
def grR (m : Nat) (rest : List WRow) : GrP := (tkR rest, srtI (plR m rest))
def runF (m : Nat) : Nat → List WRow → List GrP
  | 0, _ => []
  | _ + 1, [] => []
  | n + 1, r :: rest => grR m (r :: rest) :: runF m n (nxR m (r :: rest))
theorem sub_perm {α β : Type} [BEq β] [LawfulBEq β] (f : α → β) {s l : List α} (h : s.Sublist l) : (l.map f).Nodup → (s ++ l.filter fun r => !(s.map f).contains (f r)).Perm l := by
  induction h with
  | slnil => intro _; exact .refl _
  | @cons s l a h ih =>
    intro hn
    rw [List.map_cons, List.nodup_cons] at hn
    have hna : (s.map f).contains (f a) = false := by
      cases q : (s.map f).contains (f a) with
      | false => rfl
      | true => exact absurd ((h.map f).subset (List.contains_iff_mem.mp q)) hn.1
    rw [List.filter_cons, hna]
    exact List.perm_middle.trans ((ih hn.2).cons a)
  | @cons_cons s l a h ih =>
    intro hn
    rw [List.map_cons, List.nodup_cons] at hn
    have hc : (((a :: s).map f).contains (f a)) = true := by simp
    rw [List.filter_cons, hc]
    refine List.Perm.cons a ?_
    refine List.Perm.trans ?_ (ih hn.2)
    refine .append_left _ ?_
    rw [if_neg (by decide)]
    rw [List.filter_congr (q := fun r => !(s.map f).contains (f r)) fun x hx => by
      have : f x ≠ f a := fun e => hn.1 (by rw [← e]; exact List.mem_map_of_mem hx)
      simp [List.contains_cons, this]]
structure GoodR (ws : List Win) (a : List WRow) : Prop where
  row : ∀ r ∈ a, r.2.2 ∈ ((List.range ws.length).map fun i : Nat => (i : Int)) ∧ pW ws r.2.2 = (r.2.1, r.1)
  srt : a.Pairwise fun x y => x.1 ≤ y.1
  nd : (a.map fun r => r.2.2).Nodup
theorem chR_sub {m : Nat} {a : List WRow} : (chR m a).Sublist a := (List.take_sublist _ _).trans List.filter_sublist
theorem nxR_sub {m : Nat} {a : List WRow} : (nxR m a).Sublist a := List.filter_sublist
theorem GoodR.sub {ws : List Win} {a b : List WRow} (g : GoodR ws a) (h : b.Sublist a) : GoodR ws b :=
  ⟨fun r hr => g.row r (h.subset hr), g.srt.sublist h, g.nd.sublist (h.map _)⟩
theorem tk_le {ws : List Win} {a : List WRow} (g : GoodR ws a) {r : WRow} (h : r ∈ a) : tkR a ≤ r.1 := by
  cases a with
  | nil => exact absurd h (List.not_mem_nil)
  | cons x a =>
    rcases List.mem_cons.mp h with rfl | h
    · exact Int.le_refl _
    · exact (List.pairwise_cons.mp g.srt).1 r h
theorem ch_first {m : Nat} {a : List WRow} {r : WRow} (h : r ∈ chR m a) : r.2.1 ≤ tkR a :=
  of_decide_eq_true (List.mem_filter.mp (List.mem_of_mem_take h)).2
theorem ch_star {ws : List Win} {m : Nat} {a : List WRow} (g : GoodR ws a) {r : WRow} (h : r ∈ a) (hn : r ∉ chR m a) (hf : r.2.1 ≤ tkR a) : (chR m a).length = m ∧ ∀ c ∈ chR m a, c.1 ≤ r.1 := by
  have hF : r ∈ a.filter fun r => decide (r.2.1 ≤ tkR a) := List.mem_filter.mpr ⟨h, decide_eq_true hf⟩
  have hp : (a.filter fun r => decide (r.2.1 ≤ tkR a)).Pairwise fun x y => x.1 ≤ y.1 := g.srt.sublist List.filter_sublist
  unfold chR at hn ⊢
  generalize a.filter (fun r => decide (r.2.1 ≤ tkR a)) = F at hF hp hn ⊢
  rw [← List.take_append_drop m F] at hF hp
  have hd : r ∈ F.drop m := (List.mem_append.mp hF).resolve_left hn
  refine ⟨?_, fun c hc => (List.pairwise_append.mp hp).2.2 c hc r hd⟩
  rw [List.length_take]
  have := List.length_pos_of_mem hd
  rw [List.length_drop] at this
  omega
theorem ch_head {m : Nat} (hm : 1 ≤ m) {r : WRow} {a : List WRow} (h : r.2.1 ≤ r.1) : r ∈ chR m (r :: a) := by
  unfold chR
  rw [List.filter_cons, if_pos (decide_eq_true (by exact h))]
  cases m with
  | zero => omega
  | succ m => exact List.mem_cons_self
theorem nx_iff {ws : List Win} {m : Nat} {a : List WRow} (g : GoodR ws a) {r : WRow} (h : r ∈ nxR m a) : r ∈ a ∧ r ∉ chR m a := by
  obtain ⟨h1, h2⟩ := List.mem_filter.mp h
  refine ⟨h1, fun hc => ?_⟩
  have : (plR m a).contains r.2.2 = true := List.contains_iff_mem.mpr (List.mem_map.mpr ⟨r, hc, rfl⟩)
  rw [this] at h2; exact nomatch h2
theorem nx_len {m : Nat} (hm : 1 ≤ m) {r : WRow} {a : List WRow} (h : r.2.1 ≤ r.1) : (nxR m (r :: a)).length ≤ a.length := by
  unfold nxR
  rw [List.filter_cons]
  have : (plR m (r :: a)).contains r.2.2 = true := List.contains_iff_mem.mpr (List.mem_map.mpr ⟨r, ch_head hm h, rfl⟩)
  rw [this, if_neg (by decide)]
  exact List.length_filter_le _ _
structure RunI (m : Nat) (ws : List Win) (rs : List (List WRow)) (rest : List WRow) : Prop where
  good : GoodR ws rest
  rsg : ∀ a ∈ rs, a ≠ [] ∧ GoodR ws a
  after : rs.Pairwise fun a b => ∀ x ∈ b, x ∈ a ∧ x ∉ chR m a
  cur : ∀ a ∈ rs, ∀ x ∈ rest, x ∈ a ∧ x ∉ chR m a
  perm : ((rs.flatMap (plR m)) ++ rest.map fun r => r.2.2).Perm ((List.range ws.length).map fun i : Nat => (i : Int))
theorem RunI.step {m : Nat} {ws : List Win} {rs : List (List WRow)} {rest : List WRow} (i : RunI m ws rs rest) (hne : rest ≠ []) : RunI m ws (rs ++ [rest]) (nxR m rest) := by
  refine ⟨i.good.sub nxR_sub, fun a ha => ?_, ?_, fun a ha x hx => ?_, ?_⟩
  · rcases List.mem_append.mp ha with h | h
    · exact i.rsg a h
    · rw [List.mem_singleton] at h; subst h; exact ⟨hne, i.good⟩
  · rw [List.pairwise_append]
    exact ⟨i.after, List.pairwise_singleton _ _, fun a ha b hb => by rw [List.mem_singleton] at hb; subst hb; exact i.cur a ha⟩
  · rcases List.mem_append.mp ha with h | h
    · exact i.cur a h x (nxR_sub.subset hx)
    · rw [List.mem_singleton] at h; subst h; exact nx_iff i.good hx
  · rw [List.flatMap_append, List.flatMap_cons, List.flatMap_nil, List.append_nil, List.append_assoc]
    refine List.Perm.trans (.append_left _ ?_) i.perm
    have := (sub_perm (fun r : WRow => r.2.2) (chR_sub (m := m) (a := rest)) i.good.nd).map fun r : WRow => r.2.2
    rw [List.map_append] at this
    exact this
theorem RunI.plan {m : Nat} {ws : List Win} {rs : List (List WRow)} (hm : 1 ≤ m) (hw : ∀ w ∈ ws, 0 ≤ w.1 ∧ w.1 ≤ w.2 ∧ w.2 ≤ 1000000000) (i : RunI m ws rs []) : PlanG m ws (rs.map (grR m)) := by
  have hwin : ∀ a ∈ rs, ∀ r ∈ a, pW ws r.2.2 = (r.2.1, r.1) ∧ 0 ≤ r.2.1 ∧ r.2.1 ≤ r.1 ∧ r.1 ≤ 1000000000 := fun a ha r hr => by
    obtain ⟨h1, h2⟩ := (i.rsg a ha).2.row r hr
    have := hw _ (pW_mem h1)
    rw [h2] at this
    exact ⟨h2, this⟩
  have hmem : ∀ a : List WRow, ∀ p, p ∈ (grR m a).2 ↔ ∃ r ∈ chR m a, r.2.2 = p := fun a p => by
    unfold grR plR
    rw [(srtI_perm _).mem_iff, List.mem_map]
  refine ⟨⟨?_, ?_, ?_⟩, ?_, ?_, ?_, ?_, hw, ?_⟩
  · have h1 := i.perm
    rw [List.map_nil, List.append_nil] at h1
    refine List.Perm.trans ?_ h1
    clear h1 i hwin hmem
    induction rs with
    | nil => exact .refl _
    | cons a rs ih =>
      rw [List.map_cons, List.flatMap_cons, List.flatMap_cons]
      exact (srtI_perm _).append ih
  · intro g hg
    obtain ⟨a, ha, rfl⟩ := List.mem_map.mp hg
    unfold grR plR
    rw [(srtI_perm _).length_eq, List.length_map]
    unfold chR
    rw [List.length_take]; exact Nat.min_le_left _ _
  · intro g hg p hp
    obtain ⟨a, ha, rfl⟩ := List.mem_map.mp hg
    obtain ⟨r, hr, rfl⟩ := (hmem a p).mp hp
    rw [(hwin a ha r (chR_sub.subset hr)).1]
    exact ⟨ch_first hr, tk_le (i.rsg a ha).2 (chR_sub.subset hr)⟩
  · rw [List.pairwise_map]
    refine List.Pairwise.imp_of_mem ?_ i.after
    intro a b ha hb hab p hp last hl hf
    obtain ⟨r, hr, rfl⟩ := (hmem b p).mp hp
    have hrb := chR_sub.subset hr
    rw [(hwin b hb r hrb).1] at hl hf
    obtain ⟨h1, h2⟩ := ch_star (i.rsg a ha).2 (hab r hrb).1 (hab r hrb).2 hf
    unfold fullP
    rw [Bool.and_eq_true]
    refine ⟨decide_eq_true ?_, List.all_eq_true.mpr fun c hc => decide_eq_true ?_⟩
    · show (srtI (plR m a)).length = m
      rw [(srtI_perm _).length_eq]; unfold plR; rw [List.length_map]; exact h1
    · obtain ⟨y, hy, rfl⟩ := (hmem a c).mp hc
      rw [(hwin a ha y (chR_sub.subset hy)).1]
      have := h2 y hy
      show y.1 ≤ last
      omega
  · intro g hg
    obtain ⟨a, ha, rfl⟩ := List.mem_map.mp hg
    cases a with
    | nil => exact absurd rfl (i.rsg _ ha).1
    | cons r a =>
      have h0 := hwin _ ha r List.mem_cons_self
      refine ⟨r.2.2, (hmem _ _).mpr ⟨r, ch_head hm h0.2.2.1, rfl⟩, ?_⟩
      rw [h0.1]; rfl
  · rw [List.pairwise_map]
    refine List.Pairwise.imp_of_mem ?_ i.after
    intro a b ha hb hab
    cases b with
    | nil => exact absurd rfl (i.rsg _ hb).1
    | cons r b => exact tk_le (i.rsg a ha).2 (hab r List.mem_cons_self).1
  · intro g hg
    obtain ⟨a, ha, rfl⟩ := List.mem_map.mp hg
    cases a with
    | nil => exact absurd rfl (i.rsg _ ha).1
    | cons r a =>
      have h0 := hwin _ ha r List.mem_cons_self
      show 0 ≤ r.1 ∧ r.1 ≤ 1000000000
      omega
  · intro g hg
    obtain ⟨a, ha, rfl⟩ := List.mem_map.mp hg
    have hnd : (srtI (plR m a)).Nodup := (srtI_perm _).nodup_iff.mpr ((i.rsg a ha).2.nd.sublist (chR_sub.map _))
    exact List.Pairwise.imp₂ (fun x y h1 h2 => by omega) (srtI_pw _) hnd
/-! the rows, sorted -/
def rowsW (ws : List Win) : List WRow := (List.range ws.length).map fun i : Nat => ((pW ws i).2, (pW ws i).1, (i : Int))
def leR (a b : WRow) : Bool := decide (a.1 < b.1 ∨ a.1 = b.1 ∧ (a.2.1 < b.2.1 ∨ a.2.1 = b.2.1 ∧ a.2.2 ≤ b.2.2))
def restW (ws : List Win) : List WRow := (rowsW ws).mergeSort leR
theorem leR_iff {a b : WRow} : leR a b = true ↔ (a.1 < b.1 ∨ a.1 = b.1 ∧ (a.2.1 < b.2.1 ∨ a.2.1 = b.2.1 ∧ a.2.2 ≤ b.2.2)) := by
  unfold leR; rw [decide_eq_true_eq]
theorem restW_perm (ws : List Win) : (restW ws).Perm (rowsW ws) := List.mergeSort_perm _ _
theorem restW_pw (ws : List Win) : (restW ws).Pairwise fun a b => leR a b = true := by
  refine List.pairwise_mergeSort (le := leR) (fun a b c h1 h2 => ?_) (fun a b => ?_) _
  · rw [leR_iff] at *; omega
  · rw [Bool.or_eq_true, leR_iff, leR_iff]; omega
theorem restW_eq {ws : List Win} {s : List WRow} (hp : s.Perm (rowsW ws)) (hs : s.Pairwise fun a b => leR a b = true) : s = restW ws :=
  (hp.trans (restW_perm ws).symm).eq_of_pairwise (le := fun a b => leR a b = true) (fun a b _ _ h1 h2 => by
    rw [leR_iff] at h1 h2
    obtain ⟨a1, a2, a3⟩ := a; obtain ⟨b1, b2, b3⟩ := b
    simp only at h1 h2
    have e1 : a1 = b1 := by omega
    have e2 : a2 = b2 := by omega
    have e3 : a3 = b3 := by omega
    rw [e1, e2, e3]) hs (restW_pw ws)
theorem RunI.start {m : Nat} {ws : List Win} : RunI m ws [] (restW ws) := by
  have hp := restW_perm ws
  have hpl : ((rowsW ws).map fun r => r.2.2) = (List.range ws.length).map fun i : Nat => (i : Int) := by
    unfold rowsW; rw [List.map_map]; rfl
  have hpp : ((restW ws).map fun r => r.2.2).Perm ((List.range ws.length).map fun i : Nat => (i : Int)) := by rw [← hpl]; exact hp.map _
  refine ⟨⟨fun r hr => ?_, (restW_pw ws).imp fun {a b} h => ?_, ?_⟩, nofun, .nil, nofun, ?_⟩
  · obtain ⟨i, hi, rfl⟩ := List.mem_map.mp (hp.mem_iff.mp hr)
    exact ⟨List.mem_map.mpr ⟨i, hi, rfl⟩, rfl⟩
  · rw [leR_iff] at h; omega
  · refine hpp.nodup_iff.mpr ?_
    exact List.pairwise_map.mpr (List.nodup_range.imp fun {a b} h e => h (by omega))
  · exact hpp
def planF (m : Nat) (ws : List Win) : List GrP := runF m ws.length (restW ws)
theorem restW_len (ws : List Win) : (restW ws).length = ws.length := by
  rw [(restW_perm ws).length_eq]; unfold rowsW; rw [List.length_map, List.length_range]
end DL

namespace DL
open PySem L2 PySem.Spec PyProof.Rows
/-! ### the paper, as it is made -/
def atG (P : List GrP) (k : Nat) : GrP := (P[k]?).getD (0, [])
def aheadF (m : Nat) (ws : List Win) (P : List GrP) (last : Int) : Nat → Nat
  | 0 => 0
  | k + 1 => if fullP m ws (atG P k) last = true then aheadF m ws P last k else k + 1
def firstP (P : List GrP) (a : Nat) : Int := if a = 0 then 0 else (atG P (a - 1)).1 + 1
def spanP (m : Nat) (ws : List Win) (P : List GrP) (many : Nat) : Win := (firstP P (aheadF m ws P (atG P many).1 many), (atG P many).1)
def papR (m : Nat) (ws : List Win) (P : List GrP) : Nat → Nat → List Win
  | 0, _ => []
  | _ + 1, 0 => []
  | f + 1, k + 1 => spanP m ws P k :: papR m ws P f (aheadF m ws P (atG P k).1 k)
def papF (m : Nat) (ws : List Win) (P : List GrP) : List Win := (papR m ws P P.length P.length).reverse
theorem ahead_le {m : Nat} {ws : List Win} {P : List GrP} {last : Int} : ∀ k, aheadF m ws P last k ≤ k
  | 0 => Nat.le_refl _
  | k + 1 => by
    unfold aheadF
    split
    · exact Nat.le_succ_of_le (ahead_le k)
    · exact Nat.le_refl _
theorem ahead_full {m : Nat} {ws : List Win} {P : List GrP} {last : Int} : ∀ k i, aheadF m ws P last k ≤ i → i < k → fullP m ws (atG P i) last = true
  | 0, i, _, h => absurd h (Nat.not_lt_zero _)
  | k + 1, i, h1, h2 => by
    unfold aheadF at h1
    split at h1
    · rename_i c
      by_cases e : i = k
      · subst e; exact c
      · exact ahead_full k i h1 (by omega)
    · omega
theorem ahead_not {m : Nat} {ws : List Win} {P : List GrP} {last : Int} : ∀ k, aheadF m ws P last k ≠ 0 → fullP m ws (atG P (aheadF m ws P last k - 1)) last = false
  | 0, h => absurd rfl h
  | k + 1, h => by
    unfold aheadF at h ⊢
    split
    · rename_i c
      rw [if_pos c] at h
      exact ahead_not k h
    · rename_i c
      rw [Nat.add_sub_cancel]
      exact Bool.eq_false_iff.mpr c
theorem atG_eq {P : List GrP} {k : Nat} (h : k < P.length) : atG P k = P[k] := by
  unfold atG; rw [List.getElem?_eq_getElem h]; rfl
theorem PapI.go {m : Nat} {ws : List Win} {P : List GrP} {sp : List Win} {k : Nat} (hm : 1 ≤ m) (s : PlanG m ws P) (i : PapI m ws P sp (k + 1)) : PapI m ws P (sp ++ [spanP m ws P k]) (aheadF m ws P (atG P k).1 k) := by
  have hk : k < P.length := i.le
  have ha := ahead_le (m := m) (ws := ws) (P := P) (last := (atG P k).1) k
  have hful := ahead_full (m := m) (ws := ws) (P := P) (last := (atG P k).1) k
  have hnot := ahead_not (m := m) (ws := ws) (P := P) (last := (atG P k).1) k
  unfold spanP
  generalize aheadF m ws P (atG P k).1 k = a at ha hful hnot ⊢
  rw [atG_eq hk] at hful hnot ⊢
  have e : P = P.take a ++ (P.drop a).take (k - a) ++ P[k] :: P.drop (k + 1) := by
    have h1 : P[k] :: P.drop (k + 1) = P.drop k := (List.drop_eq_getElem_cons hk).symm
    rw [h1, List.append_assoc]
    have h2 : (P.drop a).take (k - a) ++ P.drop k = P.drop a := by
      have h3 := List.take_append_drop (k - a) (P.drop a)
      rw [List.drop_drop, show a + (k - a) = k by omega] at h3
      exact h3
    rw [h2, List.take_append_drop]
  have lA : (P.take a).length = a := by rw [List.length_take]; omega
  have lB : ((P.drop a).take (k - a)).length = k - a := by rw [List.length_take, List.length_drop]; omega
  have hB : ∀ b ∈ (P.drop a).take (k - a), fullP m ws b P[k].1 = true := fun b hb => by
    obtain ⟨j, hj, rfl⟩ := List.mem_iff_getElem.mp hb
    rw [lB] at hj
    have := hful (a + j) (by omega) (by omega)
    rw [atG_eq (by omega)] at this
    rw [List.getElem_take, List.getElem_drop]
    exact this
  have hA : P.take a = [] ∧ firstP P a = 0 ∨ ∃ A' h, P.take a = A' ++ [h] ∧ fullP m ws h P[k].1 = false ∧ firstP P a = h.1 + 1 := by
    cases a with
    | zero => exact .inl ⟨rfl, rfl⟩
    | succ a =>
      have h1 := hnot (by omega)
      have h2 : a < P.length := by omega
      rw [Nat.add_sub_cancel, atG_eq h2] at h1
      refine .inr ⟨P.take a, P[a], (List.take_append_getElem h2).symm, h1, ?_⟩
      unfold firstP
      rw [if_neg (by omega), Nat.add_sub_cancel, atG_eq h2]
  have hfin : ∀ A B C : List GrP, ∀ g, P = A ++ B ++ g :: C → A.length + B.length = k → (∀ b ∈ B, fullP m ws b g.1 = true) → (A = [] ∧ firstP P a = 0 ∨ ∃ A' h, A = A' ++ [h] ∧ fullP m ws h g.1 = false ∧ firstP P a = h.1 + 1) → PapI m ws P (sp ++ [(firstP P a, g.1)]) A.length := by
    intro A B C g e h1 h2 h3
    generalize firstP P a = fi at h3 ⊢
    subst e
    rw [← h1] at i
    exact PapI.step hm s i h2 h3
  have := hfin _ _ _ _ e (by rw [lA, lB]; exact Nat.add_sub_of_le ha) hB hA
  rw [lA] at this
  exact this
structure WsOk (ws : List Win) : Prop where
  len : ws.length ≤ 400
  ok : ∀ w ∈ ws, 0 ≤ w.1 ∧ w.1 ≤ w.2 ∧ w.2 ≤ 1000000000
theorem pW_get {ws : List Win} {p : Int} (h0 : 0 ≤ p) (h1 : p < ws.length) : atI (ws.map wD) p = some (wD (pW ws p)) := by
  have hlt : p.toNat < ws.length := by omega
  unfold pW
  rw [List.getElem?_eq_getElem hlt]
  exact at_gs h0 (List.getElem?_eq_getElem hlt)
end DL

namespace DL
open PySem L2 PySem.Spec PyProof.Rows
/-! ### tuple(reversed(l)) -/
theorem repVs_reverse {K : PySem.W.Frag} {H : Hp} : ∀ {ds : List D} {xs : List V}, repVs K H ds xs → repVs K H ds.reverse xs.reverse
  | [], xs, h => by
    cases xs with
    | nil => exact h
    | cons v xs => exact nomatch (show v :: xs = [] from h)
  | d :: ds, xs, h => by
    obtain ⟨v, r, rfl, h1, h2⟩ := h
    rw [List.reverse_cons, List.reverse_cons]
    exact repVs_append (repVs_reverse h2) ⟨v, [], rfl, h1, rfl⟩
def dTupRev (t : TAD) : TED := fun δ W q => t δ W fun ds W1 => q (.tup ds.reverse) W1
section
variable {X : Cx} {Ed : WXD} {Ex : WX}
theorem de_tuprev {e : Expr} {p p2 pos pos2 : Pos} {tA : TAD} (hc : X.calm = true) (hg : Gl X "tuple") (hm : X.mg "tuple" = none) (hg2 : Gl X "reversed") (hm2 : X.mg "reversed" = none) (ha : PE X e (upM X.K Ed Ex tA))
    (hs : starEach [e] X.env = (false, eval e X.env) :: starEach [] X.env := by rfl)
    (hs2 : starEach [.Call (.Name "reversed" p2) [e] [] pos2] X.env = (false, eval (.Call (.Name "reversed" p2) [e] [] pos2) X.env) :: starEach [] X.env := by rfl) :
    PE X (.Call (.Name "tuple" p) [.Call (.Name "reversed" p2) [e] [] pos2] [] pos) (upE X.K Ed Ex (dTupRev tA)) := (RT.pe_tupRev hc hg hm hg2 hm2 ha hs hs2).imp fun _ _ _ h => by
  obtain ⟨δ, W, P, q, rs, rw, x, h, k⟩ := h
  exact ⟨δ, W, P, _, rs, rw, x, h, fun ds W1 P1 a xs H1 s1 h1 h2 rw1 h3 => ⟨a, xs, rfl, .of h1, arr_newTup (k.after s1) (repVs_reverse h2) rw1 h3⟩⟩
end
theorem rd_tuprev {t : TAD} {δ : Sd} {W : Wd} {q : DK} : dTupRev t δ W q = t δ W fun ds W1 => q (.tup ds.reverse) W1 := rfl
end DL

namespace DL
open PySem L2 PySem.Spec PyProof.Rows
theorem lexI3 {a b c d e f : Int} : lexI [a, b, c] [d, e, f] = false ↔ d < a ∨ (d = a ∧ (e < b ∨ (e = b ∧ f ≤ c))) := by
  rw [lexI]
  by_cases q : a = d
  · rw [if_pos q, lexI2]; omega
  · rw [if_neg q, decide_eq_false_iff_not]; omega
theorem sortT_rows {ws : List Win} {W : Wd} {q : List D → Wd → Prop} (h : q ((restW ws).map r3D) W) : rSortT ((rowsW ws).map r3D) W q := by
  refine sortT_by 3 (by decide) (fun a _ => ⟨rfl, [], rfl⟩) (.inr fun x hx => ?_) fun L' p hs => ?_
  · obtain ⟨a, _, rfl⟩ := List.mem_map.mp hx
    exact .inr rfl
  · rw [restW_eq p (hs.imp fun {x y} e => leR_iff.mpr (lexI3.mp e))]; exact h
theorem enumD_wD {ws : List Win} : enumD (ws.map wD) = (List.range ws.length).map fun i : Nat => D.tup [.int (i : Int), wD (pW ws i)] := by
  apply List.ext_getElem?
  intro i
  unfold enumD
  rw [List.getElem?_map, List.getElem?_zipIdx, List.getElem?_map, List.getElem?_map]
  by_cases h : i < ws.length
  · rw [List.getElem?_range h, List.getElem?_eq_getElem h]
    simp only [Option.map_some, pW, Int.toNat_natCast, Nat.zero_add]
    rw [List.getElem?_eq_getElem h]; rfl
  · rw [List.getElem?_eq_none (by omega), List.getElem?_eq_none (by simpa using h)]; rfl
theorem fullP_nil {m : Nat} {ws : List Win} {g : GrP} {last : Int} (h : g.2.length = m) : fullP m ws g last = decide (((g.2.filter fun p => decide (last < (pW ws p).2)).map D.int) = []) := by
  unfold fullP
  rw [decide_eq_true h, Bool.true_and]
  rcases Bool.eq_false_or_eq_true (g.2.all fun p => decide ((pW ws p).2 ≤ last)) with q | q
  · rw [q]
    symm
    rw [decide_eq_true_eq, List.map_eq_nil_iff, List.filter_eq_nil_iff]
    intro p hp c
    have := of_decide_eq_true (List.all_eq_true.mp q p hp)
    have := of_decide_eq_true c
    omega
  · rw [q]
    symm
    rw [decide_eq_false_iff_not, List.map_eq_nil_iff, List.filter_eq_nil_iff]
    intro c
    obtain ⟨p, hp, e⟩ := List.all_eq_false.mp q
    refine c p hp ?_
    rw [decide_eq_true_eq] at e ⊢
    omega
theorem rest_ne {ws : List Win} {a : List WRow} : (a.map r3D).length > 0 ↔ a ≠ [] := by
  rw [List.length_map]
  exact List.length_pos_iff
end DL
namespace DL
open PySem L2 PySem.Spec PyProof.Rows
theorem Gr.putn {W W1 : Wd} {a : Addr} {o : DO} (g : Gr W W1) (h : W.hp a = none) : Gr W (W1.put a o) :=
  ⟨fun b x e => by rw [wd_put_hp, dput_ne (fun q => by rw [q, h] at e; cases e)]; exact g.hp b x e, g.hid⟩
end DL

namespace DL
open PySem L2 PySem.Spec PyProof.Rows
theorem atG_at {P : List GrP} {k : Nat} (h : k < P.length) : atI (P.map gD) (k : Int) = some (gD (atG P k)) := by
  rw [atG_eq h]
  exact at_gs (L := P) (x := (k : Int)) (by omega) (by rw [Int.toNat_natCast]; exact List.getElem?_eq_getElem h)
theorem run_all {m : Nat} {ws : List Win} (hm : 1 ≤ m) (ok : WsOk ws) : ∀ n rs rest, rest.length ≤ n → RunI m ws rs rest → ∃ rs', RunI m ws rs' [] ∧ rs'.map (grR m) = rs.map (grR m) ++ runF m n rest ∧ rs'.length ≤ rs.length + n
  | 0, rs, rest, hl, i => by
    have : rest = [] := List.length_eq_zero_iff.mp (by omega)
    subst this
    exact ⟨rs, i, by rw [runF, List.append_nil], by omega⟩
  | n + 1, rs, [], hl, i => ⟨rs, i, by rw [runF, List.append_nil], by omega⟩
  | n + 1, rs, r :: rest, hl, i => by
    have hr0 : r.2.1 ≤ r.1 := by
      obtain ⟨h1, h2⟩ := i.good.row r List.mem_cons_self
      have := ok.ok _ (pW_mem h1)
      rw [h2] at this; exact this.2.1
    have hnl := nx_len (m := m) (a := rest) hm hr0
    have hll : rest.length + 1 ≤ n + 1 := hl
    obtain ⟨rs', h1, h2, h3⟩ := run_all hm ok n (rs ++ [r :: rest]) (nxR m (r :: rest)) (by omega) (i.step (by simp))
    refine ⟨rs', h1, ?_, ?_⟩
    · rw [h2, List.map_append, List.append_assoc]; rfl
    · rw [List.length_append, List.length_singleton] at h3; omega
theorem planF_ok {m : Nat} {ws : List Win} (hm : 1 ≤ m) (ok : WsOk ws) : PlanG m ws (planF m ws) ∧ (planF m ws).length ≤ ws.length := by
  obtain ⟨rs, h1, h2, h3⟩ := run_all hm ok ws.length [] (restW ws) (by rw [restW_len]; exact Nat.le_refl _) (.start (m := m))
  have h2 : rs.map (grR m) = planF m ws := h2
  have := h1.plan hm ok.ok
  rw [h2] at this
  refine ⟨this, ?_⟩
  rw [← h2, List.length_map]; simpa using h3
theorem pap_all {m : Nat} {ws : List Win} {P : List GrP} (hm : 1 ≤ m) (s : PlanG m ws P) : ∀ f k sp, k ≤ f → PapI m ws P sp k → ∃ sp', PapI m ws P sp' 0 ∧ sp' = sp ++ papR m ws P f k
  | 0, k, sp, h, i => by
    have : k = 0 := by omega
    subst this
    exact ⟨sp, i, by rw [papR, List.append_nil]⟩
  | f + 1, 0, sp, h, i => ⟨sp, i, by rw [papR, List.append_nil]⟩
  | f + 1, k + 1, sp, h, i => by
    have ha := ahead_le (m := m) (ws := ws) (P := P) (last := (atG P k).1) k
    obtain ⟨sp', h1, h2⟩ := pap_all hm s f _ _ (by omega) (i.go hm s)
    exact ⟨sp', h1, by rw [h2, List.append_assoc]; rfl⟩
structure PapOk (m : Nat) (ws : List Win) (sp : List Win) (n : Nat) : Prop where
  chain : Chain sp
  rng : ∀ s ∈ sp, 0 ≤ s.1 ∧ s.1 ≤ s.2 ∧ s.2 ≤ 1000000000
  worth : worthP m ws sp = n
theorem papF_ok {m : Nat} {ws : List Win} {P : List GrP} (hm : 1 ≤ m) (s : PlanG m ws P) : PapOk m ws (papF m ws P) P.length := by
  obtain ⟨sp, h1, h2⟩ := pap_all hm s P.length P.length [] (Nat.le_refl _) .start
  have h2 : sp = papR m ws P P.length P.length := h2
  subst h2
  obtain ⟨h3, h4⟩ := h1.done hm s
  exact ⟨h3, fun x hx => h1.rng x (List.mem_reverse.mp hx), h4⟩
theorem papR_len {m : Nat} {ws : List Win} {P : List GrP} : ∀ f k, (papR m ws P f k).length ≤ f
  | 0, k => Nat.le_refl _
  | f + 1, 0 => Nat.zero_le _
  | f + 1, k + 1 => by
    rw [papR, List.length_cons]
    exact Nat.succ_le_succ (papR_len f _)
theorem papF_len {m : Nat} {ws : List Win} {P : List GrP} : (papF m ws P).length ≤ P.length := by
  unfold papF
  rw [List.length_reverse]; exact papR_len _ _
/-- windows in another order need as many -/
theorem least_perm {m : Nat} {ws ws' : List Win} (hm : 1 ≤ m) (ok : WsOk ws) (ok' : WsOk ws') (h : ws'.Perm ws) : (planF m ws').length = (planF m ws).length := by
  obtain ⟨p1, _⟩ := planF_ok hm ok
  obtain ⟨p2, _⟩ := planF_ok hm ok'
  have q1 := papF_ok hm p1
  have q2 := papF_ok hm p2
  have h1 := weak hm p2.toPlanOk q1.chain fun s hs => (q1.rng s hs).2.1
  have h2 := weak hm p1.toPlanOk q2.chain fun s hs => (q2.rng s hs).2.1
  rw [worthP_perm h, q1.worth] at h1
  rw [← worthP_perm h, q2.worth] at h2
  omega
theorem WsOk.perm {ws ws' : List Win} (ok : WsOk ws) (h : ws'.Perm ws) : WsOk ws' := ⟨by rw [h.length_eq]; exact ok.len, fun w hw => ok.ok w (h.mem_iff.mp hw)⟩
theorem PlanG.pl {m : Nat} {ws : List Win} {P : List GrP} (s : PlanG m ws P) {g : GrP} (hg : g ∈ P) : ∀ p ∈ g.2, 0 ≤ p ∧ p < ws.length := fun p hp => by
  obtain ⟨i, hi, rfl⟩ := List.mem_map.mp (s.all.mem_iff.mp (List.mem_flatMap.mpr ⟨g, hg, hp⟩))
  have := List.mem_range.mp hi
  omega
theorem PlanG.gl {m : Nat} {ws : List Win} {P : List GrP} (s : PlanG m ws P) {g : GrP} (hg : g ∈ P) : g.2.length ≤ ws.length := by
  have h1 := s.all.length_eq
  rw [List.length_map, List.length_range] at h1
  obtain ⟨A, B, rfl⟩ := List.append_of_mem hg
  rw [List.flatMap_append, List.flatMap_cons, List.length_append, List.length_append] at h1
  omega
theorem atG_mem {P : List GrP} {k : Nat} (h : k < P.length) : atG P k ∈ P := by
  rw [atG_eq h]; exact List.getElem_mem h
end DL

namespace DL
open PySem L2 PySem.Spec PyProof.Rows
theorem isNum_t {i l m : Int} (h1 : l ≤ i) (h2 : i ≤ m) : isNumD (.int i) l m = true := by
  show (decide (l ≤ i) && decide (i ≤ m)) = true
  rw [decide_eq_true h1, decide_eq_true h2]; rfl
theorem worthP_snoc {m : Nat} {ws A : List Win} {s : Win} : worthP m ws (A ++ [s]) = worthP m ws A + ceilN (cntS ws s) m := by
  unfold worthP
  rw [List.map_append, List.sum_append]; simp
theorem ceil_int {c m : Nat} (hm : 1 ≤ m) : ((c : Int) + (m : Int) - 1) / (m : Int) = (ceilN c m : Int) := by
  unfold ceilN
  rw [show (c : Int) + (m : Int) - 1 = ((c + m - 1 : Nat) : Int) by omega]
  exact (Int.natCast_ediv _ _).symm
theorem plain_gD {n : Nat} {P : List GrP} : (P.map gD).all (plainD (n + 2)) = true := by
  rw [List.all_map, List.all_eq_true]
  intro g _
  show ([D.int g.1, D.tup (g.2.map D.int)]).all (plainD (n + 1)) = true
  rw [List.all_cons, List.all_cons, plain_int, plain_tup, plain_ints]; rfl
theorem plain_wD {n : Nat} {P : List Win} : (P.map wD).all (plainD (n + 1)) = true := by
  rw [List.all_map, List.all_eq_true]
  intro g _
  show ([D.int g.1, D.int g.2]).all (plainD n) = true
  rw [List.all_cons, List.all_cons, plain_int, plain_int]; rfl
theorem hide_self {W : Wd} {p : Addr} {φ : HD} (h : W.hid p = some φ) : W.hide p φ = W := by
  have : hset W.hid p φ = W.hid := funext fun b => by
    by_cases e : b = p
    · subst e; rw [hset_same, h]
    · rw [hset_ne e]
  cases W
  unfold Wd.hide
  simp only at this ⊢
  rw [this]
theorem put4 {W : Wd} {a b : Addr} {x y x' y' : DO} (n : b ≠ a) : (((W.put a x).put b y).put a x').put b y' = (W.put a x').put b y' := by
  have : ((((W.put a x).put b y).put a x').put b y').hp = ((W.put a x').put b y').hp := funext fun c => by
    simp only [wd_put_hp]
    by_cases e : c = b
    · subst e; rw [dput_same, dput_same]
    · rw [dput_ne e, dput_ne e]
      by_cases e2 : c = a
      · subst e2; rw [dput_same, dput_same]
      · rw [dput_ne e2, dput_ne e2, dput_ne e, dput_ne e2]
  cases W
  unfold Wd.put at this ⊢
  simp only at this ⊢
  rw [this]
theorem eraseIdx_map2 {α β : Type} (f : α → β) : ∀ (l : List α) (i : Nat), (l.map f).eraseIdx i = (l.eraseIdx i).map f
  | [], _ => rfl
  | _ :: _, 0 => rfl
  | a :: l, i + 1 => by
    rw [List.map_cons, List.eraseIdx_cons_succ, List.eraseIdx_cons_succ, List.map_cons, eraseIdx_map2 f l i]
theorem eraseIdx_perm {α : Type} : ∀ (l : List α) (i : Nat) (h : i < l.length), (l[i] :: l.eraseIdx i).Perm l
  | a :: l, 0, _ => .refl _
  | a :: l, i + 1, h => by
    rw [List.getElem_cons_succ, List.eraseIdx_cons_succ]
    exact (List.Perm.swap _ _ _).trans ((eraseIdx_perm l i _).cons a)
theorem gt_false {i j : Int} (h : j ≤ i) : (i < j) = False := eq_false (by omega)
end DL

namespace DL
open PySem L2 PySem.Spec PyProof.Rows
/-! ### plans made by a law: each window at a tick of it -/
def plcN (tks : List Int) (t : Int) : List Nat := (List.range tks.length).filter fun i => decide (tks[i]? = some t)
def plc (tks : List Int) (t : Int) : List Int := (plcN tks t).map fun i : Nat => (i : Int)
theorem flat_filter {α : Type} (f : α → Option Int) (L : List α) : ∀ {T : List (Option Int)}, T.Nodup → (T.flatMap fun t => L.filter fun i => decide (f i = t)).Perm (L.filter fun i => decide (f i ∈ T))
  | [], _ => by
    rw [List.flatMap_nil, List.filter_eq_nil_iff.mpr fun a _ => by simp]
  | t :: T, h => by
    obtain ⟨h1, h2⟩ := List.nodup_cons.mp h
    rw [List.flatMap_cons]
    refine ((flat_filter f L h2).append_left _).trans ?_
    have := List.filter_append_perm (fun i => decide (f i = t)) (L.filter fun i => decide (f i ∈ t :: T))
    rw [List.filter_filter, List.filter_filter] at this
    have e1 : L.filter (fun i => decide (f i = t) && decide (f i ∈ t :: T)) = L.filter fun i => decide (f i = t) := List.filter_congr fun x _ => by
      by_cases c : f x = t <;> simp [c]
    have e2 : L.filter (fun i => (!decide (f i = t)) && decide (f i ∈ t :: T)) = L.filter fun i => decide (f i ∈ T) := List.filter_congr fun x _ => by
      by_cases c : f x = t
      · simp [c, h1]
      · simp [c]
    rw [e1, e2] at this
    exact this
theorem plc_all {tks T : List Int} (hn : T.Nodup) (h : ∀ t ∈ tks, t ∈ T) : (T.flatMap (plc tks)).Perm ((List.range tks.length).map fun i : Nat => (i : Int)) := by
  have h1 := flat_filter (fun i : Nat => tks[i]?) (List.range tks.length) (T := T.map some) (by
    exact List.pairwise_map.mpr (hn.imp fun {a b} h e => h (Option.some.inj e)))
  rw [List.filter_eq_self.mpr fun i hi => by
    have hi := List.mem_range.mp hi
    rw [decide_eq_true_eq, List.getElem?_eq_getElem hi]
    exact List.mem_map_of_mem (h _ (List.getElem_mem hi)), List.flatMap_map] at h1
  have h2 := h1.map fun i : Nat => (i : Int)
  rw [List.map_flatMap] at h2
  exact h2
structure LPl (m : Nat) (ws : List Win) (tks T : List Int) (P : List GrP) (rest : List Int) : Prop where
  all : (P.flatMap (·.2) ++ rest).Perm (T.flatMap (plc tks))
  len : ∀ g ∈ P, 1 ≤ g.2.length ∧ g.2.length ≤ m
  hold : ∀ g ∈ P, ∀ p ∈ g.2, (pW ws p).1 ≤ g.1 ∧ g.1 ≤ (pW ws p).2
theorem LPl.start {m : Nat} {ws : List Win} {tks : List Int} : LPl m ws tks [] [] [] := ⟨.refl _, nofun, nofun⟩
theorem LPl.tick {m : Nat} {ws : List Win} {tks T : List Int} {P : List GrP} (l : LPl m ws tks T P []) (t : Int) : LPl m ws tks (T ++ [t]) P (plc tks t) := by
  refine ⟨?_, l.len, l.hold⟩
  have := l.all
  rw [List.append_nil] at this
  rw [List.flatMap_append, List.flatMap_cons, List.flatMap_nil, List.append_nil]
  exact this.append_right _
structure TkOk (ws : List Win) (tks : List Int) : Prop where
  len : tks.length = ws.length
  ok : ∀ i t, tks[i]? = some t → (pW ws (i : Nat)).1 ≤ t ∧ t ≤ (pW ws (i : Nat)).2
theorem plc_hold {ws : List Win} {tks : List Int} (ok : TkOk ws tks) {t p : Int} (h : p ∈ plc tks t) : (pW ws p).1 ≤ t ∧ t ≤ (pW ws p).2 := by
  obtain ⟨i, hi, rfl⟩ := List.mem_map.mp h
  exact ok.ok i t (of_decide_eq_true (List.mem_filter.mp hi).2)
theorem LPl.lot {m : Nat} {ws : List Win} {tks T : List Int} {P : List GrP} {rest : List Int} {t : Int} {k : Nat} (l : LPl m ws tks T P rest) (h : ∀ p ∈ rest, (pW ws p).1 ≤ t ∧ t ≤ (pW ws p).2) (hr : rest ≠ []) (h1 : 1 ≤ k) (h2 : k ≤ m) : LPl m ws tks T (P ++ [(t, rest.take k)]) (rest.drop k) := by
  have hp := List.length_pos_iff.mpr hr
  refine ⟨?_, fun g hg => ?_, fun g hg p hpp => ?_⟩
  · rw [List.flatMap_append, List.flatMap_cons, List.flatMap_nil, List.append_nil, List.append_assoc, List.take_append_drop]
    exact l.all
  · rcases List.mem_append.mp hg with hg | hg
    · exact l.len g hg
    · rw [List.mem_singleton] at hg; subst hg
      show 1 ≤ (rest.take k).length ∧ (rest.take k).length ≤ m
      rw [List.length_take]; omega
  · rcases List.mem_append.mp hg with hg | hg
    · exact l.hold g hg p hpp
    · rw [List.mem_singleton] at hg; subst hg
      exact h p (List.mem_of_mem_take hpp)
theorem flat_len {P : List GrP} (h : ∀ g ∈ P, 1 ≤ g.2.length) : P.length ≤ (P.flatMap (·.2)).length := by
  induction P with
  | nil => exact Nat.le_refl _
  | cons g P ih =>
    rw [List.flatMap_cons, List.length_append, List.length_cons]
    have := h g List.mem_cons_self
    have := ih fun g' hg' => h g' (List.mem_cons_of_mem _ hg')
    omega
theorem plc_len {tks T : List Int} (hn : T.Nodup) : (T.flatMap (plc tks)).length ≤ tks.length := by
  have h1 := flat_filter (fun i : Nat => tks[i]?) (List.range tks.length) (T := T.map some) (by
    exact List.pairwise_map.mpr (hn.imp fun {a b} h e => h (Option.some.inj e)))
  rw [List.flatMap_map] at h1
  have h2 := h1.map fun i : Nat => (i : Int)
  rw [List.map_flatMap] at h2
  have h3 : (T.flatMap (plc tks)).length ≤ _ := Nat.le_of_eq h2.length_eq
  refine Nat.le_trans h3 ?_
  rw [List.length_map]
  refine Nat.le_trans (List.length_filter_le _ _) ?_
  rw [List.length_range]; exact Nat.le_refl _
theorem LPl.many {m : Nat} {ws : List Win} {tks T : List Int} {P : List GrP} {rest : List Int} (hn : T.Nodup) (l : LPl m ws tks T P rest) : P.length + rest.length ≤ tks.length := by
  have h1 := flat_len fun g hg => (l.len g hg).1
  have h2 := l.all.length_eq
  rw [List.length_append] at h2
  have := plc_len (tks := tks) hn
  omega
theorem LPl.done {m : Nat} {ws : List Win} {tks T : List Int} {P : List GrP} (hn : T.Nodup) (ht : ∀ t ∈ tks, t ∈ T) (ok : TkOk ws tks) (l : LPl m ws tks T P []) : PlanOk m ws P := by
  refine ⟨?_, fun g hg => (l.len g hg).2, l.hold⟩
  have h1 := l.all
  rw [List.append_nil] at h1
  have h2 := h1.trans (plc_all hn ht)
  rw [ok.len] at h2
  exact h2
end DL

namespace DL
open PySem L2 PySem.Spec PyProof.Rows
/-! ### raise X() -/
section
variable {X : Cx} {C : Addr} {bmB : List Value} {B newId initId : String}
theorem pmk_own0 {x : Str} {p pos : Pos} (F : ExcBaseFacts B newId initId bmB) (q : PySem.W.excIn X.K C bmB newId = true) (gC : X.mg x = some (.ref C)) (kC : PySem.W.keepIn X.K (.ref C) = true) (r : Raises X (.ref C)) (hg : Gl X x)
    (hdb : (x == ("__debug__" : Str)) = false := by decide) : PMk X (.Call (.Name x p) [] [] pos) (fun _ H Q => Q (.ref C) none H) := by
  intro pins s σ H Q I h
  refine wpAny_Call_Name_kw (ld_glob I hg gC ?_ hdb)
  refine PySem.W.callWith_K0 I.kIn kC ?_
  show wpAny _ _ (call (.ref C) []) _ _ _
  obtain ⟨bm, N, nm, qn, bs, hdct, sn, sub, ab, col, dd, k0, k1, k2, k3, k5, mN, hC, hN, hni, T⟩ := exc_obj I.kIn q
  refine wpAny_call_exc_subT F T hC hN hni (fun h' e hm => ?_) (Nat.zero_le _)
  exact mk_of I hm r h (I.hok.gone hm.new)
end
section
variable {X : Cx} {Ed : WXD} {Ex : WX} {pos p : Pos}
theorem ds_raise0 {C : Addr} {rpos : Pos} (hc : X.calm = true) (tk : Takes X Ex) (x : Str) (T : ExcT X.K X.mg x C) (hg : Gl X x := by rfl) (hdb : (x == ("__debug__" : Str)) = false := by decide) :
    PS X (.Raise (some (.Call (.Name x p) [] [] pos)) none rpos) (upS X.K Ed Ex (dRaise C Ed)) :=
  (ps_raise hc tk (pmk_own0 PySem.F.excBase_ValueError T.xP T.gP T.kP (raises_own T.bP T.tP) hg hdb)).imp fun D σ H h => by
  obtain ⟨δ, W, P, E, rs, rw, x, h, k⟩ := h
  exact x _ _ δ W P σ H .refl rs rw h
end
theorem dc_isEK {X : Cx} (K : PySem.W.Frag) {a0 : Addr} {oe : Obj} {C : Addr} (h1 : (a0, oe) ∈ X.pn) (h2 : Exc1 (a0, oe) C) (hK : X.K = K := by rfl) : CallR X (.builtin "isinstance") (upC X.K (isEH K a0 C)) := by
  subst hK; exact dc_isEH h1 h2
end DL
namespace My
open PySem L2 DL
def topS (i : Nat) : Stmt := PySem.Challenge.pw_gatherdesk_k11_thrift.main.body.getD i (.Pass ⟨0, 0, 0, 0⟩)
abbrev s_least_plan : Stmt := topS 13
abbrev N_least_plan : List Str := ["most", "windows", "rest", "plan", "tick", "chosen", "place", "window", "one", "last", "first"]
theorem sc_least_plan : FnScope N_least_plan ["most", "windows"] (defScope s_least_plan) := ⟨rfl, rfl, rfl, by decide +kernel, rfl, by decide +kernel, by decide +kernel⟩
abbrev s_is_full_by : Stmt := topS 14
abbrev N_is_full_by : List Str := ["most", "windows", "great", "last", "place"]
theorem sc_is_full_by : FnScope N_is_full_by ["most", "windows", "great", "last"] (defScope s_is_full_by) := ⟨rfl, rfl, rfl, by decide +kernel, rfl, by decide +kernel, by decide +kernel⟩
abbrev s_paper_of : Stmt := topS 15
abbrev N_paper_of : List Str := ["most", "windows", "plan", "spans", "many", "last", "ahead", "first"]
theorem sc_paper_of : FnScope N_paper_of ["most", "windows", "plan"] (defScope s_paper_of) := ⟨rfl, rfl, rfl, by decide +kernel, rfl, by decide +kernel, by decide +kernel⟩
abbrev s_least : Stmt := topS 16
abbrev N_least : List Str := ["most", "windows", "plan"]
theorem sc_least : FnScope N_least ["most", "windows"] (defScope s_least) := ⟨rfl, rfl, rfl, by decide +kernel, rfl, by decide +kernel, by decide +kernel⟩
abbrev s_thrift : Stmt := topS 17
abbrev N_thrift : List Str := ["most", "windows", "plan", "fewest", "paper"]
theorem sc_thrift : FnScope N_thrift ["most", "windows", "plan"] (defScope s_thrift) := ⟨rfl, rfl, rfl, by decide +kernel, rfl, by decide +kernel, by decide +kernel⟩
abbrev s__law_begin : Stmt := topS 19
abbrev N__law_begin : List Str := ["_law_script"]
theorem sc__law_begin : FnScope N__law_begin ["_law_script"] (defScope s__law_begin) := ⟨rfl, rfl, rfl, by decide +kernel, rfl, by decide +kernel, by decide +kernel⟩
abbrev s__law_pick : Stmt := topS 20
abbrev N__law_pick : List Str := ["_law_state", "_law_many", "_law_cells", "_law_turn", "_law_at", "_law_cell", "_law_number"]
theorem sc__law_pick : FnScope N__law_pick ["_law_state", "_law_many"] (defScope s__law_pick) := ⟨rfl, rfl, rfl, by decide +kernel, rfl, by decide +kernel, by decide +kernel⟩
abbrev s__law_windows : Stmt := topS 21
abbrev N__law_windows : List Str := ["_law_state", "_law_many", "_law_far", "_law_wide", "_law_found", "_law_k", "_law_first"]
theorem sc__law_windows : FnScope N__law_windows ["_law_state", "_law_many"] (defScope s__law_windows) := ⟨rfl, rfl, rfl, by decide +kernel, rfl, by decide +kernel, by decide +kernel⟩
abbrev s__law_int : Stmt := topS 22
abbrev N__law_int : List Str := ["_law_thing", "_law_low", "_law_high"]
theorem sc__law_int : FnScope N__law_int ["_law_thing", "_law_low", "_law_high"] (defScope s__law_int) := ⟨rfl, rfl, rfl, by decide +kernel, rfl, by decide +kernel, by decide +kernel⟩
abbrev s__law_is_plan : Stmt := topS 23
abbrev N__law_is_plan : List Str := ["_law_most", "_law_windows_here", "_law_thing", "_law_left", "_law_before", "_law_great", "_law_last", "_law_place"]
theorem sc__law_is_plan : FnScope N__law_is_plan ["_law_most", "_law_windows_here", "_law_thing"] (defScope s__law_is_plan) := ⟨rfl, rfl, rfl, by decide +kernel, rfl, by decide +kernel, by decide +kernel⟩
abbrev s__law_worth : Stmt := topS 24
abbrev N__law_worth : List Str := ["_law_most", "_law_windows_here", "_law_paper", "_law_found", "_law_begin_here", "_law_end", "_law_many", "_law_first", "_law_last"]
theorem sc__law_worth : FnScope N__law_worth ["_law_most", "_law_windows_here", "_law_paper"] (defScope s__law_worth) := ⟨rfl, rfl, rfl, by decide +kernel, rfl, by decide +kernel, by decide +kernel⟩
abbrev s__law_is_paper : Stmt := topS 25
abbrev N__law_is_paper : List Str := ["_law_thing", "_law_before", "_law_span"]
theorem sc__law_is_paper : FnScope N__law_is_paper ["_law_thing"] (defScope s__law_is_paper) := ⟨rfl, rfl, rfl, by decide +kernel, rfl, by decide +kernel, by decide +kernel⟩
abbrev s__law_tick : Stmt := topS 26
abbrev N__law_tick : List Str := ["_law_state", "_law_windows_here", "_law_window", "_law_late", "_law_ends", "_law_other"]
theorem sc__law_tick : FnScope N__law_tick ["_law_state", "_law_windows_here", "_law_window", "_law_late"] (defScope s__law_tick) := ⟨rfl, rfl, rfl, by decide +kernel, rfl, by decide +kernel, by decide +kernel⟩
abbrev s__law_plan : Stmt := topS 27
abbrev N__law_plan : List Str := ["_law_state", "_law_most", "_law_windows_here", "_law_late", "_law_ticks", "_law_plan_here", "_law_tick_here", "_law_places", "_law_many", "_law_window", "_law_place"]
theorem sc__law_plan : FnScope N__law_plan ["_law_state", "_law_most", "_law_windows_here", "_law_late"] (defScope s__law_plan) := ⟨rfl, rfl, rfl, by decide +kernel, rfl, by decide +kernel, by decide +kernel⟩
abbrev s__law_told : Stmt := topS 28
abbrev N__law_told : List Str := ["_law_most", "_law_windows_here", "_law_plan_here", "error", "_law_right", "_law_other"]
theorem sc__law_told : FnScope N__law_told ["_law_most", "_law_windows_here", "_law_plan_here"] (defScope s__law_told) := ⟨rfl, rfl, rfl, by decide +kernel, rfl, by decide +kernel, by decide +kernel⟩
abbrev s_law : Stmt := topS 29
abbrev N_law : List Str := ["_law_script", "_law_state", "_law_windows_here", "_law_most", "_law_best", "_law_plan_here", "_law_word", "_law_thing"]
theorem sc_law : FnScope N_law ["_law_script"] (defScope s_law) := ⟨rfl, rfl, rfl, by decide +kernel, rfl, by decide +kernel, by decide +kernel⟩
structure TX (K : PySem.W.Frag) (mg : Str → Option Value) where
  a_least_plan : Addr
  fd_least_plan : FuncData
  F_least_plan : Fun K "least_plan" "least_plan" s_least_plan a_least_plan fd_least_plan
  m_least_plan : mg "least_plan" = some (.ref a_least_plan)
  b_least_plan : Binds K fd_least_plan ["most", "windows"] []
  a_is_full_by : Addr
  fd_is_full_by : FuncData
  F_is_full_by : Fun K "is_full_by" "is_full_by" s_is_full_by a_is_full_by fd_is_full_by
  m_is_full_by : mg "is_full_by" = some (.ref a_is_full_by)
  b_is_full_by : Binds K fd_is_full_by ["most", "windows", "great", "last"] []
  a_paper_of : Addr
  fd_paper_of : FuncData
  F_paper_of : Fun K "paper_of" "paper_of" s_paper_of a_paper_of fd_paper_of
  m_paper_of : mg "paper_of" = some (.ref a_paper_of)
  b_paper_of : Binds K fd_paper_of ["most", "windows", "plan"] []
  a_least : Addr
  fd_least : FuncData
  F_least : Fun K "least" "least" s_least a_least fd_least
  m_least : mg "least" = some (.ref a_least)
  b_least : Binds K fd_least ["most", "windows"] []
  a_thrift : Addr
  fd_thrift : FuncData
  F_thrift : Fun K "thrift" "thrift" s_thrift a_thrift fd_thrift
  m_thrift : mg "thrift" = some (.ref a_thrift)
  b_thrift : Binds K fd_thrift ["most", "windows", "plan"] []
  a__law_begin : Addr
  fd__law_begin : FuncData
  F__law_begin : Fun K "_law_begin" "_law_begin" s__law_begin a__law_begin fd__law_begin
  m__law_begin : mg "_law_begin" = some (.ref a__law_begin)
  b__law_begin : Binds K fd__law_begin ["_law_script"] []
  a__law_pick : Addr
  fd__law_pick : FuncData
  F__law_pick : Fun K "_law_pick" "_law_pick" s__law_pick a__law_pick fd__law_pick
  m__law_pick : mg "_law_pick" = some (.ref a__law_pick)
  b__law_pick : Binds K fd__law_pick ["_law_state", "_law_many"] []
  a__law_windows : Addr
  fd__law_windows : FuncData
  F__law_windows : Fun K "_law_windows" "_law_windows" s__law_windows a__law_windows fd__law_windows
  m__law_windows : mg "_law_windows" = some (.ref a__law_windows)
  b__law_windows : Binds K fd__law_windows ["_law_state", "_law_many"] []
  a__law_int : Addr
  fd__law_int : FuncData
  F__law_int : Fun K "_law_int" "_law_int" s__law_int a__law_int fd__law_int
  m__law_int : mg "_law_int" = some (.ref a__law_int)
  b__law_int : Binds K fd__law_int ["_law_thing", "_law_low", "_law_high"] []
  a__law_is_plan : Addr
  fd__law_is_plan : FuncData
  F__law_is_plan : Fun K "_law_is_plan" "_law_is_plan" s__law_is_plan a__law_is_plan fd__law_is_plan
  m__law_is_plan : mg "_law_is_plan" = some (.ref a__law_is_plan)
  b__law_is_plan : Binds K fd__law_is_plan ["_law_most", "_law_windows_here", "_law_thing"] []
  a__law_worth : Addr
  fd__law_worth : FuncData
  F__law_worth : Fun K "_law_worth" "_law_worth" s__law_worth a__law_worth fd__law_worth
  m__law_worth : mg "_law_worth" = some (.ref a__law_worth)
  b__law_worth : Binds K fd__law_worth ["_law_most", "_law_windows_here", "_law_paper"] []
  a__law_is_paper : Addr
  fd__law_is_paper : FuncData
  F__law_is_paper : Fun K "_law_is_paper" "_law_is_paper" s__law_is_paper a__law_is_paper fd__law_is_paper
  m__law_is_paper : mg "_law_is_paper" = some (.ref a__law_is_paper)
  b__law_is_paper : Binds K fd__law_is_paper ["_law_thing"] []
  a__law_tick : Addr
  fd__law_tick : FuncData
  F__law_tick : Fun K "_law_tick" "_law_tick" s__law_tick a__law_tick fd__law_tick
  m__law_tick : mg "_law_tick" = some (.ref a__law_tick)
  b__law_tick : Binds K fd__law_tick ["_law_state", "_law_windows_here", "_law_window", "_law_late"] []
  a__law_plan : Addr
  fd__law_plan : FuncData
  F__law_plan : Fun K "_law_plan" "_law_plan" s__law_plan a__law_plan fd__law_plan
  m__law_plan : mg "_law_plan" = some (.ref a__law_plan)
  b__law_plan : Binds K fd__law_plan ["_law_state", "_law_most", "_law_windows_here", "_law_late"] []
  a__law_told : Addr
  fd__law_told : FuncData
  F__law_told : Fun K "_law_told" "_law_told" s__law_told a__law_told fd__law_told
  m__law_told : mg "_law_told" = some (.ref a__law_told)
  b__law_told : Binds K fd__law_told ["_law_most", "_law_windows_here", "_law_plan_here"] []
  a_law : Addr
  fd_law : FuncData
  F_law : Fun K "law" "law" s_law a_law fd_law
  m_law : mg "law" = some (.ref a_law)
  b_law : Binds K fd_law ["_law_script"] []
  n_ValueError : mg "ValueError" = none
  n_abs : mg "abs" = none
  n_bool : mg "bool" = none
  n_enumerate : mg "enumerate" = none
  n_int : mg "int" = none
  n_isinstance : mg "isinstance" = none
  n_len : mg "len" = none
  n_list : mg "list" = none
  n_min : mg "min" = none
  n_range : mg "range" = none
  n_reversed : mg "reversed" = none
  n_set : mg "set" = none
  n_sorted : mg "sorted" = none
  n_tuple : mg "tuple" = none
  C_GatherError : Addr
  x_GatherError : ExcT K mg "GatherError" C_GatherError
  C_BadKinds : Addr
  x_BadKinds : ExcT K mg "BadKinds" C_BadKinds
  C_BadAsk : Addr
  x_BadAsk : ExcT K mg "BadAsk" C_BadAsk
  C_KnownTicket : Addr
  x_KnownTicket : ExcT K mg "KnownTicket" C_KnownTicket
  C_NoTicket : Addr
  x_NoTicket : ExcT K mg "NoTicket" C_NoTicket
  C_NoGreat : Addr
  x_NoGreat : ExcT K mg "NoGreat" C_NoGreat
  C_BadAnswer : Addr
  x_BadAnswer : ExcT K mg "BadAnswer" C_BadAnswer
  C_NoRoom : Addr
  x_NoRoom : ExcT K mg "NoRoom" C_NoRoom
  C_TooMany : Addr
  x_TooMany : ExcT K mg "TooMany" C_TooMany
  C_NotLeast : Addr
  x_NotLeast : ExcT K mg "NotLeast" C_NotLeast
  C_NoText : Addr
  x_NoText : ExcT K mg "NoText" C_NoText
  ec_NotLeast : ExcC K C_NotLeast
  sG_NotLeast : PySem.W.subIn K (.ref C_NotLeast) (.ref C_GatherError) = some true
  kv_NotLeast : PySem.W.kitOne K (.ref C_NotLeast) (.type "ValueError") = some true
  kt_NotLeast_GatherError : PySem.W.kitOne K (.ref C_NotLeast) (.ref C_GatherError) = some true
  kt_NotLeast_BadKinds : PySem.W.kitOne K (.ref C_NotLeast) (.ref C_BadKinds) = some false
  kt_NotLeast_BadAsk : PySem.W.kitOne K (.ref C_NotLeast) (.ref C_BadAsk) = some false
  kt_NotLeast_KnownTicket : PySem.W.kitOne K (.ref C_NotLeast) (.ref C_KnownTicket) = some false
  kt_NotLeast_NoTicket : PySem.W.kitOne K (.ref C_NotLeast) (.ref C_NoTicket) = some false
  kt_NotLeast_NoGreat : PySem.W.kitOne K (.ref C_NotLeast) (.ref C_NoGreat) = some false
  kt_NotLeast_BadAnswer : PySem.W.kitOne K (.ref C_NotLeast) (.ref C_BadAnswer) = some false
  kt_NotLeast_NoRoom : PySem.W.kitOne K (.ref C_NotLeast) (.ref C_NoRoom) = some false
  kt_NotLeast_TooMany : PySem.W.kitOne K (.ref C_NotLeast) (.ref C_TooMany) = some false
  kt_NotLeast_NotLeast : PySem.W.kitOne K (.ref C_NotLeast) (.ref C_NotLeast) = some true
  kt_NotLeast_NoText : PySem.W.kitOne K (.ref C_NotLeast) (.ref C_NoText) = some false
local macro_rules | `(tactic| walk_at "heap") => `(tactic| ((try simp only [wd_put_hp, wd_hide_hp, wd_put_hid, wd_hide_hid] at *); grind [dput, hset]))
local macro_rules | `(tactic| simp! only [$xs,*]) => `(tactic| simp -implicitDefEqProofs only [↓on_law, ↓on_some, ↓on_lst, ↓on_slot, ↓tst_bl, ↓prt_int, ↓rd_seq, ↓rd_next, ↓rd_ret, ↓rd_retN, ↓rd_brk, ↓rd_cnt, ↓rd_drop, ↓rd_ifS, ↓rd_asg, ↓rd_tnm, ↓rd_ttp, ↓rd_raise, ↓rd_asgL, ↓rd_setL, ↓rd_setLV, ↓rd_aug, ↓rd_var, ↓rd_c, ↓rd_op, ↓rd_un, ↓rd_test, ↓rd_and, ↓rd_or, ↓rd_not, ↓rd_yes, ↓rd_andV, ↓rd_orV, ↓rd_notV, ↓rd_chain, ↓rd_if, ↓rd_nil, ↓rd_cons, ↓rd_tup, ↓rd_lst, ↓rd_cell, ↓rd_seen, ↓rd_lstAt, ↓rd_opM, ↓rd_opV, ↓rd_op1M, ↓rd_opM1, ↓rd_call, ↓rd_callX, ↓rd_cb, ↓rd_cm, ↓rv_add_int, ↓rv_add_str, ↓rv_add_tup, ↓rv_I2, ↓rv_I2', ↓rv_cmp_int, ↓rv_cmp_str, ↓rv_eq_int, ↓rv_eq_str, ↓rv_eq_bl, ↓rv_ne_int, ↓rv_ne_str, ↓rv_ne_bl, ↓rv_is_bl, ↓rv_isnot_bl, ↓rv_is_non_int, ↓rv_isnot_non_int, ↓rv_is_non_str, ↓rv_isnot_non_str, ↓rv_is_non_bl, ↓rv_isnot_non_bl, ↓rv_is_non_tup, ↓rv_isnot_non_tup, ↓rv_is_non_ref, ↓rv_isnot_non_ref, ↓rv_is_non, ↓rv_isnot_non, ↓rv_in_tup, ↓rv_notIn_tup, ↓rv_ix_tup, ↓rv_ix_str, ↓rv_ix_ref, ↓rv_ixL, ↓rv_catL, ↓rv_repL, ↓rv_inM, ↓rv_notInM, ↓rv_eqL, ↓rv_neL, ↓rv_len_tup, ↓rv_len_str, ↓rv_len_ref, ↓rv_lenM, ↓rv_tupM, ↓rv_listM, ↓rv_listT, ↓rv_abs, ↓rv_int1, ↓rv_int1b, ↓rd_pick, ↓rv_mm, ↓rv_isi_int_int, ↓rv_isi_int_bool, ↓rv_isi_int_str, ↓rv_isi_int_tuple, ↓rv_isi_int_list, ↓rv_isi_str_int, ↓rv_isi_str_bool, ↓rv_isi_str_str, ↓rv_isi_str_tuple, ↓rv_isi_str_list, ↓rv_isi_bl_int, ↓rv_isi_bl_bool, ↓rv_isi_bl_str, ↓rv_isi_bl_tuple, ↓rv_isi_bl_list, ↓rv_isi_tup_int, ↓rv_isi_tup_bool, ↓rv_isi_tup_str, ↓rv_isi_tup_tuple, ↓rv_isi_tup_list, ↓rv_isi_non_int, ↓rv_isi_non_bool, ↓rv_isi_non_str, ↓rv_isi_non_tuple, ↓rv_isi_non_list, ↓rd_sl, ↓rd_slL, ↓rd_noPart, ↓rd_part, ↓rv_sl_tup, ↓rv_sl_str, ↓rd_append, ↓rd_appV, ↓rd_itV, ↓rd_itVr, ↓rd_itT, ↓rd_itTt, ↓rd_itS, ↓rd_itSs, ↓rd_itR1, ↓rd_itR1j, ↓rd_itR2, ↓rd_itR2j, ↓rd_itL, ↓rd_for, ↓rd_lc, ↓rd_wipe0, ↓rd_wipe1, ↓rd_set0, ↓rd_set1, rd_gTrue, wd_put_hp, wd_put_hid, wd_hide_hp, wd_hide_hid, wd_of_hp, wd_put_hide, wd_hide_hide, wd_put_put, wd_of_put, dput_same, hset_same, at_0, at_1, at_2, at_3, at_4, at_5, at_6, at_7, at_8, at_9, at_10, at_11, upto_len, signs_len, ends_rt', ends_nx', jw_hp, jw_hid, ↓rd_popAt, ↓rd_popAtV, ↓rd_itR3, ↓rd_itR3j, ↓rd_fld2, ↓rd_fldV2, ins_at1, ins_at2, ↓rd_tryA, ↓rd_isEH1, ↓rd_isEH2, ↓rd_isEH3, ↓rd_extend, ↓rd_extT, ↓rd_extL, ↓rd_clear, ↓rd_clrV, ↓rd_dictEn, ↓rd_tuprev, ↓rd_enD, ↓rd_upper, ↓rd_upV, ↓rd_sortSet, ↓rd_lstR1, ↓rd_lstR2, ↓rg1_int, ↓rg2_int, ↓rd_remove, ↓rd_rmV, ↓on_lst, ↓rd_fld, ↓rd_fldV, ↓ins_at, ↓rd_setF, ↓rd_setFV, ↓rd_meth, ↓rd_methX, ↓rd_sortK, ↓rd_get2, ↓rd_popV, ↓rd_pop1, ↓rd_pop2, ↓rd_setdV, ↓rd_setd, ↓rd_isDD, ↓isDo_K, ↓isDo_T, ↓on_dK, ↓optD_some, ↓optD_none, ↓rd_lenD, ↓rd_listD, ↓rd_itVl, ↓rd_itVlr, ↓rd_itIt, ↓rd_itItr, ↓rd_sortedVt, ↓rd_sortedVd, ↓rd_itE, ↓rd_itEt, ↓rd_itEL, ↓rd_itELr, ↓rd_asgF, ↓rd_asgFV, ↓rd_saf0, ↓rd_saf1, ↓rd_fldaug, ↓rd_daug, ↓rd_addI, ↓rv_eqNil, ↓rv_neNil, ↓rv_repS, ↓rv_repT, ↓rv_repT2, rd_methOk, ↓rd_try, ↓rd_isE1, ↓rd_isE2, ↓rd_isE3, on_exc, clsDs_nil, clsDs_ref, clsDs_ty, cCons_some, kAny_nil, kAny_cons, kStep_t, kStep_f, pairD_ref, ↓rd_disp, ↓rd_pairs0, ↓rd_pairs1, keysK_nil, keysK_int, keysK_str, kCons_some, mergeD_one, obj_vis, obj_hid, ↓rd_make, ↓rd_makeH, ↓dict_dK, ↓dict_fz, ↓dict_dT, key_int, key_str, key_pair, ↓rd_dgV, ↓rd_dget, ↓rd_din, ↓rd_dinN, ↓dp_dK, ↓dp_dT, ↓rd_dpV, ↓rd_dput, ↓rd_dnewK, ↓rd_dnewT, ↓rd_itK, ↓on_fz, ↓rd_itKr, ↓rd_itZ, ↓rd_itZt, ↓rd_itZr, ↓rv_neg, Option.map_none, Option.map_some, Option.isSome_none, Option.isSome_some, ↓on_kept, HD.cls, hset_hset, dput_dput, wn_hid, wn_hide, wn_zero, startD, Sz, Nat.reduceLeDiff, true_and, and_true, List.map_cons, List.map_nil, List.cons_append, List.nil_append, List.length_cons, List.length_nil, List.flatten_cons, List.flatten_nil, List.append_nil, List.replicate_succ, List.replicate_zero, List.getElem?_cons_zero, List.getElem?_cons_succ, List.set_cons_zero, List.set_cons_succ, Nat.reduceAdd, Nat.reduceSub, Nat.zero_add, Nat.add_zero, Nat.sub_zero, CPow, Int.reduceToNat, Int.reducePow, Int.reduceLE, Int.reduceLT, Int.reduceNeg, nabs10, Nat.reducePow, Nat.reduceLT, Int.reduceAdd, Int.reduceSub, Int.reduceMul, Nat.reduceMul, Int.reduceEq, Nat.reduceEqDiff, reduceIte, Bool.not_true, Bool.not_false, Bool.false_eq_true, Bool.true_eq_false, decide_true, decide_false, not_true_eq_false, not_false_eq_true, Int.cast_ofNat_Int, decide_eq_true_eq, Bool.not_eq_true', Bool.not_eq_eq_eq_not, decide_eq_false_iff_not, $xs,*])
local macro_rules | `(tactic| dsimp! only [$xs,*]) => `(tactic| simp -implicitDefEqProofs (maxDischargeDepth := 7) only [↓on_law, ↓on_some, ↓on_lst, ↓on_slot, ↓tst_bl, ↓prt_int, ↓rd_seq, ↓rd_next, ↓rd_ret, ↓rd_retN, ↓rd_brk, ↓rd_cnt, ↓rd_drop, ↓rd_ifS, ↓rd_asg, ↓rd_tnm, ↓rd_ttp, ↓rd_raise, ↓rd_asgL, ↓rd_setL, ↓rd_setLV, ↓rd_aug, ↓rd_var, ↓rd_c, ↓rd_op, ↓rd_un, ↓rd_test, ↓rd_and, ↓rd_or, ↓rd_not, ↓rd_yes, ↓rd_andV, ↓rd_orV, ↓rd_notV, ↓rd_chain, ↓rd_if, ↓rd_nil, ↓rd_cons, ↓rd_tup, ↓rd_lst, ↓rd_cell, ↓rd_seen, ↓rd_lstAt, ↓rd_opM, ↓rd_opV, ↓rd_op1M, ↓rd_opM1, ↓rd_call, ↓rd_callX, ↓rd_cb, ↓rd_cm, ↓rv_add_int, ↓rv_add_str, ↓rv_add_tup, ↓rv_I2, ↓rv_I2', ↓rv_cmp_int, ↓rv_cmp_str, ↓rv_eq_int, ↓rv_eq_str, ↓rv_eq_bl, ↓rv_ne_int, ↓rv_ne_str, ↓rv_ne_bl, ↓rv_is_bl, ↓rv_isnot_bl, ↓rv_is_non_int, ↓rv_isnot_non_int, ↓rv_is_non_str, ↓rv_isnot_non_str, ↓rv_is_non_bl, ↓rv_isnot_non_bl, ↓rv_is_non_tup, ↓rv_isnot_non_tup, ↓rv_is_non_ref, ↓rv_isnot_non_ref, ↓rv_is_non, ↓rv_isnot_non, ↓rv_in_tup, ↓rv_notIn_tup, ↓rv_ix_tup, ↓rv_ix_str, ↓rv_ix_ref, ↓rv_ixL, ↓rv_catL, ↓rv_repL, ↓rv_inM, ↓rv_notInM, ↓rv_eqL, ↓rv_neL, ↓rv_len_tup, ↓rv_len_str, ↓rv_len_ref, ↓rv_lenM, ↓rv_tupM, ↓rv_listM, ↓rv_listT, ↓rv_abs, ↓rv_int1, ↓rv_int1b, ↓rd_pick, ↓rv_mm, ↓rv_isi_int_int, ↓rv_isi_int_bool, ↓rv_isi_int_str, ↓rv_isi_int_tuple, ↓rv_isi_int_list, ↓rv_isi_str_int, ↓rv_isi_str_bool, ↓rv_isi_str_str, ↓rv_isi_str_tuple, ↓rv_isi_str_list, ↓rv_isi_bl_int, ↓rv_isi_bl_bool, ↓rv_isi_bl_str, ↓rv_isi_bl_tuple, ↓rv_isi_bl_list, ↓rv_isi_tup_int, ↓rv_isi_tup_bool, ↓rv_isi_tup_str, ↓rv_isi_tup_tuple, ↓rv_isi_tup_list, ↓rv_isi_non_int, ↓rv_isi_non_bool, ↓rv_isi_non_str, ↓rv_isi_non_tuple, ↓rv_isi_non_list, ↓rd_sl, ↓rd_slL, ↓rd_noPart, ↓rd_part, ↓rv_sl_tup, ↓rv_sl_str, ↓rd_append, ↓rd_appV, ↓rd_itV, ↓rd_itVr, ↓rd_itT, ↓rd_itTt, ↓rd_itS, ↓rd_itSs, ↓rd_itR1, ↓rd_itR1j, ↓rd_itR2, ↓rd_itR2j, ↓rd_itL, ↓rd_for, ↓rd_lc, ↓rd_wipe0, ↓rd_wipe1, ↓rd_set0, ↓rd_set1, rd_gTrue, wd_put_hp, wd_put_hid, wd_hide_hp, wd_hide_hid, wd_of_hp, wd_put_hide, wd_hide_hide, wd_put_put, wd_of_put, dput_same, hset_same, at_0, at_1, at_2, at_3, at_4, at_5, at_6, at_7, at_8, at_9, at_10, at_11, upto_len, signs_len, ends_rt', ends_nx', jw_hp, jw_hid, ↓rd_popAt, ↓rd_popAtV, ↓rd_itR3, ↓rd_itR3j, ↓rd_fld2, ↓rd_fldV2, ins_at1, ins_at2, ↓rd_tryA, ↓rd_isEH1, ↓rd_isEH2, ↓rd_isEH3, ↓rd_extend, ↓rd_extT, ↓rd_extL, ↓rd_clear, ↓rd_clrV, ↓rd_dictEn, ↓rd_tuprev, ↓rd_enD, ↓rd_upper, ↓rd_upV, ↓rd_sortSet, ↓rd_lstR1, ↓rd_lstR2, ↓rg1_int, ↓rg2_int, ↓rd_remove, ↓rd_rmV, ↓on_lst, ↓rd_fld, ↓rd_fldV, ↓ins_at, ↓rd_setF, ↓rd_setFV, ↓rd_meth, ↓rd_methX, ↓rd_sortK, ↓rd_get2, ↓rd_popV, ↓rd_pop1, ↓rd_pop2, ↓rd_setdV, ↓rd_setd, ↓rd_isDD, ↓isDo_K, ↓isDo_T, ↓on_dK, ↓optD_some, ↓optD_none, ↓rd_lenD, ↓rd_listD, ↓rd_itVl, ↓rd_itVlr, ↓rd_itIt, ↓rd_itItr, ↓rd_sortedVt, ↓rd_sortedVd, ↓rd_itE, ↓rd_itEt, ↓rd_itEL, ↓rd_itELr, ↓rd_asgF, ↓rd_asgFV, ↓rd_saf0, ↓rd_saf1, ↓rd_fldaug, ↓rd_daug, ↓rd_addI, ↓rv_eqNil, ↓rv_neNil, ↓rv_repS, ↓rv_repT, ↓rv_repT2, rd_methOk, ↓rd_try, ↓rd_isE1, ↓rd_isE2, ↓rd_isE3, on_exc, clsDs_nil, clsDs_ref, clsDs_ty, cCons_some, kAny_nil, kAny_cons, kStep_t, kStep_f, pairD_ref, ↓rd_disp, ↓rd_pairs0, ↓rd_pairs1, keysK_nil, keysK_int, keysK_str, kCons_some, mergeD_one, obj_vis, obj_hid, ↓rd_make, ↓rd_makeH, ↓dict_dK, ↓dict_fz, ↓dict_dT, key_int, key_str, key_pair, ↓rd_dgV, ↓rd_dget, ↓rd_din, ↓rd_dinN, ↓dp_dK, ↓dp_dT, ↓rd_dpV, ↓rd_dput, ↓rd_dnewK, ↓rd_dnewT, ↓rd_itK, ↓on_fz, ↓rd_itKr, ↓rd_itZ, ↓rd_itZt, ↓rd_itZr, ↓rv_neg, Option.map_none, Option.map_some, Option.isSome_none, Option.isSome_some, ↓on_kept, HD.cls, hset_hset, dput_dput, wn_hid, wn_hide, wn_zero, startD, Sz, Nat.reduceLeDiff, true_and, and_true, List.map_cons, List.map_nil, List.cons_append, List.nil_append, List.length_cons, List.length_nil, List.flatten_cons, List.flatten_nil, List.append_nil, List.replicate_succ, List.replicate_zero, List.getElem?_cons_zero, List.getElem?_cons_succ, List.set_cons_zero, List.set_cons_succ, Nat.reduceAdd, Nat.reduceSub, Nat.zero_add, Nat.add_zero, Nat.sub_zero, CPow, Int.reduceToNat, Int.reducePow, Int.reduceLE, Int.reduceLT, Int.reduceNeg, nabs10, Nat.reducePow, Nat.reduceLT, Int.reduceAdd, Int.reduceSub, Int.reduceMul, Nat.reduceMul, Int.reduceEq, Nat.reduceEqDiff, reduceIte, Bool.not_true, Bool.not_false, Bool.false_eq_true, Bool.true_eq_false, decide_true, decide_false, not_true_eq_false, not_false_eq_true, Int.cast_ofNat_Int, decide_eq_true_eq, Bool.not_eq_true', Bool.not_eq_eq_eq_not, decide_eq_false_iff_not, dput_ne, hset_ne, ne_eq, not_false_eq_true, reduceCtorEq, $xs,*])
local macro_rules | `(tactic| simp_all! only [$xs,*]) => `(tactic| simp (maxDischargeDepth := 7) only [wd_put_hp, wd_put_hid, wd_hide_hp, wd_hide_hid, dput_ne, dput_same, hset_ne, hset_same, ne_eq, not_false_eq_true, reduceCtorEq, $xs,*])
local macro_rules | `(tactic| walk_at "wh") => `(tactic| simp (maxDischargeDepth := 7) only [wd_put_hp, wd_put_hid, wd_hide_hp, wd_hide_hid, dput_ne, dput_same, hset_ne, hset_same, ne_eq, not_false_eq_true, reduceCtorEq])
local macro_rules | `(tactic| walk_at "rdw") => `(tactic| simp -implicitDefEqProofs (maxDischargeDepth := 7) only [↓on_law, ↓on_some, ↓on_lst, ↓on_slot, ↓tst_bl, ↓prt_int, ↓rd_seq, ↓rd_next, ↓rd_ret, ↓rd_retN, ↓rd_brk, ↓rd_cnt, ↓rd_drop, ↓rd_ifS, ↓rd_asg, ↓rd_tnm, ↓rd_ttp, ↓rd_raise, ↓rd_asgL, ↓rd_setL, ↓rd_setLV, ↓rd_aug, ↓rd_var, ↓rd_c, ↓rd_op, ↓rd_un, ↓rd_test, ↓rd_and, ↓rd_or, ↓rd_not, ↓rd_yes, ↓rd_andV, ↓rd_orV, ↓rd_notV, ↓rd_chain, ↓rd_if, ↓rd_nil, ↓rd_cons, ↓rd_tup, ↓rd_lst, ↓rd_cell, ↓rd_seen, ↓rd_lstAt, ↓rd_opM, ↓rd_opV, ↓rd_op1M, ↓rd_opM1, ↓rd_call, ↓rd_callX, ↓rd_cb, ↓rd_cm, ↓rv_add_int, ↓rv_add_str, ↓rv_add_tup, ↓rv_I2, ↓rv_I2', ↓rv_cmp_int, ↓rv_cmp_str, ↓rv_eq_int, ↓rv_eq_str, ↓rv_eq_bl, ↓rv_ne_int, ↓rv_ne_str, ↓rv_ne_bl, ↓rv_is_bl, ↓rv_isnot_bl, ↓rv_is_non_int, ↓rv_isnot_non_int, ↓rv_is_non_str, ↓rv_isnot_non_str, ↓rv_is_non_bl, ↓rv_isnot_non_bl, ↓rv_is_non_tup, ↓rv_isnot_non_tup, ↓rv_is_non_ref, ↓rv_isnot_non_ref, ↓rv_is_non, ↓rv_isnot_non, ↓rv_in_tup, ↓rv_notIn_tup, ↓rv_ix_tup, ↓rv_ix_str, ↓rv_ix_ref, ↓rv_ixL, ↓rv_catL, ↓rv_repL, ↓rv_inM, ↓rv_notInM, ↓rv_eqL, ↓rv_neL, ↓rv_len_tup, ↓rv_len_str, ↓rv_len_ref, ↓rv_lenM, ↓rv_tupM, ↓rv_listM, ↓rv_listT, ↓rv_abs, ↓rv_int1, ↓rv_int1b, ↓rd_pick, ↓rv_mm, ↓rv_isi_int_int, ↓rv_isi_int_bool, ↓rv_isi_int_str, ↓rv_isi_int_tuple, ↓rv_isi_int_list, ↓rv_isi_str_int, ↓rv_isi_str_bool, ↓rv_isi_str_str, ↓rv_isi_str_tuple, ↓rv_isi_str_list, ↓rv_isi_bl_int, ↓rv_isi_bl_bool, ↓rv_isi_bl_str, ↓rv_isi_bl_tuple, ↓rv_isi_bl_list, ↓rv_isi_tup_int, ↓rv_isi_tup_bool, ↓rv_isi_tup_str, ↓rv_isi_tup_tuple, ↓rv_isi_tup_list, ↓rv_isi_non_int, ↓rv_isi_non_bool, ↓rv_isi_non_str, ↓rv_isi_non_tuple, ↓rv_isi_non_list, ↓rd_sl, ↓rd_slL, ↓rd_noPart, ↓rd_part, ↓rv_sl_tup, ↓rv_sl_str, ↓rd_append, ↓rd_appV, ↓rd_itV, ↓rd_itVr, ↓rd_itT, ↓rd_itTt, ↓rd_itS, ↓rd_itSs, ↓rd_itR1, ↓rd_itR1j, ↓rd_itR2, ↓rd_itR2j, ↓rd_itL, ↓rd_for, ↓rd_lc, ↓rd_wipe0, ↓rd_wipe1, ↓rd_set0, ↓rd_set1, rd_gTrue, wd_put_hp, wd_put_hid, wd_hide_hp, wd_hide_hid, wd_of_hp, wd_put_hide, wd_hide_hide, wd_put_put, wd_of_put, dput_same, hset_same, at_0, at_1, at_2, at_3, at_4, at_5, at_6, at_7, at_8, at_9, at_10, at_11, upto_len, signs_len, ends_rt', ends_nx', jw_hp, jw_hid, ↓rd_popAt, ↓rd_popAtV, ↓rd_itR3, ↓rd_itR3j, ↓rd_fld2, ↓rd_fldV2, ins_at1, ins_at2, ↓rd_tryA, ↓rd_isEH1, ↓rd_isEH2, ↓rd_isEH3, ↓rd_extend, ↓rd_extT, ↓rd_extL, ↓rd_clear, ↓rd_clrV, ↓rd_dictEn, ↓rd_tuprev, ↓rd_enD, ↓rd_upper, ↓rd_upV, ↓rd_sortSet, ↓rd_lstR1, ↓rd_lstR2, ↓rg1_int, ↓rg2_int, ↓rd_remove, ↓rd_rmV, ↓on_lst, ↓rd_fld, ↓rd_fldV, ↓ins_at, ↓rd_setF, ↓rd_setFV, ↓rd_meth, ↓rd_methX, ↓rd_sortK, ↓rd_get2, ↓rd_popV, ↓rd_pop1, ↓rd_pop2, ↓rd_setdV, ↓rd_setd, ↓rd_isDD, ↓isDo_K, ↓isDo_T, ↓on_dK, ↓optD_some, ↓optD_none, ↓rd_lenD, ↓rd_listD, ↓rd_itVl, ↓rd_itVlr, ↓rd_itIt, ↓rd_itItr, ↓rd_sortedVt, ↓rd_sortedVd, ↓rd_itE, ↓rd_itEt, ↓rd_itEL, ↓rd_itELr, ↓rd_asgF, ↓rd_asgFV, ↓rd_saf0, ↓rd_saf1, ↓rd_fldaug, ↓rd_daug, ↓rd_addI, ↓rv_eqNil, ↓rv_neNil, ↓rv_repS, ↓rv_repT, ↓rv_repT2, rd_methOk, ↓rd_try, ↓rd_isE1, ↓rd_isE2, ↓rd_isE3, on_exc, clsDs_nil, clsDs_ref, clsDs_ty, cCons_some, kAny_nil, kAny_cons, kStep_t, kStep_f, pairD_ref, ↓rd_disp, ↓rd_pairs0, ↓rd_pairs1, keysK_nil, keysK_int, keysK_str, kCons_some, mergeD_one, obj_vis, obj_hid, ↓rd_make, ↓rd_makeH, ↓dict_dK, ↓dict_fz, ↓dict_dT, key_int, key_str, key_pair, ↓rd_dgV, ↓rd_dget, ↓rd_din, ↓rd_dinN, ↓dp_dK, ↓dp_dT, ↓rd_dpV, ↓rd_dput, ↓rd_dnewK, ↓rd_dnewT, ↓rd_itK, ↓on_fz, ↓rd_itKr, ↓rd_itZ, ↓rd_itZt, ↓rd_itZr, ↓rv_neg, Option.map_none, Option.map_some, Option.isSome_none, Option.isSome_some, ↓on_kept, HD.cls, hset_hset, dput_dput, wn_hid, wn_hide, wn_zero, startD, Sz, Nat.reduceLeDiff, true_and, and_true, List.map_cons, List.map_nil, List.cons_append, List.nil_append, List.length_cons, List.length_nil, List.flatten_cons, List.flatten_nil, List.append_nil, List.replicate_succ, List.replicate_zero, List.getElem?_cons_zero, List.getElem?_cons_succ, List.set_cons_zero, List.set_cons_succ, Nat.reduceAdd, Nat.reduceSub, Nat.zero_add, Nat.add_zero, Nat.sub_zero, CPow, Int.reduceToNat, Int.reducePow, Int.reduceLE, Int.reduceLT, Int.reduceNeg, nabs10, Nat.reducePow, Nat.reduceLT, Int.reduceAdd, Int.reduceSub, Int.reduceMul, Nat.reduceMul, Int.reduceEq, Nat.reduceEqDiff, reduceIte, Bool.not_true, Bool.not_false, Bool.false_eq_true, Bool.true_eq_false, decide_true, decide_false, not_true_eq_false, not_false_eq_true, Int.cast_ofNat_Int, decide_eq_true_eq, Bool.not_eq_true', Bool.not_eq_eq_eq_not, decide_eq_false_iff_not, dput_ne, hset_ne, ne_eq, not_false_eq_true, reduceCtorEq])
local macro_rules | `(tactic| walk_at "rd") => `(tactic| simp -implicitDefEqProofs only [↓on_law, ↓on_some, ↓on_lst, ↓on_slot, ↓tst_bl, ↓prt_int, ↓rd_seq, ↓rd_next, ↓rd_ret, ↓rd_retN, ↓rd_brk, ↓rd_cnt, ↓rd_drop, ↓rd_ifS, ↓rd_asg, ↓rd_tnm, ↓rd_ttp, ↓rd_raise, ↓rd_asgL, ↓rd_setL, ↓rd_setLV, ↓rd_aug, ↓rd_var, ↓rd_c, ↓rd_op, ↓rd_un, ↓rd_test, ↓rd_and, ↓rd_or, ↓rd_not, ↓rd_yes, ↓rd_andV, ↓rd_orV, ↓rd_notV, ↓rd_chain, ↓rd_if, ↓rd_nil, ↓rd_cons, ↓rd_tup, ↓rd_lst, ↓rd_cell, ↓rd_seen, ↓rd_lstAt, ↓rd_opM, ↓rd_opV, ↓rd_op1M, ↓rd_opM1, ↓rd_call, ↓rd_callX, ↓rd_cb, ↓rd_cm, ↓rv_add_int, ↓rv_add_str, ↓rv_add_tup, ↓rv_I2, ↓rv_I2', ↓rv_cmp_int, ↓rv_cmp_str, ↓rv_eq_int, ↓rv_eq_str, ↓rv_eq_bl, ↓rv_ne_int, ↓rv_ne_str, ↓rv_ne_bl, ↓rv_is_bl, ↓rv_isnot_bl, ↓rv_is_non_int, ↓rv_isnot_non_int, ↓rv_is_non_str, ↓rv_isnot_non_str, ↓rv_is_non_bl, ↓rv_isnot_non_bl, ↓rv_is_non_tup, ↓rv_isnot_non_tup, ↓rv_is_non_ref, ↓rv_isnot_non_ref, ↓rv_is_non, ↓rv_isnot_non, ↓rv_in_tup, ↓rv_notIn_tup, ↓rv_ix_tup, ↓rv_ix_str, ↓rv_ix_ref, ↓rv_ixL, ↓rv_catL, ↓rv_repL, ↓rv_inM, ↓rv_notInM, ↓rv_eqL, ↓rv_neL, ↓rv_len_tup, ↓rv_len_str, ↓rv_len_ref, ↓rv_lenM, ↓rv_tupM, ↓rv_listM, ↓rv_listT, ↓rv_abs, ↓rv_int1, ↓rv_int1b, ↓rd_pick, ↓rv_mm, ↓rv_isi_int_int, ↓rv_isi_int_bool, ↓rv_isi_int_str, ↓rv_isi_int_tuple, ↓rv_isi_int_list, ↓rv_isi_str_int, ↓rv_isi_str_bool, ↓rv_isi_str_str, ↓rv_isi_str_tuple, ↓rv_isi_str_list, ↓rv_isi_bl_int, ↓rv_isi_bl_bool, ↓rv_isi_bl_str, ↓rv_isi_bl_tuple, ↓rv_isi_bl_list, ↓rv_isi_tup_int, ↓rv_isi_tup_bool, ↓rv_isi_tup_str, ↓rv_isi_tup_tuple, ↓rv_isi_tup_list, ↓rv_isi_non_int, ↓rv_isi_non_bool, ↓rv_isi_non_str, ↓rv_isi_non_tuple, ↓rv_isi_non_list, ↓rd_sl, ↓rd_slL, ↓rd_noPart, ↓rd_part, ↓rv_sl_tup, ↓rv_sl_str, ↓rd_append, ↓rd_appV, ↓rd_itV, ↓rd_itVr, ↓rd_itT, ↓rd_itTt, ↓rd_itS, ↓rd_itSs, ↓rd_itR1, ↓rd_itR1j, ↓rd_itR2, ↓rd_itR2j, ↓rd_itL, ↓rd_for, ↓rd_lc, ↓rd_wipe0, ↓rd_wipe1, ↓rd_set0, ↓rd_set1, rd_gTrue, wd_put_hp, wd_put_hid, wd_hide_hp, wd_hide_hid, wd_of_hp, wd_put_hide, wd_hide_hide, wd_put_put, wd_of_put, dput_same, hset_same, at_0, at_1, at_2, at_3, at_4, at_5, at_6, at_7, at_8, at_9, at_10, at_11, upto_len, signs_len, ends_rt', ends_nx', jw_hp, jw_hid, ↓rd_popAt, ↓rd_popAtV, ↓rd_itR3, ↓rd_itR3j, ↓rd_fld2, ↓rd_fldV2, ins_at1, ins_at2, ↓rd_tryA, ↓rd_isEH1, ↓rd_isEH2, ↓rd_isEH3, ↓rd_extend, ↓rd_extT, ↓rd_extL, ↓rd_clear, ↓rd_clrV, ↓rd_dictEn, ↓rd_tuprev, ↓rd_enD, ↓rd_upper, ↓rd_upV, ↓rd_sortSet, ↓rd_lstR1, ↓rd_lstR2, ↓rg1_int, ↓rg2_int, ↓rd_remove, ↓rd_rmV, ↓on_lst, ↓rd_fld, ↓rd_fldV, ↓ins_at, ↓rd_setF, ↓rd_setFV, ↓rd_meth, ↓rd_methX, ↓rd_sortK, ↓rd_get2, ↓rd_popV, ↓rd_pop1, ↓rd_pop2, ↓rd_setdV, ↓rd_setd, ↓rd_isDD, ↓isDo_K, ↓isDo_T, ↓on_dK, ↓optD_some, ↓optD_none, ↓rd_lenD, ↓rd_listD, ↓rd_itVl, ↓rd_itVlr, ↓rd_itIt, ↓rd_itItr, ↓rd_sortedVt, ↓rd_sortedVd, ↓rd_itE, ↓rd_itEt, ↓rd_itEL, ↓rd_itELr, ↓rd_asgF, ↓rd_asgFV, ↓rd_saf0, ↓rd_saf1, ↓rd_fldaug, ↓rd_daug, ↓rd_addI, ↓rv_eqNil, ↓rv_neNil, ↓rv_repS, ↓rv_repT, ↓rv_repT2, rd_methOk, ↓rd_try, ↓rd_isE1, ↓rd_isE2, ↓rd_isE3, on_exc, clsDs_nil, clsDs_ref, clsDs_ty, cCons_some, kAny_nil, kAny_cons, kStep_t, kStep_f, pairD_ref, ↓rd_disp, ↓rd_pairs0, ↓rd_pairs1, keysK_nil, keysK_int, keysK_str, kCons_some, mergeD_one, obj_vis, obj_hid, ↓rd_make, ↓rd_makeH, ↓dict_dK, ↓dict_fz, ↓dict_dT, key_int, key_str, key_pair, ↓rd_dgV, ↓rd_dget, ↓rd_din, ↓rd_dinN, ↓dp_dK, ↓dp_dT, ↓rd_dpV, ↓rd_dput, ↓rd_dnewK, ↓rd_dnewT, ↓rd_itK, ↓on_fz, ↓rd_itKr, ↓rd_itZ, ↓rd_itZt, ↓rd_itZr, ↓rv_neg, Option.map_none, Option.map_some, Option.isSome_none, Option.isSome_some, ↓on_kept, HD.cls, hset_hset, dput_dput, wn_hid, wn_hide, wn_zero, startD, Sz, Nat.reduceLeDiff, true_and, and_true, List.map_cons, List.map_nil, List.cons_append, List.nil_append, List.length_cons, List.length_nil, List.flatten_cons, List.flatten_nil, List.append_nil, List.replicate_succ, List.replicate_zero, List.getElem?_cons_zero, List.getElem?_cons_succ, List.set_cons_zero, List.set_cons_succ, Nat.reduceAdd, Nat.reduceSub, Nat.zero_add, Nat.add_zero, Nat.sub_zero, CPow, Int.reduceToNat, Int.reducePow, Int.reduceLE, Int.reduceLT, Int.reduceNeg, nabs10, Nat.reducePow, Nat.reduceLT, Int.reduceAdd, Int.reduceSub, Int.reduceMul, Nat.reduceMul, Int.reduceEq, Nat.reduceEqDiff, reduceIte, Bool.not_true, Bool.not_false, Bool.false_eq_true, Bool.true_eq_false, decide_true, decide_false, not_true_eq_false, not_false_eq_true, Int.cast_ofNat_Int, decide_eq_true_eq, Bool.not_eq_true', Bool.not_eq_eq_eq_not, decide_eq_false_iff_not])
local macro_rules | `(tactic| walk_at "rdh") => `(tactic| simp -implicitDefEqProofs only [↓on_law, ↓on_some, ↓on_lst, ↓on_slot, ↓tst_bl, ↓prt_int, ↓rd_seq, ↓rd_next, ↓rd_ret, ↓rd_retN, ↓rd_brk, ↓rd_cnt, ↓rd_drop, ↓rd_ifS, ↓rd_asg, ↓rd_tnm, ↓rd_ttp, ↓rd_raise, ↓rd_asgL, ↓rd_setL, ↓rd_setLV, ↓rd_aug, ↓rd_var, ↓rd_c, ↓rd_op, ↓rd_un, ↓rd_test, ↓rd_and, ↓rd_or, ↓rd_not, ↓rd_yes, ↓rd_andV, ↓rd_orV, ↓rd_notV, ↓rd_chain, ↓rd_if, ↓rd_nil, ↓rd_cons, ↓rd_tup, ↓rd_lst, ↓rd_cell, ↓rd_seen, ↓rd_lstAt, ↓rd_opM, ↓rd_opV, ↓rd_op1M, ↓rd_opM1, ↓rd_call, ↓rd_callX, ↓rd_cb, ↓rd_cm, ↓rv_add_int, ↓rv_add_str, ↓rv_add_tup, ↓rv_I2, ↓rv_I2', ↓rv_cmp_int, ↓rv_cmp_str, ↓rv_eq_int, ↓rv_eq_str, ↓rv_eq_bl, ↓rv_ne_int, ↓rv_ne_str, ↓rv_ne_bl, ↓rv_is_bl, ↓rv_isnot_bl, ↓rv_is_non_int, ↓rv_isnot_non_int, ↓rv_is_non_str, ↓rv_isnot_non_str, ↓rv_is_non_bl, ↓rv_isnot_non_bl, ↓rv_is_non_tup, ↓rv_isnot_non_tup, ↓rv_is_non_ref, ↓rv_isnot_non_ref, ↓rv_is_non, ↓rv_isnot_non, ↓rv_in_tup, ↓rv_notIn_tup, ↓rv_ix_tup, ↓rv_ix_str, ↓rv_ix_ref, ↓rv_ixL, ↓rv_catL, ↓rv_repL, ↓rv_inM, ↓rv_notInM, ↓rv_eqL, ↓rv_neL, ↓rv_len_tup, ↓rv_len_str, ↓rv_len_ref, ↓rv_lenM, ↓rv_tupM, ↓rv_listM, ↓rv_listT, ↓rv_abs, ↓rv_int1, ↓rv_int1b, ↓rd_pick, ↓rv_mm, ↓rv_isi_int_int, ↓rv_isi_int_bool, ↓rv_isi_int_str, ↓rv_isi_int_tuple, ↓rv_isi_int_list, ↓rv_isi_str_int, ↓rv_isi_str_bool, ↓rv_isi_str_str, ↓rv_isi_str_tuple, ↓rv_isi_str_list, ↓rv_isi_bl_int, ↓rv_isi_bl_bool, ↓rv_isi_bl_str, ↓rv_isi_bl_tuple, ↓rv_isi_bl_list, ↓rv_isi_tup_int, ↓rv_isi_tup_bool, ↓rv_isi_tup_str, ↓rv_isi_tup_tuple, ↓rv_isi_tup_list, ↓rv_isi_non_int, ↓rv_isi_non_bool, ↓rv_isi_non_str, ↓rv_isi_non_tuple, ↓rv_isi_non_list, ↓rd_sl, ↓rd_slL, ↓rd_noPart, ↓rd_part, ↓rv_sl_tup, ↓rv_sl_str, ↓rd_append, ↓rd_appV, ↓rd_itV, ↓rd_itVr, ↓rd_itT, ↓rd_itTt, ↓rd_itS, ↓rd_itSs, ↓rd_itR1, ↓rd_itR1j, ↓rd_itR2, ↓rd_itR2j, ↓rd_itL, ↓rd_for, ↓rd_lc, ↓rd_wipe0, ↓rd_wipe1, ↓rd_set0, ↓rd_set1, rd_gTrue, wd_put_hp, wd_put_hid, wd_hide_hp, wd_hide_hid, wd_of_hp, wd_put_hide, wd_hide_hide, wd_put_put, wd_of_put, dput_same, hset_same, at_0, at_1, at_2, at_3, at_4, at_5, at_6, at_7, at_8, at_9, at_10, at_11, upto_len, signs_len, ends_rt', ends_nx', jw_hp, jw_hid, ↓rd_popAt, ↓rd_popAtV, ↓rd_itR3, ↓rd_itR3j, ↓rd_fld2, ↓rd_fldV2, ins_at1, ins_at2, ↓rd_tryA, ↓rd_isEH1, ↓rd_isEH2, ↓rd_isEH3, ↓rd_extend, ↓rd_extT, ↓rd_extL, ↓rd_clear, ↓rd_clrV, ↓rd_dictEn, ↓rd_tuprev, ↓rd_enD, ↓rd_upper, ↓rd_upV, ↓rd_sortSet, ↓rd_lstR1, ↓rd_lstR2, ↓rg1_int, ↓rg2_int, ↓rd_remove, ↓rd_rmV, ↓on_lst, ↓rd_fld, ↓rd_fldV, ↓ins_at, ↓rd_setF, ↓rd_setFV, ↓rd_meth, ↓rd_methX, ↓rd_sortK, ↓rd_get2, ↓rd_popV, ↓rd_pop1, ↓rd_pop2, ↓rd_setdV, ↓rd_setd, ↓rd_isDD, ↓isDo_K, ↓isDo_T, ↓on_dK, ↓optD_some, ↓optD_none, ↓rd_lenD, ↓rd_listD, ↓rd_itVl, ↓rd_itVlr, ↓rd_itIt, ↓rd_itItr, ↓rd_sortedVt, ↓rd_sortedVd, ↓rd_itE, ↓rd_itEt, ↓rd_itEL, ↓rd_itELr, ↓rd_asgF, ↓rd_asgFV, ↓rd_saf0, ↓rd_saf1, ↓rd_fldaug, ↓rd_daug, ↓rd_addI, ↓rv_eqNil, ↓rv_neNil, ↓rv_repS, ↓rv_repT, ↓rv_repT2, rd_methOk, ↓rd_try, ↓rd_isE1, ↓rd_isE2, ↓rd_isE3, on_exc, clsDs_nil, clsDs_ref, clsDs_ty, cCons_some, kAny_nil, kAny_cons, kStep_t, kStep_f, pairD_ref, ↓rd_disp, ↓rd_pairs0, ↓rd_pairs1, keysK_nil, keysK_int, keysK_str, kCons_some, mergeD_one, obj_vis, obj_hid, ↓rd_make, ↓rd_makeH, ↓dict_dK, ↓dict_fz, ↓dict_dT, key_int, key_str, key_pair, ↓rd_dgV, ↓rd_dget, ↓rd_din, ↓rd_dinN, ↓dp_dK, ↓dp_dT, ↓rd_dpV, ↓rd_dput, ↓rd_dnewK, ↓rd_dnewT, ↓rd_itK, ↓on_fz, ↓rd_itKr, ↓rd_itZ, ↓rd_itZt, ↓rd_itZr, ↓rv_neg, Option.map_none, Option.map_some, Option.isSome_none, Option.isSome_some, ↓on_kept, HD.cls, hset_hset, dput_dput, wn_hid, wn_hide, wn_zero, startD, Sz, Nat.reduceLeDiff, true_and, and_true, List.map_cons, List.map_nil, List.cons_append, List.nil_append, List.length_cons, List.length_nil, List.flatten_cons, List.flatten_nil, List.append_nil, List.replicate_succ, List.replicate_zero, List.getElem?_cons_zero, List.getElem?_cons_succ, List.set_cons_zero, List.set_cons_succ, Nat.reduceAdd, Nat.reduceSub, Nat.zero_add, Nat.add_zero, Nat.sub_zero, CPow, Int.reduceToNat, Int.reducePow, Int.reduceLE, Int.reduceLT, Int.reduceNeg, nabs10, Nat.reducePow, Nat.reduceLT, Int.reduceAdd, Int.reduceSub, Int.reduceMul, Nat.reduceMul, Int.reduceEq, Nat.reduceEqDiff, reduceIte, Bool.not_true, Bool.not_false, Bool.false_eq_true, Bool.true_eq_false, decide_true, decide_false, not_true_eq_false, not_false_eq_true, Int.cast_ofNat_Int, decide_eq_true_eq, Bool.not_eq_true', Bool.not_eq_eq_eq_not, decide_eq_false_iff_not, dput_ne, hset_ne, ne_eq, not_false_eq_true, *])
local macro_rules | `(tactic| walk_at "each") => `(tactic| repeat' (first | exact List.forall_mem_nil _ | refine List.forall_mem_cons.mpr ⟨?_, ?_⟩))
section
variable {P : Program} {w : World} {K : PySem.W.Frag} {mg : Str → Option Value} {base : Heap}
theorem ok__law_begin (T : TX K mg) : FnOk P w K mg base CX0 1 T.a__law_begin T.fd__law_begin ["_law_script"] (sp__law_begin K) := by
  refine T.F__law_begin.ok sc__law_begin (fun vs H Q E h => ?_) (fun cdv A outer s H vs Q E hr h => ?_)
  · obtain ⟨a, ns, rfl, _⟩ := h
    rfl
  · obtain ⟨a, ns, rfl, hS, hl, k⟩ := h
    refine ⟨_, pss_one (ps_ret (pe_lst (pa_cons (pe_op op_cat (pe_callTy call_list_of (by rfl) T.n_list bb_list (pa_cons (pe_slice sl_list (pv 0) po_none (po_some pe_int)) pa_nil))
      (pe_op op_rep (pe_lst (pa_cons pe_int pa_nil)) (pe_callTy call_int1 (by rfl) T.n_int bb_int (pa_cons (pe_cmpR op_eq (pe_callB call_len_seq (by rfl) T.n_len bb_len (pa_cons (pv 0) pa_nil)) pe_int (nomark _)) pa_nil))))
      (pa_cons pe_int pa_nil)))), ?_⟩
    refine ⟨_, rfl, 63, rfl, a, _, rfl, hS, fun p1 n1 => ?_⟩
    have z1 : Same H (upd H p1 (.lst (cutV (ns.map V.int) none (some 63)))) := fun b o e => by rw [upd_ne (ne_of_none e n1)]; exact e
    refine ⟨p1, _, rfl, .inl (.of upd_same), fun p2 n2 => ?_⟩
    have z2 := z1.trans (fun b o e => by rw [upd_ne (ne_of_none e n2)]; exact e : Same _ (upd (upd H p1 (.lst (cutV (ns.map V.int) none (some 63)))) p2 (.lst (cutV (ns.map V.int) none (some 63)))))
    refine ⟨by decide, fun p3 n3 => ?_⟩
    have z3 := z2.trans (fun b o e => by rw [upd_ne (ne_of_none e n3)]; exact e : Same _ (upd (upd (upd H p1 (.lst (cutV (ns.map V.int) none (some 63)))) p2 (.lst (cutV (ns.map V.int) none (some 63)))) p3 (.lst [.int 0])))
    have h32 : p2 ≠ p3 := ne_of_none upd_same n3
    refine ⟨_, rfl, a, _, rfl, .inl (z3.seq hS), rfl, ?_⟩
    refine .inr ⟨_, rfl, ?_⟩
    refine ⟨p3, _, _, rfl, rfl, upd_same, by split <;> decide, by split <;> decide, by split <;> decide, fun p4 n4 => ?_⟩
    have e2 : (upd (upd (upd H p1 (.lst (cutV (ns.map V.int) none (some 63)))) p2 (.lst (cutV (ns.map V.int) none (some 63)))) p3 (.lst [.int 0])) p2 = some (.lst (cutV (ns.map V.int) none (some 63))) := by rw [upd_ne h32, upd_same]
    have h24 : p2 ≠ p4 := ne_of_none e2 n4
    have ecut : cutV (ns.map V.int) none (some 63) = ns.map V.int := by
      unfold cutV
      rw [HT.sIx_none, show (some (63 : Int)) = some ((63 : Nat) : Int) from rfl, HT.sIx_nat, List.drop_zero, Nat.sub_zero, List.take_of_length_le]
      rw [List.length_map]; omega
    refine ⟨p2, p4, _, _, rfl, rfl, by rw [upd_ne h24]; exact e2, upd_same, ?_, fun c nc => ?_⟩
    · rw [ecut, List.length_map]
      refine Nat.le_trans ?_ (show 100 ≤ sizeLine by decide)
      split <;> simp <;> omega
    refine ⟨(show 2 ≤ sizeLine by decide), fun p np => ?_⟩
    have hpc : p ≠ c := by rintro rfl; rw [upd_same] at np; cases np
    rw [ecut]
    by_cases hn : ns = []
    · subst hn
      refine k p c [0] _ hpc upd_same ?_ (by simp) (by simp)
      rw [upd_ne (Ne.symm hpc), upd_same]
      rfl
    · refine k p c ns _ hpc upd_same ?_ hn (by omega)
      rw [upd_ne (Ne.symm hpc), upd_same]
      have : ¬ ((ns.length : Int) = 0) := fun e => hn (List.length_eq_zero_iff.mp (by omega))
      simp [this, hn]
theorem okS__law_pick (T : TX K mg) : FnOk P w K mg base CX0 1 T.a__law_pick T.fd__law_pick ["_law_state", "_law_many"] (upSp K spS__law_pick) := by
  refine okD T.F__law_pick sc__law_pick ?len (fun cdv A outer s H E hr => ⟨_, (dss_cons (ds_asgL (is := [2, 3]) (dv 0) (pg_unl rfl (pgs_cons (pgn 2 sc__law_pick.nd) (pgs_cons (pgn 3 sc__law_pick.nd) pgs_nil))))
    (dss_cons (ds_setL (de_op dop_add (dv 3) (de_int)) (dv 0) (de_int))
    (dss_cons (ds_asg (g := (.nm 4)) (de_op dop_mod (dv 3) (de_callB dc_len (by rfl) T.n_len bb_len (da_cons (dv 2) da_nil))) (pgn 4 sc__law_pick.nd))
    (dss_cons (ds_asg (g := (.nm 5)) (de_callB dc_abs (by rfl) T.n_abs bb_abs (da_cons (de_ix (dv 2) (dv 4)) da_nil)) (pgn 5 sc__law_pick.nd))
    (dss_cons (ds_if (dt_cmp dop_ge (dv 5) (de_op dop_pow (de_int) (de_int))) (dss_cons (ds_setL (de_op dop_fdiv (dv 5) (dv 1)) (dv 2) (dv 4))
    (dss_one (ds_ret (de_op dop_mod (dv 5) (dv 1))))) dss_nil)
    (dss_cons (ds_asg (g := (.nm 6)) (de_op dop_add (de_op dop_mul (de_op dop_mod (dv 5) (de_int)) (de_int)) (de_op dop_mul (de_op dop_mul (dv 3) (dv 3)) (de_int))) (pgn 6 sc__law_pick.nd))
    (dss_cons (ds_asg (g := (.nm 6)) (de_op dop_mod (de_op dop_add (de_op dop_add (de_op dop_add (dv 6) (de_op dop_mul (dv 3) (de_int))) (de_int)) (de_callTy dc_int (by rfl) T.n_int bb_int (da_cons (de_cmp dop_lt (de_ix (dv 2) (dv 4)) (de_int)) da_nil))) (de_int)) (pgn 6 sc__law_pick.nd))
    (dss_cons (ds_asg (g := (.nm 6)) (de_op dop_mod (de_op dop_mul (dv 6) (de_op dop_add (dv 6) (de_int))) (de_int)) (pgn 6 sc__law_pick.nd))
    (dss_one (ds_ret (de_op dop_mod (de_op dop_fdiv (dv 6) (de_int)) (dv 1)))))))))))), ?rd⟩)
  case len => rintro ds W q Ed ⟨_, _, _, _, rfl, _⟩; rfl
  case rd =>
    rintro ds W q Ed ⟨p, m, n, g, rfl, rfl, ⟨c, cells, t, hp, hc, hpc, ht0, htn, hne, hlen⟩, hn, h1, h2, k⟩
    have hcp := Ne.symm hpc
    have ix21 : ixN 2 1 = some 1 := by decide
    have hl0 : 0 < cells.length := by cases cells <;> simp_all
    have ha0 : 0 ≤ t % (cells.length : Int) := Int.emod_nonneg _ (by omega)
    have ha1 : t % (cells.length : Int) < cells.length := Int.emod_lt_of_pos _ (by omega)
    obtain ⟨j, hj⟩ : ∃ j : Nat, t % (cells.length : Int) = j := ⟨(t % (cells.length : Int)).toNat, by omega⟩
    have hjl : j < cells.length := by omega
    have hat : atI (cells.map D.int) (j : Int) = some (.int cells[j]) := atI_nat (by simp [hjl])
    have hix : ixN cells.length (j : Int) = some j := by unfold ixN; rw [if_pos (by omega), if_pos (by omega)]; simp
    simp! only [hp, hc, dput_ne hcp, dput_ne hpc, ix21, List.length_map, hj, hat, hix]
    refine ⟨by omega, ?_⟩
    have hc' : ∀ v : Int, (cells.map D.int).set j (D.int v) = (cells.set j v).map D.int := fun v => by rw [List.map_set]
    have habs : 0 ≤ (if cells[j] < 0 then -cells[j] else cells[j]) := by split <;> omega
    have fin : ∀ (r : Int) (cells' : List Int) (h' : Dh), 0 ≤ r → r < m → h' p = some (.lst [.ref c, .int (t + 1)]) → h' c = some (.lst (cells'.map D.int)) → cells' ≠ [] → cells'.length ≤ 64 → WkQ (q (.int r)) (wdOf h') := fun r cells' h' r0 r1 e1 e2 e3 e4 =>
      .here (k r h' r0 r1 ⟨c, cells', t + 1, e1, e2, hpc, by omega, by omega, e3, e4⟩)
    refine ite2 (fun _ => ?_) (fun _ => ?_)
    · refine ⟨cdiv_of (by omega) h2, by omega, fin _ (cells.set j ((if cells[j] < 0 then -cells[j] else cells[j]) / m)) _ (Int.emod_nonneg _ (by omega)) (Int.emod_lt_of_pos _ (by omega)) ?_ ?_ ?_ ?_⟩
      · rw [dput_ne hpc, dput_same]
      · rw [dput_same, hc']
      · intro e; apply hne; exact List.length_eq_zero_iff.mp (by have := congrArg List.length e; simpa using this)
      · simpa using hlen
    · have ht : t < 2 ^ 62 := by have : (n : Int) < 2 ^ 62 := by exact_mod_cast hn
                                 omega
      have tm : IntMulOk t t := mul_l (by omega) (by omega)
      refine ⟨mul_r (by decide) (by decide), tm, mul_r (by decide) (by decide), mul_r (by decide) (by decide), ?_, cdiv_of (by decide) (by decide), by omega, fin _ cells _ (Int.emod_nonneg _ (by omega)) (Int.emod_lt_of_pos _ (by omega)) dput_same ?_ hne hlen⟩
      · refine mul_l ?_ ?_
        · refine Int.lt_of_lt_of_le (by decide) (Int.emod_nonneg _ (by decide))
        · exact Int.lt_of_lt_of_le (Int.emod_lt_of_pos _ (by decide)) (by decide)
      · rw [dput_ne hcp]; exact hc
theorem ok__law_pick (T : TX K mg) : FnOk P w K mg base CX0 1 T.a__law_pick T.fd__law_pick ["_law_state", "_law_many"] (upSp K sp__law_pick) := (okS__law_pick T).imp fun _ _ _ _ => pick_up
def sp__law_windows : DSp := fun ds W q _ => ∃ (p : Addr) (n : Nat) (k : Nat), ds = [.ref p, .int k] ∧ W.hid p = some (.law n) ∧ n < 2 ^ 57 ∧ k ≤ 400 ∧
  ∀ (ws : List Win) (n' : Nat), ws.length = k → WsOk ws → n' ≤ n + 2 + 4 * k → q (.tup (ws.map wD)) (W.hide p (.law n'))
theorem ok__law_windows (T : TX K mg) : FnOk P w K mg base CX0 2 T.a__law_windows T.fd__law_windows ["_law_state", "_law_many"] (upSp K sp__law_windows) := by
  refine okD T.F__law_windows sc__law_windows ?len (fun cdv A outer s H E hr => ⟨_, (dss_cons (ds_asg (g := (.nm 2)) (de_ixl (dl_lst (da_cons (de_int) (da_cons (de_int) (da_cons (de_int) (da_cons (de_op dop_sub (de_op dop_pow (de_int) (de_int)) (de_int)) da_nil))))) (de_call (ok__law_pick T) (hr.mono (by decide)) (by rfl) T.m__law_pick T.F__law_pick.kp T.b__law_pick pass0 (da_cons (dv 0) (da_cons (de_int) da_nil)))) (pgn 2 sc__law_windows.nd))
    (dss_cons (ds_asg (g := (.nm 3)) (de_ixl (dl_lst (da_cons (de_int) (da_cons (de_int) (da_cons (de_int) (da_cons (de_int) da_nil))))) (de_call (ok__law_pick T) (hr.mono (by decide)) (by rfl) T.m__law_pick T.F__law_pick.kp T.b__law_pick pass0 (da_cons (dv 0) (da_cons (de_int) da_nil)))) (pgn 3 sc__law_windows.nd))
    (dss_cons (ds_asg (g := (.nm 4)) (de_cell (dl_lst da_nil)) (pgn 4 sc__law_windows.nd))
    (dss_cons (ds_for (g := (.nm 5)) PassesOwn.never rfl (di_r1 (by rfl) T.n_range (da_cons (dv 1) da_nil)) (pgn 5 sc__law_windows.nd) (dss_cons (ds_asg (g := (.nm 6)) (de_call (ok__law_pick T) (hr.mono (by decide)) (by rfl) T.m__law_pick T.F__law_pick.kp T.b__law_pick pass0 (da_cons (dv 0) (da_cons (dv 2) da_nil))) (pgn 6 sc__law_windows.nd))
    (dss_cons (ds_expr (de_append (pe_bm PySem.F.plainAttrs_list PySem.F.slot_list_append PySem.F.type_list_append mt_append (dv 4) (pa_cons (de_tup (da_cons (dv 6) (da_cons (de_op dop_add (dv 6) (de_call (ok__law_pick T) (hr.mono (by decide)) (by rfl) T.m__law_pick T.F__law_pick.kp T.b__law_pick pass0 (da_cons (dv 0) (da_cons (dv 3) da_nil)))) da_nil))) pa_nil))))
    (dss_one (ds_if (dt_cmp (dop_eq hr.units) (de_call (ok__law_pick T) (hr.mono (by decide)) (by rfl) T.m__law_pick T.F__law_pick.kp T.b__law_pick pass0 (da_cons (dv 0) (da_cons (de_int) da_nil))) (de_int)) (dss_one (ds_expr (de_append (pe_bm PySem.F.plainAttrs_list PySem.F.slot_list_append PySem.F.type_list_append mt_append (dv 4) (pa_cons (de_ix (dv 4) (de_call (ok__law_pick T) (hr.mono (by decide)) (by rfl) T.m__law_pick T.F__law_pick.kp T.b__law_pick pass0 (da_cons (dv 0) (da_cons (de_callB dc_len (by rfl) T.n_len bb_len (da_cons (dv 4) da_nil)) da_nil)))) pa_nil))))) dss_nil)))))
    (dss_one (ds_ret (de_callTyM dc_tupM (by rfl) T.n_tuple bb_tuple (dm_l (dl_slice (dv 4) do_none (do_some (dv 1))))))))))), ?rd⟩)
  case len => rintro ds W q Ed ⟨_, _, _, rfl, _⟩; rfl
  case rd =>
    rintro ds W q Ed ⟨p, n, k, rfl, hp, hn, hk, h⟩
    simp! only [hp]
    refine ⟨by omega, fun r1 a1 b1 => ?_⟩
    refine on_any (fun d => ∃ v, d = .int v ∧ 1 ≤ v ∧ v ≤ 999999000) a1 (by simpa using b1) (by walk_at "each"; all_goals exact ⟨_, rfl, by decide, by decide⟩) ?_
    rintro _ ⟨far, rfl, fa1, fa2⟩
    refine ⟨by omega, fun r2 a2 b2 => ?_⟩
    refine on_any (fun d => ∃ v, d = .int v ∧ 1 ≤ v ∧ v ≤ 999) a2 (by simpa using b2) (by walk_at "each"; all_goals exact ⟨_, rfl, by decide, by decide⟩) ?_
    rintro _ ⟨wide, rfl, wi1, wi2⟩
    intro a f g
    obtain ⟨npa, g'⟩ := hset_none g
    have F := nws f g'
    rw [Int.toNat_natCast]
    refine ⟨by omega, by omega, ?_⟩
    refine for_upto (fun i δ W' => ∃ (L : List Win) (n' : Nat) (v5 v6 : Option D), i ≤ L.length ∧ L.length ≤ 2 * i ∧ (∀ w ∈ L, 0 ≤ w.1 ∧ w.1 ≤ w.2 ∧ w.2 ≤ 1000000000) ∧ n' ≤ n + 2 + 4 * i ∧ W' = (W.put a (.lst (L.map wD))).hide p (.law n') ∧ δ = [some (.ref p), some (.int k), some (.int far), some (.int wide), some (.ref a), v5, v6]) ⟨[], n + 2, _, _, Nat.zero_le _, Nat.zero_le _, nofun, Nat.le_refl _, rfl, rfl⟩ ?_ ?_
    · rintro i δ W' N hi ⟨L, n', v5, v6, l1, l2, hL, hn', rfl, rfl⟩ kk
      dsimp! only [F, hp]
      refine ⟨by omega, by omega, by omega, fun r q0 z0 => ⟨by omega, by omega, by omega, fun r' q1 z1 => ?_⟩⟩
      have hmp : L.map wD ++ [D.tup [.int r, .int (r + r')]] = (L ++ [(r, r + r')]).map wD := by rw [List.map_append]; rfl
      have hll : (L ++ [(r, r + r')]).length = L.length + 1 := by rw [List.length_append, List.length_singleton]
      have hL2 : ∀ w ∈ L ++ [(r, r + r')], 0 ≤ w.1 ∧ w.1 ≤ w.2 ∧ w.2 ≤ 1000000000 := fun w hw => by
        rcases List.mem_append.mp hw with h | h
        · exact hL w h
        · rw [List.mem_singleton] at h; subst h; exact ⟨q0, by show r ≤ r + r'; omega, by show r + r' ≤ _; omega⟩
      rw [hmp]
      have hml : ((L ++ [(r, r + r')]).map wD).length = L.length + 1 := by rw [List.length_map]; exact hll
      rw [hml]
      refine ⟨by rw [List.length_map]; omega, by omega, fun r'' q2 z2 => ite2 (fun c => ⟨by omega, by omega, by omega, fun r3 q3 z3 => ?_⟩) (fun c => .here (kk _ _ ⟨L ++ [(r, r + r')], n' + 1 + 1 + 1, _, _, by omega, by omega, hL2, by omega, rfl, rfl⟩))⟩
      obtain ⟨w, hw, hat⟩ : ∃ w, w ∈ L ++ [(r, r + r')] ∧ atI ((L ++ [(r, r + r')]).map wD) r3 = some (wD w) := ⟨_, List.getElem_mem (n := r3.toNat) (by omega), at_gs q3 (List.getElem?_eq_getElem (by omega))⟩
      rw [hat]
      refine ⟨by omega, .here (kk _ _ ⟨L ++ [(r, r + r')] ++ [w], n' + 1 + 1 + 1 + 1, _, _, by rw [List.length_append, hll]; simp; omega, by rw [List.length_append, hll]; simp; omega, fun x hx => ?_, by omega, by rw [List.map_append (l₁ := L ++ _)]; rfl, rfl⟩)⟩
      rcases List.mem_append.mp hx with h | h
      · exact hL2 x h
      · rw [List.mem_singleton] at h; subst h; exact hL2 _ hw
    · rintro δ W' ⟨L, n', v5, v6, l1, l2, hL, hn', rfl, rfl⟩
      dsimp! only [F]
      rw [cut_take, ← List.map_take]
      exact (Gr.hide (Gr.refl.put f)).sub (h (L.take k) n' (by rw [List.length_take]; omega) ⟨by rw [List.length_take]; omega, fun w hw => hL w (List.mem_of_mem_take hw)⟩ hn')
def sp_least_plan : DSp := fun ds W q _ => ∃ (m : Nat) (ws : List Win), ds = [.int m, .tup (ws.map wD)] ∧ 1 ≤ m ∧ WsOk ws ∧ q (.tup ((planF m ws).map gD)) W
theorem ok_least_plan (T : TX K mg) : FnOk P w K mg base CX0 1 T.a_least_plan T.fd_least_plan ["most", "windows"] (upSp K sp_least_plan) := by
  refine okD T.F_least_plan sc_least_plan ?len (fun cdv A outer s H E hr => ⟨_, (dss_cons (ds_asg (g := (.nm 2)) (de_cell (dl_callBM dc_sortedT (by rfl) T.n_sorted bb_sorted (dm_l (dl_lc (by decide) rfl sc_least_plan.nd (own := [("place", 6), ("window", 7)]) (g := (.tp [6, 7])) (di_enumT (by rfl) T.n_enumerate (dv 1)) (blkOk_by (own := [("place", 6), ("window", 7)]) (N := N_least_plan) (sc := defScope s_least_plan) (by decide +kernel)) (fun _ _ _ _ _ => (pg_tup rfl (pgs_cons (pgn 6 sc_least_plan.nd) (pgs_cons (pgn 7 sc_least_plan.nd) pgs_nil)))) (fun _ _ _ _ _ => dts_nil) (fun _ _ _ _ _ => (de_tup (da_cons (de_ix (dv 7) (de_int)) (da_cons (de_ix (dv 7) (de_int)) (da_cons (dv 6) da_nil))))))))) (pgn 2 sc_least_plan.nd))
    (dss_cons (ds_asg (g := (.nm 3)) (de_cell (dl_lst da_nil)) (pgn 3 sc_least_plan.nd))
    (dss_cons (ds_while PassesOwn.never (dt_cmp dop_gt (de_callB dc_len (by rfl) T.n_len bb_len (da_cons (dv 2) da_nil)) (de_int)) (dss_cons (ds_asg (g := (.nm 4)) (de_ix (de_ix (dv 2) (de_int)) (de_int)) (pgn 4 sc_least_plan.nd))
    (dss_cons (ds_asg (g := (.nm 5)) (de_cell (dl_slice (de_cell (dl_lc (by decide) rfl sc_least_plan.nd (own := [("last", 9), ("first", 10), ("place", 6)]) (g := (.tp [9, 10, 6])) (di_v (dv 2)) (blkOk_by (own := [("last", 9), ("first", 10), ("place", 6)]) (N := N_least_plan) (sc := defScope s_least_plan) (by decide +kernel)) (fun _ _ _ _ _ => (pg_tup rfl (pgs_cons (pgn 9 sc_least_plan.nd) (pgs_cons (pgn 10 sc_least_plan.nd) (pgs_cons (pgn 6 sc_least_plan.nd) pgs_nil))))) (fun _ _ _ _ _ => (dts_one (dt_cmp dop_le (dv 10) (dv 4)))) (fun _ _ _ _ _ => (dv 6)))) do_none (do_some (dv 0)))) (pgn 5 sc_least_plan.nd))
    (dss_cons (ds_expr (de_append (pe_bm PySem.F.plainAttrs_list PySem.F.slot_list_append PySem.F.type_list_append mt_append (dv 3) (pa_cons (de_tup (da_cons (dv 4) (da_cons (de_callTyM dc_tupM (by rfl) T.n_tuple bb_tuple (dm_l (dl_callBM dc_sortedT (by rfl) T.n_sorted bb_sorted (dm_e (dv 5))))) da_nil))) pa_nil))))
    (dss_one (ds_setLc (i := 2) (by decide) rfl sc_least_plan.nd rfl rfl (sw_true rfl rfl rfl (by decide +kernel)) (own := [("one", 8)]) (g := (.nm 8)) (di_v (dv 2)) (blkOk_by (own := [("one", 8)]) (N := N_least_plan) (sc := defScope s_least_plan) (by decide +kernel)) (fun _ _ _ _ _ => (pgn 8 sc_least_plan.nd)) (fun _ _ _ _ _ => (dts_one (dt_cmp1M (dop_notInM hr.u65) (de_ix (dv 8) (de_int)) (dm_e (dv 5))))) (fun _ _ _ _ _ => (dv 8))))))))
    (dss_one (ds_ret (de_callTyM dc_tupM (by rfl) T.n_tuple bb_tuple (dm_e (dv 3)))))))), ?rd⟩)
  case len => rintro ds W q Ed ⟨_, _, rfl, _⟩; rfl
  case rd =>
    rintro ds W q Ed ⟨m, ws, rfl, hm, ok, h⟩
    walk_at "rd"
    refine ⟨by rw [enumD_len, List.length_map]; have := ok.len; omega, ?_⟩
    rw [enumD_wD]
    refine lc_list (fun _ => true) (fun i : Nat => r3D ((pW ws i).2, (pW ws i).1, (i : Int))) ?_ ?_
    · rintro i N hi acc k1 k2
      simp! only [wD]
      exact k1 rfl
    have hrows : ((List.range ws.length).filter fun _ => true).map (fun i : Nat => r3D ((pW ws i).2, (pW ws i).1, (i : Int))) = (rowsW ws).map r3D := by
      rw [List.filter_eq_self.mpr fun _ _ => rfl]; unfold rowsW; rw [List.map_map]; rfl
    rw [hrows]
    refine sortT_rows ?_
    intro a f1 g1 b f2 g2
    obtain ⟨nba, f2'⟩ := dput_none f2
    refine ⟨fun k δ W' => ∃ (rs : List (List WRow)) (rest : List WRow) (c : Addr) (n : Nat) (v4 v5 v6 v7 v8 v9 v10 : Option D), k = rest.length ∧ rest.length ≤ n ∧ n ≤ 400 ∧ rs.length + n ≤ 400 ∧ RunI m ws rs rest ∧ rs.map (grR m) ++ runF m n rest = planF m ws ∧ Gr W W' ∧ c ≠ b ∧ W'.hp c = some (.lst (rest.map r3D)) ∧ W'.hp b = some (.lst ((rs.map (grR m)).map gD)) ∧ δ = [some (.int m), some (.tup (ws.map wD)), some (.ref c), some (.ref b), v4, v5, v6, v7, v8, v9, v10], ⟨_, [], restW ws, a, ws.length, _, _, _, _, _, _, _, rfl, by rw [restW_len]; exact Nat.le_refl _, ok.len, by have := ok.len; simpa using this, .start, rfl, (Gr.refl.put f1).put f2, Ne.symm nba, by simp_all! only [nba.symm], by walk_at "wh"; rfl, rfl⟩, ?_⟩
    rintro k δ W' ⟨rs, rest, c, n, v4, v5, v6, v7, v8, v9, v10, rfl, hn, hn4, hrn, ri, hpl, gr, ncb, y1, y2, rfl⟩
    cases rest with
    | nil =>
      have e0 : runF m n [] = [] := by cases n <;> rfl
      rw [e0, List.append_nil] at hpl
      simp! only [y1, y2]
      rw [hpl]; exact gr.sub h
    | cons r rest =>
      have hr0 : r.2.1 ≤ r.1 := by
        obtain ⟨h1, h2⟩ := ri.good.row r List.mem_cons_self
        have := ok.ok _ (pW_mem h1)
        rw [h2] at this; exact this.2.1
      have hnl := nx_len (m := m) (a := rest) hm hr0
      have hlen : (r :: rest).length = rest.length + 1 := rfl
      obtain ⟨n', rfl⟩ : ∃ n', n = n' + 1 := ⟨n - 1, by omega⟩
      have hpl' : rs.map (grR m) ++ grR m (r :: rest) :: runF m n' (nxR m (r :: rest)) = planF m ws := hpl
      have hat : atI ((r :: rest).map r3D) 0 = some (.tup [.int (tkR (r :: rest)), .int r.2.1, .int r.2.2]) := at_gs (L := r :: rest) (f := r3D) (x := 0) (by decide) rfl
      have ri' := ri.step (by simp)
      obtain ⟨R, hR⟩ : ∃ R, R = r :: rest := ⟨_, rfl⟩
      rw [← hR] at y1 hat hnl hlen hpl' ri' ri hn
      rw [← hR]
      have hpos : (0 < (R.length : Int)) = True := eq_true (by omega)
      simp! only [y1, y2, List.length_map, hpos, hat]
      have hR4 : R.length ≤ 1000000 := by omega
      refine ⟨hR4, ?_⟩
      refine lc_list (fun x : WRow => decide (x.2.1 ≤ tkR R)) (fun x => D.int x.2.2) ?_ ?_
      · rintro x N hx acc k1 k2
        simp! only [r3D, y1]
        refine ite2 (fun c => ?_) (fun c => ?_)
        · exact k1 (decide_eq_true c)
        · exact k2 (decide_eq_false c)
      have hch : cutD ((R.filter fun x : WRow => decide (x.2.1 ≤ tkR R)).map fun x => D.int x.2.2) none (some (m : Int)) = (plR m R).map D.int := by
        rw [cut_take, ← List.map_take]
        unfold plR chR
        rw [List.map_map]; rfl
      rw [hch]
      intro p1 f3 g3 p2 f4 g4
      have F3 := nws f3 g3
      have f4' := (dput_none f4).2
      have n43 := (dput_none f4).1
      have F4 := nws f4' g4
      have y1p : W'.hp p1 = none := f3
      generalize hch2 : (R.filter fun x : WRow => decide (x.2.1 ≤ tkR R)).map (fun x => D.int x.2.2) = ch2 at f4 f4' n43 ⊢
      dsimp! only [F3, F4, y1, y2]
      refine sortT_ints fun ns' hp hs => ?_
      rw [srtI_eq hp hs]
      dsimp! only [F3, F4, y1, y2, List.length_map, ncb]
      have hrs4 : rs.length ≤ 1000000 := by omega
      refine ⟨by simpa using hrs4, hR4, ?_⟩
      have hgD : List.map gD (List.map (grR m) rs) ++ [D.tup [D.int (tkR R), D.tup (List.map D.int (srtI (plR m R)))]] = ((rs ++ [R]).map (grR m)).map gD := by
        rw [List.map_append, List.map_append]; rfl
      rw [hgD]
      have gr2 := ((gr.put (o := .lst ch2) f3).put (o := .lst ((plR m R).map D.int)) f4).putn (a := b) (o := .lst (((rs ++ [R]).map (grR m)).map gD)) f2'
      have z1 : (((W'.put p1 (.lst ch2)).put p2 (.lst ((plR m R).map D.int))).put b (.lst (((rs ++ [R]).map (grR m)).map gD))).hp c = some (.lst (R.map r3D)) := by simp_all! only [F3, F4, y1, ncb]
      have z2 : (((W'.put p1 (.lst ch2)).put p2 (.lst ((plR m R).map D.int))).put b (.lst (((rs ++ [R]).map (grR m)).map gD))).hp p2 = some (.lst ((plR m R).map D.int)) := by simp_all! only [F3, F4, y2]
      have z3 : (((W'.put p1 (.lst ch2)).put p2 (.lst ((plR m R).map D.int))).put b (.lst (((rs ++ [R]).map (grR m)).map gD))).hp b = some (.lst (((rs ++ [R]).map (grR m)).map gD)) := dput_same
      generalize ((W'.put p1 (.lst ch2)).put p2 (.lst ((plR m R).map D.int))).put b (.lst (((rs ++ [R]).map (grR m)).map gD)) = W2 at z1 z2 z3 gr2 ⊢
      refine lc_list (fun x : WRow => !(plR m R).contains x.2.2) r3D ?_ ?_
      · rintro x N hx acc k1 k2
        have hmb : ∀ rf, memB rf (.int x.2.2) ((plR m R).map D.int) = some (decide (x.2.2 ∈ plR m R)) := fun rf => memB_int
        simp! only [r3D, z1, z2, hmb]
        refine ite2 (fun c => ?_) (fun c => ?_)
        · exact k1 (by simpa using c)
        · exact k2 (by simpa using c)
      · intro p f5 g5
        have F5 := nws f5 g5
        refine .here ⟨(nxR m R).length, by omega, rs ++ [R], nxR m R, p, n', _, _, _, _, _, _, _, rfl, by omega, by omega, by rw [List.length_append, List.length_singleton]; omega, ri', by rw [List.map_append, List.append_assoc]; exact hpl', gr2.put f5, ?_, ?_, ?_, rfl⟩
        · rintro rfl; rw [z3] at f5; cases f5
        · walk_at "wh"; rfl
        · simp_all! only [F5, z3]
def sp_is_full_by : DSp := fun ds W q _ => ∃ (m : Nat) (ws : List Win) (g : GrP) (last : Int), ds = [.int m, .tup (ws.map wD), gD g, .int last] ∧ g.2.length ≤ 1000 ∧ (∀ p ∈ g.2, 0 ≤ p ∧ p < ws.length) ∧ q (.bl (fullP m ws g last)) W
theorem ok_is_full_by (T : TX K mg) : FnOk P w K mg base CX0 1 T.a_is_full_by T.fd_is_full_by ["most", "windows", "great", "last"] (upSp K sp_is_full_by) := by
  refine okD T.F_is_full_by sc_is_full_by ?len (fun cdv A outer s H E hr => ⟨_, (dss_one (ds_ret (de_and (de_cmp (dop_eq hr.units) (de_callB dc_len (by rfl) T.n_len bb_len (da_cons (de_ix (dv 2) (de_int)) da_nil)) (dv 0)) (de_one (de_cmpLM (dop_eqNil hr.units) (dl_lc (by decide) rfl sc_is_full_by.nd (own := [("place", 4)]) (g := (.nm 4)) (di_t (de_ix (dv 2) (de_int))) (blkOk_by (own := [("place", 4)]) (N := N_is_full_by) (sc := defScope s_is_full_by) (by decide +kernel)) (fun _ _ _ _ _ => (pgn 4 sc_is_full_by.nd)) (fun _ _ _ _ _ => (dts_one (dt_cmp dop_gt (de_ix (de_ix (dv 1) (dv 4)) (de_int)) (dv 3)))) (fun _ _ _ _ _ => (dv 4))) (dm_l (dl_lst da_nil))))))), ?rd⟩)
  case len => rintro ds W q Ed ⟨_, _, _, _, rfl, _⟩; rfl
  case rd =>
    rintro ds W q Ed ⟨m, ws, g, last, rfl, hl, hg, h⟩
    simp! only [gD]
    refine ite2 (fun c => ⟨by rw [List.length_map]; omega, ?_⟩) (fun c => ?_)
    · refine lc_list (fun p => decide (last < (pW ws p).2)) (fun p => D.int p) ?_ ?_
      · rintro p N hp acc k1 k2
        obtain ⟨h0, h1⟩ := hg p hp
        simp! only [pW_get h0 h1, wD]
        refine ite2 (fun c => ?_) (fun c => ?_)
        · exact k1 (decide_eq_true c)
        · exact k2 (decide_eq_false c)
      · rw [← fullP_nil (m := m) (by rw [List.length_map] at c; omega)]
        exact .here h
    · have : fullP m ws g last = false := by
        unfold fullP
        rw [decide_eq_false (by rw [List.length_map] at c; omega), Bool.false_and]
      rw [this] at h
      exact .here h
def sp_paper_of : DSp := fun ds W q _ => ∃ (m : Nat) (ws : List Win) (P : List GrP), ds = [.int m, .tup (ws.map wD), .tup (P.map gD)] ∧ 1 ≤ m ∧ WsOk ws ∧ P.length ≤ 400 ∧ PlanG m ws P ∧ q (.tup ((papF m ws P).map wD)) W
theorem ok_paper_of (T : TX K mg) : FnOk P w K mg base CX0 2 T.a_paper_of T.fd_paper_of ["most", "windows", "plan"] (upSp K sp_paper_of) := by
  refine okD T.F_paper_of sc_paper_of ?len (fun cdv A outer s H E hr => ⟨_, (dss_cons (ds_asg (g := (.nm 3)) (de_cell (dl_lst da_nil)) (pgn 3 sc_paper_of.nd))
    (dss_cons (ds_asg (g := (.nm 4)) (de_callB dc_len (by rfl) T.n_len bb_len (da_cons (dv 2) da_nil)) (pgn 4 sc_paper_of.nd))
    (dss_cons (ds_while PassesOwn.never (dt_cmp dop_gt (dv 4) (de_int)) (dss_cons (ds_asg (g := (.nm 5)) (de_ix (de_ix (dv 2) (de_op dop_sub (dv 4) (de_int))) (de_int)) (pgn 5 sc_paper_of.nd))
    (dss_cons (ds_asg (g := (.nm 6)) (de_op dop_sub (dv 4) (de_int)) (pgn 6 sc_paper_of.nd))
    (dss_cons (ds_while PassesOwn.never (dt_w (dw_and (dt_cmp dop_gt (dv 6) (de_int)) (dw_and1 (dt_val (de_call (ok_is_full_by T) (hr.mono (by decide)) (by rfl) T.m_is_full_by T.F_is_full_by.kp T.b_is_full_by pass0 (da_cons (dv 0) (da_cons (dv 1) (da_cons (de_ix (dv 2) (de_op dop_sub (dv 6) (de_int))) (da_cons (dv 5) da_nil))))))))) (dss_one (ds_asg (g := (.nm 6)) (de_op dop_sub (dv 6) (de_int)) (pgn 6 sc_paper_of.nd))))
    (dss_cons (ds_asg (g := (.nm 7)) (de_int) (pgn 7 sc_paper_of.nd))
    (dss_cons (ds_if (dt_cmp dop_gt (dv 6) (de_int)) (dss_one (ds_asg (g := (.nm 7)) (de_op dop_add (de_ix (de_ix (dv 2) (de_op dop_sub (dv 6) (de_int))) (de_int)) (de_int)) (pgn 7 sc_paper_of.nd))) dss_nil)
    (dss_cons (ds_expr (de_append (pe_bm PySem.F.plainAttrs_list PySem.F.slot_list_append PySem.F.type_list_append mt_append (dv 3) (pa_cons (de_tup (da_cons (dv 7) (da_cons (dv 5) da_nil))) pa_nil))))
    (dss_one (ds_asg (g := (.nm 4)) (dv 6) (pgn 4 sc_paper_of.nd))))))))))
    (dss_one (ds_ret (de_tuprev rfl (by rfl) T.n_tuple (by rfl) T.n_reversed (dm_e (dv 3)))))))), ?rd⟩)
  case len => rintro ds W q Ed ⟨_, _, _, rfl, _⟩; rfl
  case rd =>
    rintro ds W q Ed ⟨m, ws, P, rfl, hm, ok, hl, hP, h⟩
    walk_at "rd"
    intro a f1 g1
    refine ⟨fun k δ W' => ∃ (sp : List Win) (f : Nat) (v5 v6 v7 : Option D), k ≤ f ∧ f + sp.length ≤ 400 ∧ PapI m ws P sp k ∧ sp ++ papR m ws P f k = papR m ws P P.length P.length ∧ W' = W.put a (.lst (sp.map wD)) ∧ δ = [some (.int m), some (.tup (ws.map wD)), some (.tup (P.map gD)), some (.ref a), some (.int (k : Int)), v5, v6, v7], ⟨P.length, [], P.length, _, _, _, Nat.le_refl _, hl, .start, rfl, rfl, by rw [List.length_map]⟩, ?_⟩
    rintro k δ W' ⟨sp, f, v5, v6, v7, hk, hf, i, hp, rfl, rfl⟩
    cases k with
    | zero =>
      have e0 : papR m ws P f 0 = [] := by cases f <;> rfl
      rw [e0, List.append_nil] at hp
      walk_at "rdw"
      rw [← List.map_reverse, hp]
      exact (Gr.refl.put f1).sub h
    | succ k =>
      have hkl : k < P.length := i.le
      have i' := i.go hm hP
      have ha := ahead_le (m := m) (ws := ws) (P := P) (last := (atG P k).1) k
      obtain ⟨f', rfl⟩ : ∃ f', f = f' + 1 := ⟨f - 1, by omega⟩
      have hp' : sp ++ [spanP m ws P k] ++ papR m ws P f' (aheadF m ws P (atG P k).1 k) = papR m ws P P.length P.length := by
        rw [List.append_assoc]; exact hp
      have hpos : (0 < (((k + 1 : Nat) : Int))) = True := eq_true (by omega)
      have e1 : ((k + 1 : Nat) : Int) - 1 = (k : Int) := by omega
      dsimp! only [hpos, e1, atG_at hkl, gD]
      refine ⟨fun j δ W' => j ≤ k ∧ aheadF m ws P (atG P k).1 j = aheadF m ws P (atG P k).1 k ∧ W' = W.put a (.lst (sp.map wD)) ∧ δ = [some (.int m), some (.tup (ws.map wD)), some (.tup (P.map gD)), some (.ref a), some (.int (k + 1 : Nat)), some (.int (atG P k).1), some (.int (j : Int)), v7], ⟨k, Nat.le_refl _, rfl, rfl, rfl⟩, ?_⟩
      rintro j δ W' ⟨hj, he, rfl, rfl⟩
      cases j with
      | zero =>
        have e0 : aheadF m ws P (atG P k).1 k = 0 := he.symm
        have hs : spanP m ws P k = (0, (atG P k).1) := by unfold spanP; rw [e0]; rfl
        rw [e0, hs] at i' hp'
        walk_at "rdw"
        refine ⟨by rw [List.length_map]; omega, .here ⟨0, by omega, sp ++ [(0, (atG P k).1)], f', _, _, _, by omega, by rw [List.length_append, List.length_singleton]; omega, i', hp', by rw [List.map_append]; rfl, rfl⟩⟩
      | succ j =>
        have hjl : j < P.length := by omega
        have hpos2 : (0 < (((j + 1 : Nat) : Int))) = True := eq_true (by omega)
        have e2 : ((j + 1 : Nat) : Int) - 1 = (j : Int) := by omega
        dsimp! only [hpos2, e2, atG_at hjl]
        have hgl := hP.gl (atG_mem hjl)
        have hwl := ok.len
        refine ⟨m, ws, atG P j, _, rfl, by omega, hP.pl (atG_mem hjl), ?_⟩
        dsimp! only [hpos2, e2, atG_at hjl, gD]
        refine ite2 (fun c => .here ⟨j, by omega, by omega, ?_, rfl, rfl⟩) (fun c => ?_)
        · rw [aheadF, if_pos c] at he; exact he
        · rw [aheadF, if_neg c] at he
          have hs : spanP m ws P k = ((atG P j).1 + 1, (atG P k).1) := by
            unfold spanP; rw [← he]; unfold firstP; rw [if_neg (by omega), Nat.add_sub_cancel]
          rw [← he, hs] at i' hp'
          refine ⟨by rw [List.length_map]; omega, .here ⟨j + 1, by omega, sp ++ [((atG P j).1 + 1, (atG P k).1)], f', _, _, _, by omega, by rw [List.length_append, List.length_singleton]; omega, i', hp', by rw [List.map_append]; rfl, rfl⟩⟩
def sp_least : DSp := fun ds W q _ => ∃ (m : Nat) (ws : List Win), ds = [.int m, .tup (ws.map wD)] ∧ 1 ≤ m ∧ WsOk ws ∧ q (.tup [.tup ((planF m ws).map gD), .tup ((papF m ws (planF m ws)).map wD)]) W
theorem ok_least (T : TX K mg) : FnOk P w K mg base CX0 3 T.a_least T.fd_least ["most", "windows"] (upSp K sp_least) := by
  refine okD T.F_least sc_least ?len (fun cdv A outer s H E hr => ⟨_, (dss_cons (ds_asg (g := (.nm 2)) (de_call (ok_least_plan T) (hr.mono (by decide)) (by rfl) T.m_least_plan T.F_least_plan.kp T.b_least_plan pass0 (da_cons (dv 0) (da_cons (dv 1) da_nil))) (pgn 2 sc_least.nd))
    (dss_one (ds_ret (de_tup (da_cons (dv 2) (da_cons (de_call (ok_paper_of T) (hr.mono (by decide)) (by rfl) T.m_paper_of T.F_paper_of.kp T.b_paper_of pass0 (da_cons (dv 0) (da_cons (dv 1) (da_cons (dv 2) da_nil)))) da_nil)))))), ?rd⟩)
  case len => rintro ds W q Ed ⟨_, _, rfl, _⟩; rfl
  case rd =>
    rintro ds W q Ed ⟨m, ws, rfl, hm, ok, h⟩
    walk_at "rd"
    obtain ⟨p1, p2⟩ := planF_ok hm ok
    have hl := ok.len
    refine ⟨m, ws, rfl, hm, ok, ?_⟩
    walk_at "rd"
    exact ⟨m, ws, planF m ws, rfl, hm, ok, by omega, p1, .here h⟩
def sp__law_int : DSp := fun ds W q _ => match ds with
  | [x, .int l, .int m] => shown W x ∧ q (.bl (isNumD x l m)) W
  | _ => False
theorem ok__law_int (T : TX K mg) : FnOk P w K mg base CX0 1 T.a__law_int T.fd__law_int ["_law_thing", "_law_low", "_law_high"] (upSp K sp__law_int) := by
  refine okD T.F__law_int sc__law_int ?len (fun cdv A outer s H E hr => ⟨_, (dss_one (ds_ret (de_and (de_callB dc_isi (by rfl) T.n_isinstance bb_isinstance (da_cons (dv 0) (da_cons (de_bltn (d := .ty "int") (v := .ty "int") (u := .type "int") (by rfl) T.n_int bb_int rfl (fun _ => rfl)) da_nil))) (de_and (de_not (de_callB dc_isi (by rfl) T.n_isinstance bb_isinstance (da_cons (dv 0) (da_cons (de_bltn (d := .ty "bool") (v := .ty "bool") (u := .type "bool") (by rfl) T.n_bool bb_bool rfl (fun _ => rfl)) da_nil)))) (de_one (de_chain dop_le dop_le (dv 1) (dv 0) (dv 2))))))), ?rd⟩)
  case len => intro ds W q Ed h; unfold sp__law_int at h; split at h <;> first | rfl | exact h.elim
  case rd =>
    intro ds W q Ed h
    unfold sp__law_int at h
    split at h
    · rename_i x l m
      obtain ⟨hs, h⟩ := h
      cases x with
      | ref a =>
        simp! only [isi_ref hs (.inl rfl)]
        exact .here h
      | ty t => exact absurd hs shown_ty
      | int i =>
        walk_at "rd"
        refine ite2 (fun c => .here ?_) (fun c => .here ?_)
        · rwa [isNumD, decide_eq_true c, Bool.true_and] at h
        · rwa [isNumD, decide_eq_false c, Bool.false_and] at h
      | _ =>
        walk_at "rd"
        exact .here h
    · exact h.elim
def sp__law_is_plan : DSp := fun ds W q _ => ∃ (m : Nat) (ws : List Win) (P : List GrP), ds = [.int m, .tup (ws.map wD), .tup (P.map gD)] ∧ ws.length ≤ 400 ∧ PlanG m ws P ∧ q (.bl true) W
theorem ok__law_is_plan (T : TX K mg) : FnOk P w K mg base CX0 2 T.a__law_is_plan T.fd__law_is_plan ["_law_most", "_law_windows_here", "_law_thing"] (upSp K sp__law_is_plan) := by
  refine okD T.F__law_is_plan sc__law_is_plan ?len (fun cdv A outer s H E hr => ⟨_, (dss_cons (ds_if (dt_not (dt_val (de_callB dc_isi (by rfl) T.n_isinstance bb_isinstance (da_cons (dv 2) (da_cons (de_bltn (d := .ty "tuple") (v := .ty "tuple") (u := .type "tuple") (by rfl) T.n_tuple bb_tuple rfl (fun _ => rfl)) da_nil))))) (dss_one (ds_ret (de_bl))) dss_nil)
    (dss_cons (ds_asg (g := (.nm 3)) (de_cell (dl_listR1 (by rfl) T.n_list (by rfl) T.n_range (de_callB dc_len (by rfl) T.n_len bb_len (da_cons (dv 1) da_nil)))) (pgn 3 sc__law_is_plan.nd))
    (dss_cons (ds_asg (g := (.nm 4)) (de_int) (pgn 4 sc__law_is_plan.nd))
    (dss_cons (ds_for (g := (.nm 5)) PassesOwn.never rfl (di_t (dv 2)) (pgn 5 sc__law_is_plan.nd) (dss_cons (ds_if (dt_w (dw_or (dt_not (dt_val (de_callB dc_isi (by rfl) T.n_isinstance bb_isinstance (da_cons (dv 5) (da_cons (de_bltn (d := .ty "tuple") (v := .ty "tuple") (u := .type "tuple") (by rfl) T.n_tuple bb_tuple rfl (fun _ => rfl)) da_nil))))) (dw_or (dt_cmp (dop_ne hr.units) (de_callB dc_len (by rfl) T.n_len bb_len (da_cons (dv 5) da_nil)) (de_int)) (dw_or1 (dt_not (dt_val (de_callB dc_isi (by rfl) T.n_isinstance bb_isinstance (da_cons (de_ix (dv 5) (de_int)) (da_cons (de_bltn (d := .ty "tuple") (v := .ty "tuple") (u := .type "tuple") (by rfl) T.n_tuple bb_tuple rfl (fun _ => rfl)) da_nil))))))))) (dss_one (ds_ret (de_bl))) dss_nil)
    (dss_cons (ds_if (dt_w (dw_or (dt_not (dt_val (de_call (ok__law_int T) (hr.mono (by decide)) (by rfl) T.m__law_int T.F__law_int.kp T.b__law_int pass0 (da_cons (de_ix (dv 5) (de_int)) (da_cons (dv 4) (da_cons (de_op dop_pow (de_int) (de_int)) da_nil)))))) (dw_or (dt_cmp dop_lt (de_callB dc_len (by rfl) T.n_len bb_len (da_cons (de_ix (dv 5) (de_int)) da_nil)) (de_int)) (dw_or1 (dt_cmp dop_gt (de_callB dc_len (by rfl) T.n_len bb_len (da_cons (de_ix (dv 5) (de_int)) da_nil)) (dv 0)))))) (dss_one (ds_ret (de_bl))) dss_nil)
    (dss_cons (ds_asg (g := (.nm 4)) (de_ix (dv 5) (de_int)) (pgn 4 sc__law_is_plan.nd))
    (dss_cons (ds_asg (g := (.nm 6)) (de_un dun_neg (de_int)) (pgn 6 sc__law_is_plan.nd))
    (dss_one (ds_for (g := (.nm 7)) PassesOwn.never rfl (di_t (de_ix (dv 5) (de_int))) (pgn 7 sc__law_is_plan.nd) (dss_cons (ds_if (dt_w (dw_or (dt_not (dt_val (de_call (ok__law_int T) (hr.mono (by decide)) (by rfl) T.m__law_int T.F__law_int.kp T.b__law_int pass0 (da_cons (dv 7) (da_cons (de_op dop_add (dv 6) (de_int)) (da_cons (de_op dop_sub (de_callB dc_len (by rfl) T.n_len bb_len (da_cons (dv 1) da_nil)) (de_int)) da_nil)))))) (dw_or1 (dt_cmp1M (dop_notInM hr.u65) (dv 7) (dm_e (dv 3)))))) (dss_one (ds_ret (de_bl))) dss_nil)
    (dss_cons (ds_if (dt_w (dw_or (dt_cmp dop_gt (de_ix (de_ix (dv 1) (dv 7)) (de_int)) (dv 4)) (dw_or1 (dt_cmp dop_lt (de_ix (de_ix (dv 1) (dv 7)) (de_int)) (dv 4))))) (dss_one (ds_ret (de_bl))) dss_nil)
    (dss_cons (ds_expr (de_remove (pe_bm PySem.F.plainAttrs_list PySem.F.slot_list_remove PySem.F.type_list_remove (mt_removeD hr.u65) (dv 3) (pa_cons (dv 7) pa_nil))))
    (dss_one (ds_asg (g := (.nm 6)) (dv 7) (pgn 6 sc__law_is_plan.nd)))))))))))))
    (dss_one (ds_ret (de_cmpVM (dop_eqNil hr.units) (dv 3) (dm_l (dl_lst da_nil))))))))), ?rd⟩)
  case len => rintro ds W q Ed ⟨_, _, _, rfl, _⟩; rfl
  case rd =>
    rintro ds W q Ed ⟨m, ws, P, rfl, hl, hP, h⟩
    walk_at "rd"
    refine ⟨⟨by decide, by decide, by rw [List.length_map]; omega, by rw [List.length_map]; omega⟩, fun a f1 g1 => ?_⟩
    refine for_by (fun r δ W' => ∃ (A B : List GrP) (left : List Int) (bef : Int) (v5 v6 v7 : Option D), P = A ++ B ∧ r = B.map gD ∧ left.Perm (B.flatMap (·.2)) ∧ (∀ g ∈ B, bef ≤ g.1) ∧ W' = W.put a (.lst (left.map D.int)) ∧ δ = [some (.int m), some (.tup (ws.map wD)), some (.tup (P.map gD)), some (.ref a), some (.int bef), v5, v6, v7]) ⟨[], P, (List.range ws.length).map fun i : Nat => (i : Int), 0, _, _, _, rfl, rfl, hP.all.symm, fun g hg => (hP.rng g hg).1, ?_, rfl⟩ ?_ ?_
    · rw [List.length_map, Int.sub_zero, Int.toNat_natCast]
      unfold upto
      rw [List.map_map]
      congr 2
      apply List.map_congr_left
      intro i _
      show D.int (0 + (i : Int)) = D.int (i : Int)
      rw [Int.zero_add]
    · rintro x r δ W' N ⟨A, B, left, bef, v5, v6, v7, e1, e2, hpm, hbf, rfl, rfl⟩ kk
      cases B with
      | nil => cases e2
      | cons g B =>
        cases e2
        have hg : g ∈ P := by rw [e1]; simp
        dsimp! only [gD]
        have hrg := hP.rng g hg
        have hb1 := hbf g List.mem_cons_self
        have hne : g.2.length ≠ 0 := by
          obtain ⟨y, hy, _⟩ := hP.head g hg
          have := List.length_pos_of_mem hy
          omega
        have hgm := hP.len g hg
        have hrise := hP.rise g hg
        have hpl := hP.pl hg
        have hho := hP.hold g hg
        have hmo : ∀ g' ∈ B, g.1 ≤ g'.1 := fun g' hg' => by
          have := hP.mono
          rw [e1] at this
          exact (List.pairwise_cons.mp (List.pairwise_append.mp this).2.1).1 g' hg'
        refine ⟨shown_int, ?_⟩
        rw [isNum_t hb1 hrg.2]
        dsimp! only [List.length_map]
        rw [if_neg (by omega), if_neg (by omega)]
        refine for_by (fun r δ W' => ∃ (X Y left : List Int) (last : Int) (v7 : Option D), g.2 = X ++ Y ∧ r = Y.map D.int ∧ left.Perm (Y ++ B.flatMap (·.2)) ∧ -1 ≤ last ∧ (∀ y ∈ Y, last + 1 ≤ y) ∧ W' = W.put a (.lst (left.map D.int)) ∧ δ = [some (.int m), some (.tup (ws.map wD)), some (.tup (P.map gD)), some (.ref a), some (.int g.1), some (.tup [.int g.1, .tup (g.2.map D.int)]), some (.int last), v7]) ⟨[], g.2, left, -1, _, rfl, rfl, hpm, by decide, fun y hy => by have := (hpl y hy).1; omega, rfl, rfl⟩ ?_ ?_
        · rintro x r δ W' N2 ⟨X, Y, left, last, v7, e3, e4, hpm, hl0, hla, rfl, rfl⟩ k2
          cases Y with
          | nil => cases e4
          | cons y Y =>
            cases e4
            have hy : y ∈ g.2 := by rw [e3]; simp
            have hy1 := hpl y hy
            have hy2 := hho y hy
            have hyl : y ∈ left := hpm.mem_iff.mpr (by simp)
            have hmb : ∀ rf, memB rf (.int y) (left.map D.int) = some true := fun rf => by rw [memB_int, decide_eq_true hyl]
            have hrs : ∀ z ∈ Y, y < z := fun z hz => by
              rw [e3] at hrise
              exact (List.pairwise_cons.mp (List.pairwise_append.mp hrise).2.1).1 z hz
            walk_at "rdw"
            refine ⟨shown_int, ?_⟩
            rw [isNum_t (hla y List.mem_cons_self) (by rw [List.length_map]; omega)]
            dsimp! only [hmb, pW_get hy1.1 hy1.2, wD, gt_false hy2.1, gt_false hy2.2]
            refine rm_int hyl ?_
            walk_at "rdw"
            refine .here (k2 _ _ ⟨X ++ [y], Y, left.erase y, y, _, by rw [e3, List.append_assoc]; rfl, rfl, ?_, by omega, fun z hz => by have := hrs z hz; omega, rfl, rfl⟩)
            have := hpm.erase y
            rw [List.cons_append, List.erase_cons_head] at this
            exact this
        · rintro δ W' ⟨X, Y, left, last, v7, e3, e4, hpm, hl0, hla, rfl, rfl⟩
          cases Y with
          | cons y Y => cases e4
          | nil =>
            exact .here (kk _ _ ⟨A ++ [g], B, left, g.1, _, _, _, by rw [e1, List.append_assoc]; rfl, rfl, hpm, hmo, rfl, rfl⟩)
    · rintro δ W' ⟨A, B, left, bef, v5, v6, v7, e1, e2, hpm, hbf, rfl, rfl⟩
      cases B with
      | cons g B => cases e2
      | nil =>
        have : left = [] := hpm.eq_nil
        subst this
        walk_at "rdw"
        exact (Gr.refl.put f1).sub h
def sp__law_tick : DSp := fun ds W q _ => ∃ (p : Addr) (n : Nat) (ws : List Win) (w : Win) (late : Bool), ds = [.ref p, .tup (ws.map wD), wD w, .bl late] ∧ W.hid p = some (.law n) ∧ n < 2 ^ 58 ∧ WsOk ws ∧ w ∈ ws ∧
  ∀ (t : Int) (n' : Nat), w.1 ≤ t → t ≤ w.2 → n' ≤ n + 1 → q (.int t) (W.hide p (.law n'))
theorem ok__law_tick (T : TX K mg) : FnOk P w K mg base CX0 2 T.a__law_tick T.fd__law_tick ["_law_state", "_law_windows_here", "_law_window", "_law_late"] (upSp K sp__law_tick) := by
  refine okD T.F__law_tick sc__law_tick ?len (fun cdv A outer s H E hr => ⟨_, (dss_cons (ds_if (dt_val (dv 3)) (dss_cons (ds_asg (g := (.nm 4)) (de_cell (dl_callBM dc_sortedT (by rfl) T.n_sorted bb_sorted (dm_l (dl_lc (by decide) rfl sc__law_tick.nd (own := [("_law_other", 5)]) (g := (.nm 5)) (di_t (dv 1)) (blkOk_by (own := [("_law_other", 5)]) (N := N__law_tick) (sc := defScope s__law_tick) (by decide +kernel)) (fun _ _ _ _ _ => (pgn 5 sc__law_tick.nd)) (fun _ _ _ _ _ => (dts_one (dt_chain dop_le dop_le (de_ix (dv 2) (de_int)) (de_ix (dv 5) (de_int)) (de_ix (dv 2) (de_int))))) (fun _ _ _ _ _ => (de_ix (dv 5) (de_int))))))) (pgn 4 sc__law_tick.nd))
    (dss_one (ds_ret (de_ix (dv 4) (de_int))))) dss_nil)
    (dss_one (ds_ret (de_op dop_add (de_ix (dv 2) (de_int)) (de_call (ok__law_pick T) (hr.mono (by decide)) (by rfl) T.m__law_pick T.F__law_pick.kp T.b__law_pick pass0 (da_cons (dv 0) (da_cons (de_op dop_add (de_op dop_sub (de_ix (dv 2) (de_int)) (de_ix (dv 2) (de_int))) (de_int)) da_nil))))))), ?rd⟩)
  case len => rintro ds W q Ed ⟨_, _, _, _, _, rfl, _⟩; rfl
  case rd =>
    rintro ds W q Ed ⟨p, n, ws, w, late, rfl, hp, hn, ok, hw, h⟩
    simp! only [wD, hp]
    have hw1 := ok.ok w hw
    have hl := ok.len
    refine ite2 (fun c => ⟨by rw [List.length_map]; omega, ?_⟩) (fun c => ⟨by omega, by omega, by omega, fun r q0 z0 => .here (h _ _ (by omega) (by omega) (Nat.le_refl _))⟩)
    refine lc_list (fun x => decide (w.1 ≤ x.2) && decide (x.2 ≤ w.2)) (fun x => D.int x.2) ?_ ?_
    · rintro x N hx acc k1 k2
      simp! only [wD]
      refine ite2 (fun c => ite2 (fun c2 => ?_) (fun c2 => ?_)) (fun c => ?_)
      · exact k1 (by rw [decide_eq_true c, decide_eq_true c2]; rfl)
      · exact k2 (by rw [decide_eq_false c2, Bool.and_false])
      · exact k2 (by rw [decide_eq_false c, Bool.false_and])
    have hm : (ws.filter fun x => decide (w.1 ≤ x.2) && decide (x.2 ≤ w.2)).map (fun x => D.int x.2) = ((ws.filter fun x => decide (w.1 ≤ x.2) && decide (x.2 ≤ w.2)).map fun x => x.2).map D.int := by rw [List.map_map]; rfl
    rw [hm]
    refine sortT_ints fun ns' hpm hs => ?_
    intro a f1 g1
    cases ns' with
    | nil =>
      have h2 : w.2 ∈ (ws.filter fun x => decide (w.1 ≤ x.2) && decide (x.2 ≤ w.2)).map fun x => x.2 := List.mem_map.mpr ⟨w, List.mem_filter.mpr ⟨hw, by rw [decide_eq_true hw1.2.1, decide_eq_true (Int.le_refl _)]; rfl⟩, rfl⟩
      exact absurd (hpm.mem_iff.mpr h2) List.not_mem_nil
    | cons t ns' =>
      have ht : t ∈ (ws.filter fun x => decide (w.1 ≤ x.2) && decide (x.2 ≤ w.2)).map fun x => x.2 := hpm.mem_iff.mp List.mem_cons_self
      obtain ⟨x, hx, rfl⟩ := List.mem_map.mp ht
      have hx2 := (List.mem_filter.mp hx).2
      rw [Bool.and_eq_true, decide_eq_true_eq, decide_eq_true_eq] at hx2
      have hat : atI ((x.2 :: ns').map D.int) 0 = some (.int x.2) := at_gs (L := x.2 :: ns') (f := D.int) (x := 0) (by decide) rfl
      rw [hat]
      have := h x.2 n hx2.1 hx2.2 (by omega)
      rw [hide_self hp] at this
      exact (Gr.refl.put f1).sub this
def sp__law_plan : DSp := fun ds W q _ => ∃ (p : Addr) (n m : Nat) (ws : List Win) (late : Bool), ds = [.ref p, .int m, .tup (ws.map wD), .bl late] ∧ W.hid p = some (.law n) ∧ n < 2 ^ 57 ∧ WsOk ws ∧ 1 ≤ m ∧ m ≤ 1000 ∧
  ∀ (P : List GrP) (n' : Nat), PlanOk m ws P → P.length ≤ ws.length → n' ≤ n + 2 * ws.length → q (.tup (P.map gD)) (W.hide p (.law n'))
theorem ok__law_plan (T : TX K mg) : FnOk P w K mg base CX0 3 T.a__law_plan T.fd__law_plan ["_law_state", "_law_most", "_law_windows_here", "_law_late"] (upSp K sp__law_plan) := by
  refine okD T.F__law_plan sc__law_plan ?len (fun cdv A outer s H E hr => ⟨_, (dss_cons (ds_asg (g := (.nm 4)) (de_cell (dl_lc (by decide) rfl sc__law_plan.nd (own := [("_law_window", 9)]) (g := (.nm 9)) (di_t (dv 2)) (blkOk_by (own := [("_law_window", 9)]) (N := N__law_plan) (sc := defScope s__law_plan) (by decide +kernel)) (fun _ _ _ _ _ => (pgn 9 sc__law_plan.nd)) (fun _ _ _ _ _ => dts_nil) (fun _ _ _ _ _ => (de_call (ok__law_tick T) (hr.mono (by decide)) (by rfl) T.m__law_tick T.F__law_tick.kp T.b__law_tick pass0 (da_cons (dv 0) (da_cons (dv 2) (da_cons (dv 9) (da_cons (dv 3) da_nil)))))))) (pgn 4 sc__law_plan.nd))
    (dss_cons (ds_asg (g := (.nm 5)) (de_cell (dl_lst da_nil)) (pgn 5 sc__law_plan.nd))
    (dss_cons (ds_for (g := (.nm 6)) PassesOwn.never rfl (di_l (dl_sortSet (by rfl) T.n_sorted (by rfl) T.n_set (dm_e (dv 4)))) (pgn 6 sc__law_plan.nd) (dss_cons (ds_setLc (i := 7) (by decide) rfl sc__law_plan.nd rfl rfl (sw_true rfl rfl rfl (by decide +kernel)) (own := [("_law_place", 10)]) (g := (.nm 10)) (di_r1 (by rfl) T.n_range (da_cons (de_callB dc_len (by rfl) T.n_len bb_len (da_cons (dv 2) da_nil)) da_nil)) (blkOk_by (own := [("_law_place", 10)]) (N := N__law_plan) (sc := defScope s__law_plan) (by decide +kernel)) (fun _ _ _ _ _ => (pgn 10 sc__law_plan.nd)) (fun _ _ _ _ _ => (dts_one (dt_cmp (dop_eq hr.units) (de_ix (dv 4) (dv 10)) (dv 6)))) (fun _ _ _ _ _ => (dv 10)))
    (dss_one (ds_while PassesOwn.never (dt_cmp dop_gt (de_callB dc_len (by rfl) T.n_len bb_len (da_cons (dv 7) da_nil)) (de_int)) (dss_cons (ds_asg (g := (.nm 8)) (de_ixl (dl_lst (da_cons (de_op dop_add (de_int) (de_call (ok__law_pick T) (hr.mono (by decide)) (by rfl) T.m__law_pick T.F__law_pick.kp T.b__law_pick pass0 (da_cons (dv 0) (da_cons (de_callB (dc_min rfl) (by rfl) T.n_min bb_min (da_cons (dv 1) (da_cons (de_callB dc_len (by rfl) T.n_len bb_len (da_cons (dv 7) da_nil)) da_nil))) da_nil)))) (da_cons (dv 1) da_nil))) (de_callTy dc_int (by rfl) T.n_int bb_int (da_cons (dv 3) da_nil))) (pgn 8 sc__law_plan.nd))
    (dss_cons (ds_expr (de_append (pe_bm PySem.F.plainAttrs_list PySem.F.slot_list_append PySem.F.type_list_append mt_append (dv 5) (pa_cons (de_tup (da_cons (dv 6) (da_cons (de_callTyM dc_tupM (by rfl) T.n_tuple bb_tuple (dm_l (dl_slice (dv 7) do_none (do_some (dv 8))))) da_nil))) pa_nil))))
    (dss_one (ds_asg (g := (.nm 7)) (de_cell (dl_slice (dv 7) (do_some (dv 8)) do_none)) (pgn 7 sc__law_plan.nd)))))))))
    (dss_one (ds_ret (de_callTyM dc_tupM (by rfl) T.n_tuple bb_tuple (dm_e (dv 5)))))))), ?rd⟩)
  case len => rintro ds W q Ed ⟨_, _, _, _, _, rfl, _⟩; rfl
  case rd =>
    rintro ds W q Ed ⟨p, n, m, ws, late, rfl, hp, hn, ok, m1, m2, h⟩
    simp! only [hp]
    have hl := ok.len
    refine ⟨by rw [List.length_map]; omega, ?_⟩
    refine lc_by (fun items acc W' => ∃ (s t : List Win) (tk : List Int) (n' : Nat), ws = s ++ t ∧ items = t.map wD ∧ acc = tk.map D.int ∧ tk.length = s.length ∧ (∀ i t, tk[i]? = some t → (pW ws (i : Nat)).1 ≤ t ∧ t ≤ (pW ws (i : Nat)).2) ∧ n' ≤ n + s.length ∧ W' = W.hide p (.law n')) ⟨[], ws, [], n, rfl, rfl, rfl, rfl, fun i t e => by simp at e, Nat.le_refl _, (hide_self hp).symm⟩ ?_ ?_
    · rintro z rr acc W' Nx ⟨s, t, tk, n', e1, e2, rfl, e4, e5, e6, rfl⟩ kx
      cases t with
      | nil => cases e2
      | cons w t =>
        cases e2
        have hsl : s.length < ws.length := by rw [e1, List.length_append, List.length_cons]; omega
        have hpw : pW ws (s.length : Nat) = w := by
          unfold pW
          rw [Int.toNat_natCast, e1, List.getElem?_append_right (Nat.le_refl _), Nat.sub_self]; rfl
        walk_at "rdw"
        refine ⟨p, n', ws, w, late, rfl, hset_same, by omega, ok, by rw [e1]; simp, fun x n2 b1 b2 b3 => ?_⟩
        walk_at "rdw"
        refine kx _ _ ⟨s ++ [w], t, tk ++ [x], n2, by rw [e1, List.append_assoc]; rfl, rfl, by rw [List.map_append]; rfl, by rw [List.length_append, List.length_append, e4]; rfl, fun i y ey => ?_, by rw [List.length_append, List.length_singleton]; omega, rfl⟩
        by_cases c : i < tk.length
        · rw [List.getElem?_append_left c] at ey
          exact e5 i y ey
        · rw [List.getElem?_append_right (by omega)] at ey
          have hi : i - tk.length = 0 := by
            cases q : i - tk.length with
            | zero => rfl
            | succ k => rw [q] at ey; simp at ey
          rw [hi] at ey
          have hi2 : i = s.length := by omega
          subst hi2
          cases ey
          rw [hpw]; exact ⟨b1, b2⟩
    rintro acc W' ⟨s, t, tks, n1, e1, e2, rfl, e4, e5, e6, rfl⟩
    cases t with
    | cons w t => cases e2
    | nil =>
      rw [List.append_nil] at e1
      subst e1
      have tok : TkOk ws tks := ⟨e4, e5⟩
      intro a f1 g1 b f2 g2
      have npa := (hset_none g1).1
      have g1' := (hset_none g1).2
      obtain ⟨nba, f2'⟩ := dput_none f2
      have npb := (hset_none g2).1
      have F1 := nws f1 g1
      dsimp! only [F1, nba.symm]
      refine ⟨tks, rfl, by omega, fun Ts hT hmem => ?_⟩
      have hTn : Ts.Nodup := hT.imp fun {x y} h e => by omega
      refine for_by (fun r δ W' => ∃ (T1 T2 : List Int) (P : List GrP) (n' : Nat) (v6 v7 v8 v9 v10 : Option D), Ts = T1 ++ T2 ∧ r = T2.map D.int ∧ LPl m ws tks T1 P [] ∧ n' ≤ n + ws.length + P.length ∧ Gr (W.hide p (.law n')) W' ∧ W'.hp a = some (.lst (tks.map D.int)) ∧ W'.hp b = some (.lst (P.map gD)) ∧ δ = [some (.ref p), some (.int m), some (.tup (ws.map wD)), some (.bl late), some (.ref a), some (.ref b), v6, v7, v8, v9, v10]) ⟨[], Ts, [], n1, _, _, _, _, _, rfl, rfl, .start, by simpa using e6, (Gr.refl.put f1).put f2, by simp_all! only [nba.symm], by walk_at "wh"; rfl, rfl⟩ ?_ ?_
      · rintro x r δ W' N ⟨T1, T2, P, n', v6, v7, v8, v9, v10, e7, e8, lp, hn', gr, y1, y2, rfl⟩ kk
        cases T2 with
        | nil => cases e8
        | cons t T2 =>
          cases e8
          have y3 : W'.hid p = some (.law n') := by rw [gr.hid]; exact hset_same
          have hub : upto 0 ws.length = (List.range ws.length).map fun i : Nat => D.int (i : Int) := by
            unfold upto
            apply List.map_congr_left
            intro i _
            rw [Int.zero_add]
          simp! only [y1, y2, y3, List.length_map, Int.toNat_natCast, hub]
          refine ⟨by omega, by omega, by first | omega | (simp only [List.length_map]; omega) | (simp; omega), ?_⟩
          refine lc_list (fun i : Nat => decide (tks[i]? = some t)) (fun i : Nat => D.int (i : Int)) ?_ ?_
          · rintro i N2 hi acc k1 k2
            have hi := List.mem_range.mp hi
            have hit : i < tks.length := by omega
            have hat : atI (tks.map D.int) (i : Int) = some (.int tks[i]) := atI_nat (by rw [List.getElem?_map, List.getElem?_eq_getElem hit]; rfl)
            simp! only [y1, hat]
            refine ite2 (fun c => ?_) (fun c => ?_)
            · exact k1 (by rw [List.getElem?_eq_getElem hit, c]; exact decide_eq_true rfl)
            · exact k2 (by rw [List.getElem?_eq_getElem hit]; exact decide_eq_false fun e => c (Option.some.inj e))
          have hpl : ((List.range ws.length).filter fun i : Nat => decide (tks[i]? = some t)).map (fun i : Nat => D.int (i : Int)) = (plc tks t).map D.int := by
            unfold plc plcN
            rw [List.map_map, e4]; rfl
          rw [hpl]
          intro c0 f3 g3
          have y4 : W'.hp p = W.hp p ∨ True := .inr trivial
          refine ⟨fun k δ W'' => ∃ (rest : List Int) (P' : List GrP) (n'' : Nat) (c : Addr) (v8 v9 v10 : Option D), k = rest.length ∧ LPl m ws tks (T1 ++ [t]) P' rest ∧ (∀ x ∈ rest, x ∈ plc tks t) ∧ n'' ≤ n + ws.length + P'.length ∧ Gr (W.hide p (.law n'')) W'' ∧ c ≠ a ∧ c ≠ b ∧ W''.hp a = some (.lst (tks.map D.int)) ∧ W''.hp b = some (.lst (P'.map gD)) ∧ W''.hp c = some (.lst (rest.map D.int)) ∧ δ = [some (.ref p), some (.int m), some (.tup (ws.map wD)), some (.bl late), some (.ref a), some (.ref b), some (.int t), some (.ref c), v8, v9, v10], ⟨_, plc tks t, P, n', c0, _, _, _, rfl, lp.tick t, fun _ h => h, hn', gr.put f3, ?_, ?_, ?_, ?_, dput_same, rfl⟩, ?_⟩
          · rintro rfl; rw [y1] at f3; cases f3
          · rintro rfl; rw [y2] at f3; cases f3
          · have F3 := nws f3 g3
            simp_all! only [F3, y1]
          · have F3 := nws f3 g3
            simp_all! only [F3, y2]
          rintro k δ W'' ⟨rest, P', n'', c, v8, v9, v10, rfl, lp', hin, hn'', gr', nca, ncb, x1, x2, x3, rfl⟩
          have x4 : W''.hid p = some (.law n'') := by rw [gr'.hid]; exact hset_same
          have hmn := lp'.many (List.nodup_append.mpr ⟨by rw [e7] at hTn; exact (List.nodup_append.mp hTn).1, by simp, by rw [e7] at hTn; intro x hx y hy; rw [List.mem_singleton] at hy; subst hy; exact (List.nodup_append.mp hTn).2.2 x hx _ List.mem_cons_self⟩)
          by_cases hr : rest = []
          · subst hr
            simp! only [x1, x2, x3, x4]
            exact .here (kk _ _ ⟨T1 ++ [t], T2, P', n'', _, _, _, _, _, by rw [e7, List.append_assoc]; rfl, rfl, lp', hn'', gr', x1, x2, rfl⟩)
          · have hrp := List.length_pos_iff.mpr hr
            have hpos : (0 < (rest.length : Int)) = True := eq_true (by omega)
            simp! only [x1, x2, x3, x4, List.length_map, hpos]
            refine ⟨by omega, by omega, by omega, fun r q0 z0 => ?_⟩
            obtain ⟨k, hk, k1, k2⟩ : ∃ k : Nat, atI [D.int (1 + r), D.int m] (if late = true then 1 else 0) = some (.int k) ∧ 1 ≤ k ∧ k ≤ m := by
              by_cases c : late = true
              · rw [if_pos c]; exact ⟨m, rfl, m1, Nat.le_refl _⟩
              · rw [if_neg c]; exact ⟨(1 + r).toNat, by show some (D.int (1 + r)) = _; rw [Int.toNat_of_nonneg (by omega)], by omega, by omega⟩
            rw [hk]
            have lp2 := lp'.lot (t := t) (k := k) (fun x hx => plc_hold tok (hin x hx)) hr k1 k2
            have hgD : P'.map gD ++ [D.tup [.int t, .tup ((rest.take k).map D.int)]] = (P' ++ [(t, rest.take k)]).map gD := by rw [List.map_append]; rfl
            have nbc := Ne.symm ncb
            have nac := Ne.symm nca
            dsimp! only [x1, x2, x3, x4, List.length_map, cut_take, cut_drop, ← List.map_take, ← List.map_drop, ncb, nbc]
            rw [hgD]
            refine ⟨by omega, fun c1 f4 g4 => ?_⟩
            obtain ⟨n4b, f4'⟩ := dput_none f4
            have n4a : c1 ≠ a := by rintro rfl; rw [x1] at f4'; cases f4'
            refine .here ⟨(rest.drop k).length, by rw [List.length_drop]; omega, rest.drop k, P' ++ [(t, rest.take k)], n'' + 1, c1, _, _, _, rfl, lp2, fun x hx => hin x (List.mem_of_mem_drop hx), by rw [List.length_append, List.length_singleton]; omega, ((gr'.putn f2').put f4).re, n4a, n4b, ?_, ?_, ?_, rfl⟩
            · simp_all! only [n4a.symm, nba.symm, x1]
            · simp_all! only [n4b.symm]
            · walk_at "wh"
      · rintro δ W' ⟨T1, T2, P, n', v6, v7, v8, v9, v10, e7, e8, lp, hn', gr, y1, y2, rfl⟩
        cases T2 with
        | cons t T2 => cases e8
        | nil =>
          rw [List.append_nil] at e7
          subst e7
          have hmn := lp.many hTn
          simp! only [y1, y2]
          exact gr.sub (h P n' (lp.done hTn (fun t ht => (hmem t).mpr ht) tok) (by rw [← tok.len]; simpa using hmn) (by rw [tok.len] at hmn; have : P.length + 0 ≤ ws.length := hmn; omega))
def sp_thrift (C : Addr) : DSp := fun ds W q Ed => ∃ (m : Nat) (ws : List Win) (P : List D), ds = [.int m, .tup (ws.map wD), .tup P] ∧ 1 ≤ m ∧ WsOk ws ∧
  ((planF m ws).length < P.length → Ed (.ref C) none W) ∧ (¬ (planF m ws).length < P.length → q (.tup ((papF m ws (planF m ws)).map wD)) W)
theorem ok_thrift (T : TX K mg) : FnOk P w K mg base (L2.CX P w) 4 T.a_thrift T.fd_thrift ["most", "windows", "plan"] (upSp K (sp_thrift T.C_NotLeast)) := by
  refine okDX T.F_thrift sc_thrift ?len (fun cdv A outer s H E hr Ed => have tk := takes_of rfl rfl rfl rfl; ⟨_, (dss_cons (ds_asg (g := (.tp [3, 4])) (de_call (ok_least T) (hr.mono (by decide)) (by rfl) T.m_least T.F_least.kp T.b_least pass0 (da_cons (dv 0) (da_cons (dv 1) da_nil))) (pg_tup rfl (pgs_cons (pgn 3 sc_thrift.nd) (pgs_cons (pgn 4 sc_thrift.nd) pgs_nil))))
    (dss_cons (ds_if (dt_cmp dop_lt (de_callB dc_len (by rfl) T.n_len bb_len (da_cons (dv 3) da_nil)) (de_callB dc_len (by rfl) T.n_len bb_len (da_cons (dv 2) da_nil))) (dss_one (ds_raise0 rfl tk "NotLeast" T.x_NotLeast)) dss_nil)
    (dss_one (ds_ret (dv 4))))), ?rd⟩)
  case len => rintro ds W q Ed ⟨_, _, _, rfl, _⟩; rfl
  case rd =>
    rintro ds W q ⟨m, ws, P, rfl, hm, ok, h1, h2⟩
    walk_at "rd"
    refine ⟨m, ws, rfl, hm, ok, ?_⟩
    simp! only [List.length_map]
    refine ite2 (fun c => .here (h1 (by omega))) (fun c => .here (h2 (by omega)))
def sp__law_told : DSp := fun ds W q _ => ∃ (m : Nat) (ws : List Win) (P : List D), ds = [.int m, .tup (ws.map wD), .tup P] ∧ 1 ≤ m ∧ WsOk ws ∧
  ((planF m ws).length < P.length → q (.tup [.str "refused", .bl true]) W) ∧ (¬ (planF m ws).length < P.length → q (.tup [.str "paper", .tup ((papF m ws (planF m ws)).map wD)]) W)
theorem ok__law_told (T : TX K mg) : FnOk P w K mg base CX0 5 T.a__law_told T.fd__law_told ["_law_most", "_law_windows_here", "_law_plan_here"] (upSp K sp__law_told) := by
  refine okD T.F__law_told sc__law_told ?len (fun cdv A outer s H E hr => ⟨_, (dss_one (ds_tryA (ie := 3) rfl rfl sc__law_told.nd rfl rfl ⟨rfl, by decide, .inl T.x_GatherError.gP⟩ rfl (fun _ _ _ _ tk _ => (dss_one (ds_ret (de_tup (da_cons (de_str) (da_cons (de_callX (ok_thrift T) (hr.mono (by decide)) (by rfl) T.m_thrift T.F_thrift.kp T.b_thrift tk (da_cons (dv 0) (da_cons (dv 1) (da_cons (dv 2) da_nil)))) da_nil)))))) (fun a oe C pn he => (dss_cons (ds_asg (g := (.nm 4)) (de_and (de_callB (dc_isEK K List.mem_cons_self he) (by rfl) T.n_isinstance bb_isinstance (da_cons (dv 3) (da_cons (de_glob (d := .ref T.C_NotLeast) (v := .ref T.C_NotLeast) (by rfl) T.x_NotLeast.gP rfl (fun _ => rfl)) da_nil))) (de_one (de_callB (dc_isEK K List.mem_cons_self he) (by rfl) T.n_isinstance bb_isinstance (da_cons (dv 3) (da_cons (de_bltn (d := .ty "ValueError") (v := .ty "ValueError") (u := .type "ValueError") (by rfl) T.n_ValueError bb_ValueError rfl (fun _ => rfl)) da_nil))))) (pgn 4 sc__law_told.nd))
    (dss_cons (ds_asg (g := (.nm 5)) (de_callB (dc_isEK K List.mem_cons_self he) (by rfl) T.n_isinstance bb_isinstance (da_cons (dv 3) (da_cons (de_tup (da_cons (de_glob (d := .ref T.C_BadAnswer) (v := .ref T.C_BadAnswer) (by rfl) T.x_BadAnswer.gP rfl (fun _ => rfl)) (da_cons (de_glob (d := .ref T.C_BadAsk) (v := .ref T.C_BadAsk) (by rfl) T.x_BadAsk.gP rfl (fun _ => rfl)) (da_cons (de_glob (d := .ref T.C_BadKinds) (v := .ref T.C_BadKinds) (by rfl) T.x_BadKinds.gP rfl (fun _ => rfl)) (da_cons (de_glob (d := .ref T.C_KnownTicket) (v := .ref T.C_KnownTicket) (by rfl) T.x_KnownTicket.gP rfl (fun _ => rfl)) (da_cons (de_glob (d := .ref T.C_NoGreat) (v := .ref T.C_NoGreat) (by rfl) T.x_NoGreat.gP rfl (fun _ => rfl)) da_nil)))))) da_nil))) (pgn 5 sc__law_told.nd))
    (dss_cons (ds_asg (g := (.nm 5)) (de_or (dv 5) (de_one (de_callB (dc_isEK K List.mem_cons_self he) (by rfl) T.n_isinstance bb_isinstance (da_cons (dv 3) (da_cons (de_tup (da_cons (de_glob (d := .ref T.C_NoRoom) (v := .ref T.C_NoRoom) (by rfl) T.x_NoRoom.gP rfl (fun _ => rfl)) (da_cons (de_glob (d := .ref T.C_NoText) (v := .ref T.C_NoText) (by rfl) T.x_NoText.gP rfl (fun _ => rfl)) (da_cons (de_glob (d := .ref T.C_NoTicket) (v := .ref T.C_NoTicket) (by rfl) T.x_NoTicket.gP rfl (fun _ => rfl)) (da_cons (de_glob (d := .ref T.C_TooMany) (v := .ref T.C_TooMany) (by rfl) T.x_TooMany.gP rfl (fun _ => rfl)) da_nil))))) da_nil))))) (pgn 5 sc__law_told.nd))
    (dss_one (ds_ret (de_tup (da_cons (de_str) (da_cons (de_and (dv 4) (de_one (de_not (dv 5)))) da_nil))))))))))), ?rd⟩)
  case len => rintro ds W q Ed ⟨_, _, _, rfl, _⟩; rfl
  case rd =>
    rintro ds W q Ed ⟨m, ws, P, rfl, hm, ok, h1, h2⟩
    walk_at "rd"
    refine ⟨m, ws, P, rfl, hm, ok, fun c => ⟨rfl, _, rfl, exm_by T.x_GatherError.bP T.x_GatherError.iP T.x_GatherError.tP T.sG_NotLeast, fun a f1 g1 => ?_⟩, fun c => .here (h2 c)⟩
    simp! only [cx_K, cxH_K, T.ec_NotLeast, T.kv_NotLeast, T.kt_NotLeast_GatherError, T.kt_NotLeast_BadKinds, T.kt_NotLeast_BadAsk, T.kt_NotLeast_KnownTicket, T.kt_NotLeast_NoTicket, T.kt_NotLeast_NoGreat, T.kt_NotLeast_BadAnswer, T.kt_NotLeast_NoRoom, T.kt_NotLeast_TooMany, T.kt_NotLeast_NotLeast, T.kt_NotLeast_NoText, Option.some.injEq, exists_eq_left', isRefD, List.all_cons, List.all_nil, Bool.and_true]
    exact .here (h1 c)
def sp__law_is_paper : DSp := fun ds W q _ => ∃ (sp : List Win), ds = [.tup (sp.map wD)] ∧ sp.length ≤ 400 ∧ Chain sp ∧ (∀ s ∈ sp, 0 ≤ s.1 ∧ s.1 ≤ s.2 ∧ s.2 ≤ 1000000000) ∧ q (.bl true) W
theorem ok__law_is_paper (T : TX K mg) : FnOk P w K mg base CX0 2 T.a__law_is_paper T.fd__law_is_paper ["_law_thing"] (upSp K sp__law_is_paper) := by
  refine okD T.F__law_is_paper sc__law_is_paper ?len (fun cdv A outer s H E hr => ⟨_, (dss_cons (ds_if (dt_not (dt_val (de_callB dc_isi (by rfl) T.n_isinstance bb_isinstance (da_cons (dv 0) (da_cons (de_bltn (d := .ty "tuple") (v := .ty "tuple") (u := .type "tuple") (by rfl) T.n_tuple bb_tuple rfl (fun _ => rfl)) da_nil))))) (dss_one (ds_ret (de_bl))) dss_nil)
    (dss_cons (ds_asg (g := (.nm 1)) (de_un dun_neg (de_int)) (pgn 1 sc__law_is_paper.nd))
    (dss_cons (ds_for (g := (.nm 2)) PassesOwn.never rfl (di_t (dv 0)) (pgn 2 sc__law_is_paper.nd) (dss_cons (ds_if (dt_w (dw_or (dt_not (dt_val (de_callB dc_isi (by rfl) T.n_isinstance bb_isinstance (da_cons (dv 2) (da_cons (de_bltn (d := .ty "tuple") (v := .ty "tuple") (u := .type "tuple") (by rfl) T.n_tuple bb_tuple rfl (fun _ => rfl)) da_nil))))) (dw_or1 (dt_cmp (dop_ne hr.units) (de_callB dc_len (by rfl) T.n_len bb_len (da_cons (dv 2) da_nil)) (de_int))))) (dss_one (ds_ret (de_bl))) dss_nil)
    (dss_cons (ds_if (dt_w (dw_or (dt_not (dt_val (de_call (ok__law_int T) (hr.mono (by decide)) (by rfl) T.m__law_int T.F__law_int.kp T.b__law_int pass0 (da_cons (de_ix (dv 2) (de_int)) (da_cons (de_op dop_add (dv 1) (de_int)) (da_cons (de_op dop_pow (de_int) (de_int)) da_nil)))))) (dw_or1 (dt_not (dt_val (de_call (ok__law_int T) (hr.mono (by decide)) (by rfl) T.m__law_int T.F__law_int.kp T.b__law_int pass0 (da_cons (de_ix (dv 2) (de_int)) (da_cons (de_ix (dv 2) (de_int)) (da_cons (de_op dop_pow (de_int) (de_int)) da_nil))))))))) (dss_one (ds_ret (de_bl))) dss_nil)
    (dss_one (ds_asg (g := (.nm 1)) (de_ix (dv 2) (de_int)) (pgn 1 sc__law_is_paper.nd))))))
    (dss_one (ds_ret (de_bl)))))), ?rd⟩)
  case len => rintro ds W q Ed ⟨_, rfl, _⟩; rfl
  case rd =>
    rintro ds W q Ed ⟨sp, rfl, hl, hc, hb, h⟩
    walk_at "rd"
    refine for_by (fun r δ W' => ∃ (A B : List Win) (bef : Int) (v2 : Option D), sp = A ++ B ∧ r = B.map wD ∧ (∀ s ∈ B, bef + 1 ≤ s.1) ∧ -1 ≤ bef ∧ W' = W ∧ δ = [some (.tup (sp.map wD)), some (.int bef), v2]) ⟨[], sp, -1, _, rfl, rfl, fun s hs => by have := (hb s hs).1; omega, by decide, rfl, rfl⟩ ?_ ?_
    · rintro x r δ W' N ⟨A, B, bef, v2, e1, e2, hbf, hb0, rfl, rfl⟩ kk
      cases B with
      | nil => cases e2
      | cons s B =>
        cases e2
        dsimp! only [wD]
        have hs := hb s (by rw [e1]; simp)
        have hcs : ∀ t ∈ B, s.2 < t.1 := fun t ht => by
          rw [e1] at hc
          exact (List.pairwise_cons.mp (List.pairwise_append.mp hc).2.1).1 t ht
        have h1 := hbf s List.mem_cons_self
        refine ⟨shown_int, ?_⟩
        rw [isNum_t h1 (by omega)]
        walk_at "rdw"
        refine ⟨shown_int, ?_⟩
        rw [isNum_t hs.2.1 hs.2.2]
        walk_at "rdw"
        exact .here (kk _ _ ⟨A ++ [s], B, s.2, _, by rw [e1, List.append_assoc]; rfl, rfl, fun t ht => by have := hcs t ht; omega, by omega, rfl, rfl⟩)
    · rintro δ W' ⟨A, B, bef, v2, e1, e2, hbf, hb0, rfl, rfl⟩
      cases B with
      | cons g B => cases e2
      | nil =>
        walk_at "rdw"
        exact .here h
def sp__law_worth : DSp := fun ds W q _ => ∃ (m : Nat) (ws : List Win) (sp : List Win), ds = [.int m, .tup (ws.map wD), .tup (sp.map wD)] ∧ 1 ≤ m ∧ m ≤ 1000 ∧ ws.length ≤ 400 ∧ sp.length ≤ 400 ∧ q (.int (worthP m ws sp)) W
theorem ok__law_worth (T : TX K mg) : FnOk P w K mg base CX0 1 T.a__law_worth T.fd__law_worth ["_law_most", "_law_windows_here", "_law_paper"] (upSp K sp__law_worth) := by
  refine okD T.F__law_worth sc__law_worth ?len (fun cdv A outer s H E hr => ⟨_, (dss_cons (ds_asg (g := (.nm 3)) (de_int) (pgn 3 sc__law_worth.nd))
    (dss_cons (ds_for (g := (.tp [4, 5])) PassesOwn.never rfl (di_t (dv 2)) (pg_tup rfl (pgs_cons (pgn 4 sc__law_worth.nd) (pgs_cons (pgn 5 sc__law_worth.nd) pgs_nil))) (dss_cons (ds_asg (g := (.nm 6)) (de_callBM dc_lenM (by rfl) T.n_len bb_len (dm_l (dl_lc (by decide) rfl sc__law_worth.nd (own := [("_law_first", 7), ("_law_last", 8)]) (g := (.tp [7, 8])) (di_t (dv 1)) (blkOk_by (own := [("_law_first", 7), ("_law_last", 8)]) (N := N__law_worth) (sc := defScope s__law_worth) (by decide +kernel)) (fun _ _ _ _ _ => (pg_tup rfl (pgs_cons (pgn 7 sc__law_worth.nd) (pgs_cons (pgn 8 sc__law_worth.nd) pgs_nil)))) (fun _ _ _ _ _ => (dts_one (dt_w (dw_and (dt_cmp dop_ge (dv 7) (dv 4)) (dw_and1 (dt_cmp dop_le (dv 8) (dv 5))))))) (fun _ _ _ _ _ => (de_int))))) (pgn 6 sc__law_worth.nd))
    (dss_one (ds_asg (g := (.nm 3)) (de_op dop_add (dv 3) (de_op dop_fdiv (de_op dop_sub (de_op dop_add (dv 6) (dv 0)) (de_int)) (dv 0))) (pgn 3 sc__law_worth.nd)))))
    (dss_one (ds_ret (dv 3))))), ?rd⟩)
  case len => rintro ds W q Ed ⟨_, _, _, rfl, _⟩; rfl
  case rd =>
    rintro ds W q Ed ⟨m, ws, sp, rfl, hm, hm2, hl, hs, h⟩
    walk_at "rd"
    refine for_by (fun r δ W' => ∃ (A B : List Win) (v4 v5 v6 v7 v8 : Option D), sp = A ++ B ∧ r = B.map wD ∧ W' = W ∧ δ = [some (.int m), some (.tup (ws.map wD)), some (.tup (sp.map wD)), some (.int (worthP m ws A)), v4, v5, v6, v7, v8]) ⟨[], sp, _, _, _, _, _, rfl, rfl, rfl, rfl⟩ ?_ ?_
    · rintro x r δ W' N ⟨A, B, v4, v5, v6, v7, v8, e1, e2, rfl, rfl⟩ kk
      cases B with
      | nil => cases e2
      | cons s B =>
        cases e2
        dsimp! only [wD]
        refine ⟨by rw [List.length_map]; omega, ?_⟩
        refine lc_list (fun w => decide (s.1 ≤ w.1) && decide (w.2 ≤ s.2)) (fun _ => D.int 0) ?_ ?_
        · rintro w N2 hw acc k1 k2
          dsimp! only [wD]
          refine ite2 (fun c => ite2 (fun c2 => ?_) (fun c2 => ?_)) (fun c => ?_)
          · exact k1 (by rw [decide_eq_true c, decide_eq_true c2]; rfl)
          · exact k2 (by rw [decide_eq_false c2, Bool.and_false])
          · exact k2 (by rw [decide_eq_false c, Bool.false_and])
        · have hcl : ((ws.filter fun w => decide (s.1 ≤ w.1) && decide (w.2 ≤ s.2)).map fun _ => D.int 0).length = cntS ws s := by rw [List.length_map]; rfl
          rw [hcl]
          refine ⟨cdiv_of (by omega) (by omega), ?_⟩
          rw [ceil_int hm]
          have hwi : ((worthP m ws A : Nat) : Int) + (ceilN (cntS ws s) m : Nat) = ((worthP m ws (A ++ [s]) : Nat) : Int) := by rw [worthP_snoc, Int.natCast_add]
          rw [hwi]
          exact .here (kk _ _ ⟨A ++ [s], B, _, _, _, _, _, by rw [e1, List.append_assoc]; rfl, rfl, rfl, rfl⟩)
    · rintro δ W' ⟨A, B, v4, v5, v6, v7, v8, e1, e2, rfl, rfl⟩
      cases B with
      | cons g B => cases e2
      | nil =>
        rw [List.append_nil] at e1
        subst e1
        walk_at "rdw"
        exact .here h
theorem ok_law (T : TX K mg) : FnOk P w K mg base CX0 6 T.a_law T.fd_law ["_law_script"] (sp_law K) := by
  refine T.F_law.ok sc_law (fun vs H Q E h => ?_) (fun cdv A outer s H vs Q E hr h => ?_)
  · obtain ⟨a, ns, rfl, _⟩ := h
    rfl
  obtain ⟨a, ns, rfl, hS, hl, k⟩ := h
  refine ⟨_, pss_cons (ps_set (i := 1) sc_law.nd rfl (by first | exact Or.inl rfl | exact Or.inr rfl) (pe_call (ok__law_begin T) (hr.mono (by decide)) (by rfl) T.m__law_begin T.F__law_begin.kp T.b__law_begin .nil pass0 (pa_cons (pv 0) pa_nil))) (calm (dss_cons (ds_asg (g := (.nm 2)) (de_call (ok__law_windows T) (hr.mono (by decide)) (by rfl) T.m__law_windows T.F__law_windows.kp T.b__law_windows pass0 (da_cons (dv 1) (da_cons (de_call (ok__law_pick T) (hr.mono (by decide)) (by rfl) T.m__law_pick T.F__law_pick.kp T.b__law_pick pass0 (da_cons (dv 1) (da_cons (de_int) da_nil))) da_nil))) (pgn 2 sc_law.nd))
    (dss_cons (ds_asg (g := (.nm 3)) (de_ixl (dl_lst (da_cons (de_op dop_add (de_int) (de_call (ok__law_pick T) (hr.mono (by decide)) (by rfl) T.m__law_pick T.F__law_pick.kp T.b__law_pick pass0 (da_cons (dv 1) (da_cons (de_int) da_nil)))) (da_cons (de_int) (da_cons (de_op dop_add (de_int) (de_call (ok__law_pick T) (hr.mono (by decide)) (by rfl) T.m__law_pick T.F__law_pick.kp T.b__law_pick pass0 (da_cons (dv 1) (da_cons (de_int) da_nil)))) da_nil)))) (de_call (ok__law_pick T) (hr.mono (by decide)) (by rfl) T.m__law_pick T.F__law_pick.kp T.b__law_pick pass0 (da_cons (dv 1) (da_cons (de_int) da_nil)))) (pgn 3 sc_law.nd))
    (dss_cons (ds_asg (g := (.nm 4)) (de_ix (de_call (ok_least T) (hr.mono (by decide)) (by rfl) T.m_least T.F_least.kp T.b_least pass0 (da_cons (dv 3) (da_cons (dv 2) da_nil))) (de_int)) (pgn 4 sc_law.nd))
    (dss_cons (ds_if (dt_not (dt_val (de_call (ok__law_is_plan T) (hr.mono (by decide)) (by rfl) T.m__law_is_plan T.F__law_is_plan.kp T.b__law_is_plan pass0 (da_cons (dv 3) (da_cons (dv 2) (da_cons (dv 4) da_nil)))))) (dss_one (ds_ret (de_bl))) dss_nil)
    (dss_cons (ds_for (g := (.nm 5)) PassesOwn.never rfl (di_l (dl_lst (da_cons (dv 4) (da_cons (de_call (ok__law_plan T) (hr.mono (by decide)) (by rfl) T.m__law_plan T.F__law_plan.kp T.b__law_plan pass0 (da_cons (dv 1) (da_cons (dv 3) (da_cons (dv 2) (da_cons (de_bl) da_nil))))) (da_cons (de_call (ok__law_plan T) (hr.mono (by decide)) (by rfl) T.m__law_plan T.F__law_plan.kp T.b__law_plan pass0 (da_cons (dv 1) (da_cons (dv 3) (da_cons (dv 2) (da_cons (de_bl) da_nil))))) (da_cons (dv 4) da_nil)))))) (pgn 5 sc_law.nd) (dss_cons (ds_asg (g := (.tp [6, 7])) (de_call (ok__law_told T) (hr.mono (by decide)) (by rfl) T.m__law_told T.F__law_told.kp T.b__law_told pass0 (da_cons (dv 3) (da_cons (dv 2) (da_cons (dv 5) da_nil)))) (pg_tup rfl (pgs_cons (pgn 6 sc_law.nd) (pgs_cons (pgn 7 sc_law.nd) pgs_nil))))
    (dss_cons (ds_if (dt_w (dw_and (dt_cmp (dop_eq hr.units) (dv 6) (de_str)) (dw_and1 (dt_w (dw_or (dt_cmp dop_isnot (dv 7) (de_bl)) (dw_or1 (dt_cmp dop_ge (de_callB dc_len (by rfl) T.n_len bb_len (da_cons (dv 4) da_nil)) (de_callB dc_len (by rfl) T.n_len bb_len (da_cons (dv 5) da_nil))))))))) (dss_one (ds_ret (de_bl))) dss_nil)
    (dss_cons (ds_if (dt_w (dw_and (dt_cmp (dop_eq hr.units) (dv 6) (de_str)) (dw_and1 (dt_not (dt_val (de_call (ok__law_is_paper T) (hr.mono (by decide)) (by rfl) T.m__law_is_paper T.F__law_is_paper.kp T.b__law_is_paper pass0 (da_cons (dv 7) da_nil))))))) (dss_one (ds_ret (de_bl))) dss_nil)
    (dss_one (ds_if (dt_w (dw_and (dt_cmp (dop_eq hr.units) (dv 6) (de_str)) (dw_and1 (dt_cmp (dop_ne hr.units) (de_call (ok__law_worth T) (hr.mono (by decide)) (by rfl) T.m__law_worth T.F__law_worth.kp T.b__law_worth pass0 (da_cons (dv 3) (da_cons (dv 2) (da_cons (dv 7) da_nil)))) (de_callB dc_len (by rfl) T.n_len bb_len (da_cons (dv 5) da_nil)))))) (dss_one (ds_ret (de_bl))) dss_nil))))))
    (dss_one (ds_ret (de_cmp (dop_eq hr.units) (de_ix (de_call (ok__law_told T) (hr.mono (by decide)) (by rfl) T.m__law_told T.F__law_told.kp T.b__law_told pass0 (da_cons (dv 3) (da_cons (dv 2) (da_cons (dv 4) da_nil)))) (de_int)) (de_str)))))))))), ?_⟩
  refine ⟨_, rfl, a, ns, rfl, hS, hl, fun p c cells H' hne h1 h2 h3 h4 => ?_⟩
  refine up_law hne h1 h2 h3 h4 (δ := none :: some (.ref p) :: List.replicate 6 none) (rep_law rfl rfl) ?_ rfl k
  clear hne h1 h2 h3 h4 hS hl k
  walk_at "rd"
  intro r0 q0 z0
  obtain ⟨k, rfl⟩ : ∃ k : Nat, r0 = k := ⟨r0.toNat, by omega⟩
  refine ⟨p, 1, k, rfl, wn_hid, by decide, by omega, fun ws n hl ok hn => ?_⟩
  simp! only [wn_hide]
  refine ⟨by omega, fun r3 a3 b3 => ⟨by omega, fun r4 a4 b4 => ⟨by omega, fun r5 a5 b5 => ?_⟩⟩⟩
  refine on_any (fun d => ∃ m : Nat, d = .int m ∧ 1 ≤ m ∧ m ≤ 1000) a5 (by simpa using b5) ?_ ?_
  · walk_at "each"
    · exact ⟨(1 + r3).toNat, by rw [Int.toNat_of_nonneg (by omega)], by omega, by omega⟩
    · exact ⟨64, rfl, by decide, by decide⟩
    · exact ⟨(1 + r4).toNat, by rw [Int.toNat_of_nonneg (by omega)], by omega, by omega⟩
  rintro _ ⟨m, rfl, m1, m2⟩
  obtain ⟨p1, p2⟩ := planF_ok m1 ok
  have q1 := papF_ok m1 p1
  have q2 := papF_len (m := m) (ws := ws) (P := planF m ws)
  have hl4 := ok.len
  refine ⟨m, ws, rfl, m1, ok, ?_⟩
  walk_at "rdw"
  refine ⟨m, ws, planF m ws, rfl, by omega, p1, ?_⟩
  walk_at "rdw"
  refine ⟨p, _, m, ws, false, rfl, wn_hid, by omega, ok, m1, m2, fun P1 n1 o1 l1 b1 => ?_⟩
  walk_at "rdw"
  refine ⟨p, _, m, ws, true, rfl, wn_hid, by omega, ok, m1, m2, fun P2 n2 o2 l2 b2 => ?_⟩
  walk_at "rdw"
  have o0 := p1.toPlanOk
  refine for_by (fun r δ W' => (∀ d ∈ r, ∃ P : List GrP, d = .tup (P.map gD) ∧ PlanOk m ws P) ∧ W' = Wn p n2 ∧ ∃ v5 v6 v7 : Option D, δ = [none, some (.ref p), some (.tup (ws.map wD)), some (.int m), some (.tup ((planF m ws).map gD)), v5, v6, v7]) ⟨fun d hd => ?_, rfl, _, _, _, rfl⟩ ?_ ?_
  · rcases List.mem_cons.mp hd with rfl | hd
    · exact ⟨_, rfl, o0⟩
    rcases List.mem_cons.mp hd with rfl | hd
    · exact ⟨_, rfl, o1⟩
    rcases List.mem_cons.mp hd with rfl | hd
    · exact ⟨_, rfl, o2⟩
    rcases List.mem_cons.mp hd with rfl | hd
    · exact ⟨_, rfl, o0⟩
    · cases hd
  · rintro x r δ W' N ⟨hd, rfl, v5, v6, v7, rfl⟩ kk
    obtain ⟨P, rfl, o⟩ := hd x List.mem_cons_self
    have hw := weak m1 o q1.chain fun s hs => (q1.rng s hs).2.1
    rw [q1.worth] at hw
    have kk2 : ∀ v5 v6 v7 : Option D, N [none, some (.ref p), some (.tup (ws.map wD)), some (.int m), some (.tup ((planF m ws).map gD)), v5, v6, v7] (Wn p n2) := fun v5 v6 v7 => kk _ _ ⟨fun d h => hd d (List.mem_cons_of_mem _ h), rfl, v5, v6, v7, rfl⟩
    walk_at "rdw"
    refine ⟨m, ws, P.map gD, rfl, m1, ok, fun c => ?_, fun c => ?_⟩
    · rw [List.length_map] at c
      dsimp! only [List.length_map]
      rw [if_neg (by omega), if_neg (by decide +kernel), if_neg (by decide +kernel)]
      exact .here (kk2 _ _ _)
    · rw [List.length_map] at c
      dsimp! only [List.length_map]
      rw [if_neg (by decide +kernel)]
      refine ⟨_, rfl, by omega, q1.chain, q1.rng, ?_⟩
      walk_at "rdw"
      refine ⟨m, ws, _, rfl, m1, m2, by omega, by omega, ?_⟩
      walk_at "rdw"
      rw [if_neg (by rw [q1.worth]; omega)]
      exact .here (kk2 _ _ _)
  · rintro δ W' ⟨hd, rfl, v5, v6, v7, rfl⟩
    walk_at "rdw"
    refine ⟨m, ws, (planF m ws).map gD, rfl, m1, ok, fun c => absurd c (by rw [List.length_map]; omega), fun _ => ?_⟩
    walk_at "rdw"
    done
end
theorem all_mk {l : PySem.W.OpenLaw} {w : World} {K : PySem.W.Frag} {h : Heap} {mg : Str → Option Value} {fa : Addr} (X : K.In h) (G : h.Ns mainGlobals mg) (hfa : mg "law" = some (.ref fa))
    {f_least_plan : Addr} {oc_least_plan kV_least_plan dc_least_plan pm_least_plan cd_least_plan ct_least_plan : Value} {od_least_plan an_least_plan : Option Addr} {sl_least_plan : Array (Option Value)} (a_least_plan : PySem.W.nsIn K mainGlobals "least_plan" = some (some (.ref f_least_plan))) (l_least_plan : K.lookup f_least_plan = some ⟨oc_least_plan, od_least_plan, .func (PySem.W.fnOf "least_plan" "least_plan" (defArgs s_least_plan) (defBody s_least_plan) (defScope s_least_plan) .none kV_least_plan dc_least_plan pm_least_plan an_least_plan cd_least_plan ct_least_plan), sl_least_plan⟩) (c_least_plan : PySem.W.codeIn K cd_least_plan "least_plan" = true) (k_least_plan : PySem.W.keepIn K (.ref f_least_plan) = true)
    {f_is_full_by : Addr} {oc_is_full_by kV_is_full_by dc_is_full_by pm_is_full_by cd_is_full_by ct_is_full_by : Value} {od_is_full_by an_is_full_by : Option Addr} {sl_is_full_by : Array (Option Value)} (a_is_full_by : PySem.W.nsIn K mainGlobals "is_full_by" = some (some (.ref f_is_full_by))) (l_is_full_by : K.lookup f_is_full_by = some ⟨oc_is_full_by, od_is_full_by, .func (PySem.W.fnOf "is_full_by" "is_full_by" (defArgs s_is_full_by) (defBody s_is_full_by) (defScope s_is_full_by) .none kV_is_full_by dc_is_full_by pm_is_full_by an_is_full_by cd_is_full_by ct_is_full_by), sl_is_full_by⟩) (c_is_full_by : PySem.W.codeIn K cd_is_full_by "is_full_by" = true) (k_is_full_by : PySem.W.keepIn K (.ref f_is_full_by) = true)
    {f_paper_of : Addr} {oc_paper_of kV_paper_of dc_paper_of pm_paper_of cd_paper_of ct_paper_of : Value} {od_paper_of an_paper_of : Option Addr} {sl_paper_of : Array (Option Value)} (a_paper_of : PySem.W.nsIn K mainGlobals "paper_of" = some (some (.ref f_paper_of))) (l_paper_of : K.lookup f_paper_of = some ⟨oc_paper_of, od_paper_of, .func (PySem.W.fnOf "paper_of" "paper_of" (defArgs s_paper_of) (defBody s_paper_of) (defScope s_paper_of) .none kV_paper_of dc_paper_of pm_paper_of an_paper_of cd_paper_of ct_paper_of), sl_paper_of⟩) (c_paper_of : PySem.W.codeIn K cd_paper_of "paper_of" = true) (k_paper_of : PySem.W.keepIn K (.ref f_paper_of) = true)
    {f_least : Addr} {oc_least kV_least dc_least pm_least cd_least ct_least : Value} {od_least an_least : Option Addr} {sl_least : Array (Option Value)} (a_least : PySem.W.nsIn K mainGlobals "least" = some (some (.ref f_least))) (l_least : K.lookup f_least = some ⟨oc_least, od_least, .func (PySem.W.fnOf "least" "least" (defArgs s_least) (defBody s_least) (defScope s_least) .none kV_least dc_least pm_least an_least cd_least ct_least), sl_least⟩) (c_least : PySem.W.codeIn K cd_least "least" = true) (k_least : PySem.W.keepIn K (.ref f_least) = true)
    {f_thrift : Addr} {oc_thrift kV_thrift dc_thrift pm_thrift cd_thrift ct_thrift : Value} {od_thrift an_thrift : Option Addr} {sl_thrift : Array (Option Value)} (a_thrift : PySem.W.nsIn K mainGlobals "thrift" = some (some (.ref f_thrift))) (l_thrift : K.lookup f_thrift = some ⟨oc_thrift, od_thrift, .func (PySem.W.fnOf "thrift" "thrift" (defArgs s_thrift) (defBody s_thrift) (defScope s_thrift) .none kV_thrift dc_thrift pm_thrift an_thrift cd_thrift ct_thrift), sl_thrift⟩) (c_thrift : PySem.W.codeIn K cd_thrift "thrift" = true) (k_thrift : PySem.W.keepIn K (.ref f_thrift) = true)
    {f__law_begin : Addr} {oc__law_begin kV__law_begin dc__law_begin pm__law_begin cd__law_begin ct__law_begin : Value} {od__law_begin an__law_begin : Option Addr} {sl__law_begin : Array (Option Value)} (a__law_begin : PySem.W.nsIn K mainGlobals "_law_begin" = some (some (.ref f__law_begin))) (l__law_begin : K.lookup f__law_begin = some ⟨oc__law_begin, od__law_begin, .func (PySem.W.fnOf "_law_begin" "_law_begin" (defArgs s__law_begin) (defBody s__law_begin) (defScope s__law_begin) .none kV__law_begin dc__law_begin pm__law_begin an__law_begin cd__law_begin ct__law_begin), sl__law_begin⟩) (c__law_begin : PySem.W.codeIn K cd__law_begin "_law_begin" = true) (k__law_begin : PySem.W.keepIn K (.ref f__law_begin) = true)
    {f__law_pick : Addr} {oc__law_pick kV__law_pick dc__law_pick pm__law_pick cd__law_pick ct__law_pick : Value} {od__law_pick an__law_pick : Option Addr} {sl__law_pick : Array (Option Value)} (a__law_pick : PySem.W.nsIn K mainGlobals "_law_pick" = some (some (.ref f__law_pick))) (l__law_pick : K.lookup f__law_pick = some ⟨oc__law_pick, od__law_pick, .func (PySem.W.fnOf "_law_pick" "_law_pick" (defArgs s__law_pick) (defBody s__law_pick) (defScope s__law_pick) .none kV__law_pick dc__law_pick pm__law_pick an__law_pick cd__law_pick ct__law_pick), sl__law_pick⟩) (c__law_pick : PySem.W.codeIn K cd__law_pick "_law_pick" = true) (k__law_pick : PySem.W.keepIn K (.ref f__law_pick) = true)
    {f__law_windows : Addr} {oc__law_windows kV__law_windows dc__law_windows pm__law_windows cd__law_windows ct__law_windows : Value} {od__law_windows an__law_windows : Option Addr} {sl__law_windows : Array (Option Value)} (a__law_windows : PySem.W.nsIn K mainGlobals "_law_windows" = some (some (.ref f__law_windows))) (l__law_windows : K.lookup f__law_windows = some ⟨oc__law_windows, od__law_windows, .func (PySem.W.fnOf "_law_windows" "_law_windows" (defArgs s__law_windows) (defBody s__law_windows) (defScope s__law_windows) .none kV__law_windows dc__law_windows pm__law_windows an__law_windows cd__law_windows ct__law_windows), sl__law_windows⟩) (c__law_windows : PySem.W.codeIn K cd__law_windows "_law_windows" = true) (k__law_windows : PySem.W.keepIn K (.ref f__law_windows) = true)
    {f__law_int : Addr} {oc__law_int kV__law_int dc__law_int pm__law_int cd__law_int ct__law_int : Value} {od__law_int an__law_int : Option Addr} {sl__law_int : Array (Option Value)} (a__law_int : PySem.W.nsIn K mainGlobals "_law_int" = some (some (.ref f__law_int))) (l__law_int : K.lookup f__law_int = some ⟨oc__law_int, od__law_int, .func (PySem.W.fnOf "_law_int" "_law_int" (defArgs s__law_int) (defBody s__law_int) (defScope s__law_int) .none kV__law_int dc__law_int pm__law_int an__law_int cd__law_int ct__law_int), sl__law_int⟩) (c__law_int : PySem.W.codeIn K cd__law_int "_law_int" = true) (k__law_int : PySem.W.keepIn K (.ref f__law_int) = true)
    {f__law_is_plan : Addr} {oc__law_is_plan kV__law_is_plan dc__law_is_plan pm__law_is_plan cd__law_is_plan ct__law_is_plan : Value} {od__law_is_plan an__law_is_plan : Option Addr} {sl__law_is_plan : Array (Option Value)} (a__law_is_plan : PySem.W.nsIn K mainGlobals "_law_is_plan" = some (some (.ref f__law_is_plan))) (l__law_is_plan : K.lookup f__law_is_plan = some ⟨oc__law_is_plan, od__law_is_plan, .func (PySem.W.fnOf "_law_is_plan" "_law_is_plan" (defArgs s__law_is_plan) (defBody s__law_is_plan) (defScope s__law_is_plan) .none kV__law_is_plan dc__law_is_plan pm__law_is_plan an__law_is_plan cd__law_is_plan ct__law_is_plan), sl__law_is_plan⟩) (c__law_is_plan : PySem.W.codeIn K cd__law_is_plan "_law_is_plan" = true) (k__law_is_plan : PySem.W.keepIn K (.ref f__law_is_plan) = true)
    {f__law_worth : Addr} {oc__law_worth kV__law_worth dc__law_worth pm__law_worth cd__law_worth ct__law_worth : Value} {od__law_worth an__law_worth : Option Addr} {sl__law_worth : Array (Option Value)} (a__law_worth : PySem.W.nsIn K mainGlobals "_law_worth" = some (some (.ref f__law_worth))) (l__law_worth : K.lookup f__law_worth = some ⟨oc__law_worth, od__law_worth, .func (PySem.W.fnOf "_law_worth" "_law_worth" (defArgs s__law_worth) (defBody s__law_worth) (defScope s__law_worth) .none kV__law_worth dc__law_worth pm__law_worth an__law_worth cd__law_worth ct__law_worth), sl__law_worth⟩) (c__law_worth : PySem.W.codeIn K cd__law_worth "_law_worth" = true) (k__law_worth : PySem.W.keepIn K (.ref f__law_worth) = true)
    {f__law_is_paper : Addr} {oc__law_is_paper kV__law_is_paper dc__law_is_paper pm__law_is_paper cd__law_is_paper ct__law_is_paper : Value} {od__law_is_paper an__law_is_paper : Option Addr} {sl__law_is_paper : Array (Option Value)} (a__law_is_paper : PySem.W.nsIn K mainGlobals "_law_is_paper" = some (some (.ref f__law_is_paper))) (l__law_is_paper : K.lookup f__law_is_paper = some ⟨oc__law_is_paper, od__law_is_paper, .func (PySem.W.fnOf "_law_is_paper" "_law_is_paper" (defArgs s__law_is_paper) (defBody s__law_is_paper) (defScope s__law_is_paper) .none kV__law_is_paper dc__law_is_paper pm__law_is_paper an__law_is_paper cd__law_is_paper ct__law_is_paper), sl__law_is_paper⟩) (c__law_is_paper : PySem.W.codeIn K cd__law_is_paper "_law_is_paper" = true) (k__law_is_paper : PySem.W.keepIn K (.ref f__law_is_paper) = true)
    {f__law_tick : Addr} {oc__law_tick kV__law_tick dc__law_tick pm__law_tick cd__law_tick ct__law_tick : Value} {od__law_tick an__law_tick : Option Addr} {sl__law_tick : Array (Option Value)} (a__law_tick : PySem.W.nsIn K mainGlobals "_law_tick" = some (some (.ref f__law_tick))) (l__law_tick : K.lookup f__law_tick = some ⟨oc__law_tick, od__law_tick, .func (PySem.W.fnOf "_law_tick" "_law_tick" (defArgs s__law_tick) (defBody s__law_tick) (defScope s__law_tick) .none kV__law_tick dc__law_tick pm__law_tick an__law_tick cd__law_tick ct__law_tick), sl__law_tick⟩) (c__law_tick : PySem.W.codeIn K cd__law_tick "_law_tick" = true) (k__law_tick : PySem.W.keepIn K (.ref f__law_tick) = true)
    {f__law_plan : Addr} {oc__law_plan kV__law_plan dc__law_plan pm__law_plan cd__law_plan ct__law_plan : Value} {od__law_plan an__law_plan : Option Addr} {sl__law_plan : Array (Option Value)} (a__law_plan : PySem.W.nsIn K mainGlobals "_law_plan" = some (some (.ref f__law_plan))) (l__law_plan : K.lookup f__law_plan = some ⟨oc__law_plan, od__law_plan, .func (PySem.W.fnOf "_law_plan" "_law_plan" (defArgs s__law_plan) (defBody s__law_plan) (defScope s__law_plan) .none kV__law_plan dc__law_plan pm__law_plan an__law_plan cd__law_plan ct__law_plan), sl__law_plan⟩) (c__law_plan : PySem.W.codeIn K cd__law_plan "_law_plan" = true) (k__law_plan : PySem.W.keepIn K (.ref f__law_plan) = true)
    {f__law_told : Addr} {oc__law_told kV__law_told dc__law_told pm__law_told cd__law_told ct__law_told : Value} {od__law_told an__law_told : Option Addr} {sl__law_told : Array (Option Value)} (a__law_told : PySem.W.nsIn K mainGlobals "_law_told" = some (some (.ref f__law_told))) (l__law_told : K.lookup f__law_told = some ⟨oc__law_told, od__law_told, .func (PySem.W.fnOf "_law_told" "_law_told" (defArgs s__law_told) (defBody s__law_told) (defScope s__law_told) .none kV__law_told dc__law_told pm__law_told an__law_told cd__law_told ct__law_told), sl__law_told⟩) (c__law_told : PySem.W.codeIn K cd__law_told "_law_told" = true) (k__law_told : PySem.W.keepIn K (.ref f__law_told) = true)
    {f_law : Addr} {oc_law kV_law dc_law pm_law cd_law ct_law : Value} {od_law an_law : Option Addr} {sl_law : Array (Option Value)} (a_law : PySem.W.nsIn K mainGlobals "law" = some (some (.ref f_law))) (l_law : K.lookup f_law = some ⟨oc_law, od_law, .func (PySem.W.fnOf "law" "law" (defArgs s_law) (defBody s_law) (defScope s_law) .none kV_law dc_law pm_law an_law cd_law ct_law), sl_law⟩) (c_law : PySem.W.codeIn K cd_law "law" = true) (k_law : PySem.W.keepIn K (.ref f_law) = true)
    (z_ValueError : PySem.W.nsIn K mainGlobals "ValueError" = some none)
    (z_abs : PySem.W.nsIn K mainGlobals "abs" = some none)
    (z_bool : PySem.W.nsIn K mainGlobals "bool" = some none)
    (z_enumerate : PySem.W.nsIn K mainGlobals "enumerate" = some none)
    (z_int : PySem.W.nsIn K mainGlobals "int" = some none)
    (z_isinstance : PySem.W.nsIn K mainGlobals "isinstance" = some none)
    (z_len : PySem.W.nsIn K mainGlobals "len" = some none)
    (z_list : PySem.W.nsIn K mainGlobals "list" = some none)
    (z_min : PySem.W.nsIn K mainGlobals "min" = some none)
    (z_range : PySem.W.nsIn K mainGlobals "range" = some none)
    (z_reversed : PySem.W.nsIn K mainGlobals "reversed" = some none)
    (z_set : PySem.W.nsIn K mainGlobals "set" = some none)
    (z_sorted : PySem.W.nsIn K mainGlobals "sorted" = some none)
    (z_tuple : PySem.W.nsIn K mainGlobals "tuple" = some none)
    {C_GatherError : Addr} (g_GatherError : PySem.W.nsIn K mainGlobals "GatherError" = some (some (.ref C_GatherError))) (xx_GatherError : PySem.W.excIn K C_GatherError [.type "ValueError", .type "Exception", .type "BaseException", .type "object"] "ValueError.__new__" = true) (xk_GatherError : PySem.W.keepIn K (.ref C_GatherError) = true) (xb_GatherError : PySem.W.subIn K (.ref C_GatherError) (.type "BaseException") = some true) (xt_GatherError : PySem.W.typeIn K (.ref C_GatherError) = some (.type "type")) (xi_GatherError : PySem.W.isClsIn K C_GatherError = true)
    {C_BadKinds : Addr} (g_BadKinds : PySem.W.nsIn K mainGlobals "BadKinds" = some (some (.ref C_BadKinds))) (xx_BadKinds : PySem.W.excIn K C_BadKinds [.type "ValueError", .type "Exception", .type "BaseException", .type "object"] "ValueError.__new__" = true) (xk_BadKinds : PySem.W.keepIn K (.ref C_BadKinds) = true) (xb_BadKinds : PySem.W.subIn K (.ref C_BadKinds) (.type "BaseException") = some true) (xt_BadKinds : PySem.W.typeIn K (.ref C_BadKinds) = some (.type "type")) (xi_BadKinds : PySem.W.isClsIn K C_BadKinds = true)
    {C_BadAsk : Addr} (g_BadAsk : PySem.W.nsIn K mainGlobals "BadAsk" = some (some (.ref C_BadAsk))) (xx_BadAsk : PySem.W.excIn K C_BadAsk [.type "ValueError", .type "Exception", .type "BaseException", .type "object"] "ValueError.__new__" = true) (xk_BadAsk : PySem.W.keepIn K (.ref C_BadAsk) = true) (xb_BadAsk : PySem.W.subIn K (.ref C_BadAsk) (.type "BaseException") = some true) (xt_BadAsk : PySem.W.typeIn K (.ref C_BadAsk) = some (.type "type")) (xi_BadAsk : PySem.W.isClsIn K C_BadAsk = true)
    {C_KnownTicket : Addr} (g_KnownTicket : PySem.W.nsIn K mainGlobals "KnownTicket" = some (some (.ref C_KnownTicket))) (xx_KnownTicket : PySem.W.excIn K C_KnownTicket [.type "ValueError", .type "Exception", .type "BaseException", .type "object"] "ValueError.__new__" = true) (xk_KnownTicket : PySem.W.keepIn K (.ref C_KnownTicket) = true) (xb_KnownTicket : PySem.W.subIn K (.ref C_KnownTicket) (.type "BaseException") = some true) (xt_KnownTicket : PySem.W.typeIn K (.ref C_KnownTicket) = some (.type "type")) (xi_KnownTicket : PySem.W.isClsIn K C_KnownTicket = true)
    {C_NoTicket : Addr} (g_NoTicket : PySem.W.nsIn K mainGlobals "NoTicket" = some (some (.ref C_NoTicket))) (xx_NoTicket : PySem.W.excIn K C_NoTicket [.type "ValueError", .type "Exception", .type "BaseException", .type "object"] "ValueError.__new__" = true) (xk_NoTicket : PySem.W.keepIn K (.ref C_NoTicket) = true) (xb_NoTicket : PySem.W.subIn K (.ref C_NoTicket) (.type "BaseException") = some true) (xt_NoTicket : PySem.W.typeIn K (.ref C_NoTicket) = some (.type "type")) (xi_NoTicket : PySem.W.isClsIn K C_NoTicket = true)
    {C_NoGreat : Addr} (g_NoGreat : PySem.W.nsIn K mainGlobals "NoGreat" = some (some (.ref C_NoGreat))) (xx_NoGreat : PySem.W.excIn K C_NoGreat [.type "ValueError", .type "Exception", .type "BaseException", .type "object"] "ValueError.__new__" = true) (xk_NoGreat : PySem.W.keepIn K (.ref C_NoGreat) = true) (xb_NoGreat : PySem.W.subIn K (.ref C_NoGreat) (.type "BaseException") = some true) (xt_NoGreat : PySem.W.typeIn K (.ref C_NoGreat) = some (.type "type")) (xi_NoGreat : PySem.W.isClsIn K C_NoGreat = true)
    {C_BadAnswer : Addr} (g_BadAnswer : PySem.W.nsIn K mainGlobals "BadAnswer" = some (some (.ref C_BadAnswer))) (xx_BadAnswer : PySem.W.excIn K C_BadAnswer [.type "ValueError", .type "Exception", .type "BaseException", .type "object"] "ValueError.__new__" = true) (xk_BadAnswer : PySem.W.keepIn K (.ref C_BadAnswer) = true) (xb_BadAnswer : PySem.W.subIn K (.ref C_BadAnswer) (.type "BaseException") = some true) (xt_BadAnswer : PySem.W.typeIn K (.ref C_BadAnswer) = some (.type "type")) (xi_BadAnswer : PySem.W.isClsIn K C_BadAnswer = true)
    {C_NoRoom : Addr} (g_NoRoom : PySem.W.nsIn K mainGlobals "NoRoom" = some (some (.ref C_NoRoom))) (xx_NoRoom : PySem.W.excIn K C_NoRoom [.type "ValueError", .type "Exception", .type "BaseException", .type "object"] "ValueError.__new__" = true) (xk_NoRoom : PySem.W.keepIn K (.ref C_NoRoom) = true) (xb_NoRoom : PySem.W.subIn K (.ref C_NoRoom) (.type "BaseException") = some true) (xt_NoRoom : PySem.W.typeIn K (.ref C_NoRoom) = some (.type "type")) (xi_NoRoom : PySem.W.isClsIn K C_NoRoom = true)
    {C_TooMany : Addr} (g_TooMany : PySem.W.nsIn K mainGlobals "TooMany" = some (some (.ref C_TooMany))) (xx_TooMany : PySem.W.excIn K C_TooMany [.type "ValueError", .type "Exception", .type "BaseException", .type "object"] "ValueError.__new__" = true) (xk_TooMany : PySem.W.keepIn K (.ref C_TooMany) = true) (xb_TooMany : PySem.W.subIn K (.ref C_TooMany) (.type "BaseException") = some true) (xt_TooMany : PySem.W.typeIn K (.ref C_TooMany) = some (.type "type")) (xi_TooMany : PySem.W.isClsIn K C_TooMany = true)
    {C_NotLeast : Addr} (g_NotLeast : PySem.W.nsIn K mainGlobals "NotLeast" = some (some (.ref C_NotLeast))) (xx_NotLeast : PySem.W.excIn K C_NotLeast [.type "ValueError", .type "Exception", .type "BaseException", .type "object"] "ValueError.__new__" = true) (xk_NotLeast : PySem.W.keepIn K (.ref C_NotLeast) = true) (xb_NotLeast : PySem.W.subIn K (.ref C_NotLeast) (.type "BaseException") = some true) (xt_NotLeast : PySem.W.typeIn K (.ref C_NotLeast) = some (.type "type")) (xi_NotLeast : PySem.W.isClsIn K C_NotLeast = true)
    {C_NoText : Addr} (g_NoText : PySem.W.nsIn K mainGlobals "NoText" = some (some (.ref C_NoText))) (xx_NoText : PySem.W.excIn K C_NoText [.type "ValueError", .type "Exception", .type "BaseException", .type "object"] "ValueError.__new__" = true) (xk_NoText : PySem.W.keepIn K (.ref C_NoText) = true) (xb_NoText : PySem.W.subIn K (.ref C_NoText) (.type "BaseException") = some true) (xt_NoText : PySem.W.typeIn K (.ref C_NoText) = some (.type "type")) (xi_NoText : PySem.W.isClsIn K C_NoText = true)
    (ehg_NotLeast : PySem.W.findIn K (.ref C_NotLeast) "__getattribute__" = some (some (.builtin "BaseException.__getattribute__")))
    (ehk_NotLeast : PySem.W.findIn K (.ref C_NotLeast) "__getattr__" = some none)
    (ehs_NotLeast : PySem.W.subIn K (.ref C_NotLeast) (.type "BaseException") = some true)
    (ehd_NotLeast : PySem.W.hasDictIn K C_NotLeast = true)
    (eha_NotLeast : PySem.W.findIn K (.ref C_NotLeast) "__class__" = some (some (.builtin "object.__class__")))
    (ehn_NotLeast : PySem.W.specialIn K (.builtin "object.__class__") "__get__" = some (some (.builtin "getset_descriptor.__get__")))
    (eht_NotLeast : PySem.W.takesIn K (.builtin "object.__class__") = some true)
    (ehm_NotLeast : PySem.W.mroIn K C_NotLeast (.type "object") = some true)
    (sG_NotLeast : PySem.W.subIn K (.ref C_NotLeast) (.ref C_GatherError) = some true)
    (kv_NotLeast : PySem.W.kitOne K (.ref C_NotLeast) (.type "ValueError") = some true)
    (kt_NotLeast_GatherError : PySem.W.kitOne K (.ref C_NotLeast) (.ref C_GatherError) = some true)
    (kt_NotLeast_BadKinds : PySem.W.kitOne K (.ref C_NotLeast) (.ref C_BadKinds) = some false)
    (kt_NotLeast_BadAsk : PySem.W.kitOne K (.ref C_NotLeast) (.ref C_BadAsk) = some false)
    (kt_NotLeast_KnownTicket : PySem.W.kitOne K (.ref C_NotLeast) (.ref C_KnownTicket) = some false)
    (kt_NotLeast_NoTicket : PySem.W.kitOne K (.ref C_NotLeast) (.ref C_NoTicket) = some false)
    (kt_NotLeast_NoGreat : PySem.W.kitOne K (.ref C_NotLeast) (.ref C_NoGreat) = some false)
    (kt_NotLeast_BadAnswer : PySem.W.kitOne K (.ref C_NotLeast) (.ref C_BadAnswer) = some false)
    (kt_NotLeast_NoRoom : PySem.W.kitOne K (.ref C_NotLeast) (.ref C_NoRoom) = some false)
    (kt_NotLeast_TooMany : PySem.W.kitOne K (.ref C_NotLeast) (.ref C_TooMany) = some false)
    (kt_NotLeast_NotLeast : PySem.W.kitOne K (.ref C_NotLeast) (.ref C_NotLeast) = some true)
    (kt_NotLeast_NoText : PySem.W.kitOne K (.ref C_NotLeast) (.ref C_NoText) = some false) :
    ∃ fd : FuncData, (∀ (s : Shared) (v : Value), BindsTo s fd ⟨[v], []⟩ [("_law_script", v)]) ∧ ∀ base : Heap, K.In base → base.Ns mainGlobals mg → FnOk l.prog w K mg base CX0 6 fa fd ["_law_script"] (sp_law K) := by
  have e : f_law = fa := (Value.ref.inj (Option.some.inj (hfa.symm.trans (PySem.W.mg_of X G a_law)))).symm
  subst e
  let T : TX K mg := {
    a_least_plan := f_least_plan, fd_least_plan := _, F_least_plan := fun_mk (st := s_least_plan) l_least_plan c_least_plan k_least_plan, m_least_plan := PySem.W.mg_of X G a_least_plan, b_least_plan := (fun_mk (st := s_least_plan) l_least_plan c_least_plan k_least_plan).binds (ps := ["most", "windows"]) fun _ _ _ _ _ _ us hl => match us, hl with | [_, _], _ => rfl,
    a_is_full_by := f_is_full_by, fd_is_full_by := _, F_is_full_by := fun_mk (st := s_is_full_by) l_is_full_by c_is_full_by k_is_full_by, m_is_full_by := PySem.W.mg_of X G a_is_full_by, b_is_full_by := (fun_mk (st := s_is_full_by) l_is_full_by c_is_full_by k_is_full_by).binds (ps := ["most", "windows", "great", "last"]) fun _ _ _ _ _ _ us hl => match us, hl with | [_, _, _, _], _ => rfl,
    a_paper_of := f_paper_of, fd_paper_of := _, F_paper_of := fun_mk (st := s_paper_of) l_paper_of c_paper_of k_paper_of, m_paper_of := PySem.W.mg_of X G a_paper_of, b_paper_of := (fun_mk (st := s_paper_of) l_paper_of c_paper_of k_paper_of).binds (ps := ["most", "windows", "plan"]) fun _ _ _ _ _ _ us hl => match us, hl with | [_, _, _], _ => rfl,
    a_least := f_least, fd_least := _, F_least := fun_mk (st := s_least) l_least c_least k_least, m_least := PySem.W.mg_of X G a_least, b_least := (fun_mk (st := s_least) l_least c_least k_least).binds (ps := ["most", "windows"]) fun _ _ _ _ _ _ us hl => match us, hl with | [_, _], _ => rfl,
    a_thrift := f_thrift, fd_thrift := _, F_thrift := fun_mk (st := s_thrift) l_thrift c_thrift k_thrift, m_thrift := PySem.W.mg_of X G a_thrift, b_thrift := (fun_mk (st := s_thrift) l_thrift c_thrift k_thrift).binds (ps := ["most", "windows", "plan"]) fun _ _ _ _ _ _ us hl => match us, hl with | [_, _, _], _ => rfl,
    a__law_begin := f__law_begin, fd__law_begin := _, F__law_begin := fun_mk (st := s__law_begin) l__law_begin c__law_begin k__law_begin, m__law_begin := PySem.W.mg_of X G a__law_begin, b__law_begin := (fun_mk (st := s__law_begin) l__law_begin c__law_begin k__law_begin).binds (ps := ["_law_script"]) fun _ _ _ _ _ _ us hl => match us, hl with | [_], _ => rfl,
    a__law_pick := f__law_pick, fd__law_pick := _, F__law_pick := fun_mk (st := s__law_pick) l__law_pick c__law_pick k__law_pick, m__law_pick := PySem.W.mg_of X G a__law_pick, b__law_pick := (fun_mk (st := s__law_pick) l__law_pick c__law_pick k__law_pick).binds (ps := ["_law_state", "_law_many"]) fun _ _ _ _ _ _ us hl => match us, hl with | [_, _], _ => rfl,
    a__law_windows := f__law_windows, fd__law_windows := _, F__law_windows := fun_mk (st := s__law_windows) l__law_windows c__law_windows k__law_windows, m__law_windows := PySem.W.mg_of X G a__law_windows, b__law_windows := (fun_mk (st := s__law_windows) l__law_windows c__law_windows k__law_windows).binds (ps := ["_law_state", "_law_many"]) fun _ _ _ _ _ _ us hl => match us, hl with | [_, _], _ => rfl,
    a__law_int := f__law_int, fd__law_int := _, F__law_int := fun_mk (st := s__law_int) l__law_int c__law_int k__law_int, m__law_int := PySem.W.mg_of X G a__law_int, b__law_int := (fun_mk (st := s__law_int) l__law_int c__law_int k__law_int).binds (ps := ["_law_thing", "_law_low", "_law_high"]) fun _ _ _ _ _ _ us hl => match us, hl with | [_, _, _], _ => rfl,
    a__law_is_plan := f__law_is_plan, fd__law_is_plan := _, F__law_is_plan := fun_mk (st := s__law_is_plan) l__law_is_plan c__law_is_plan k__law_is_plan, m__law_is_plan := PySem.W.mg_of X G a__law_is_plan, b__law_is_plan := (fun_mk (st := s__law_is_plan) l__law_is_plan c__law_is_plan k__law_is_plan).binds (ps := ["_law_most", "_law_windows_here", "_law_thing"]) fun _ _ _ _ _ _ us hl => match us, hl with | [_, _, _], _ => rfl,
    a__law_worth := f__law_worth, fd__law_worth := _, F__law_worth := fun_mk (st := s__law_worth) l__law_worth c__law_worth k__law_worth, m__law_worth := PySem.W.mg_of X G a__law_worth, b__law_worth := (fun_mk (st := s__law_worth) l__law_worth c__law_worth k__law_worth).binds (ps := ["_law_most", "_law_windows_here", "_law_paper"]) fun _ _ _ _ _ _ us hl => match us, hl with | [_, _, _], _ => rfl,
    a__law_is_paper := f__law_is_paper, fd__law_is_paper := _, F__law_is_paper := fun_mk (st := s__law_is_paper) l__law_is_paper c__law_is_paper k__law_is_paper, m__law_is_paper := PySem.W.mg_of X G a__law_is_paper, b__law_is_paper := (fun_mk (st := s__law_is_paper) l__law_is_paper c__law_is_paper k__law_is_paper).binds (ps := ["_law_thing"]) fun _ _ _ _ _ _ us hl => match us, hl with | [_], _ => rfl,
    a__law_tick := f__law_tick, fd__law_tick := _, F__law_tick := fun_mk (st := s__law_tick) l__law_tick c__law_tick k__law_tick, m__law_tick := PySem.W.mg_of X G a__law_tick, b__law_tick := (fun_mk (st := s__law_tick) l__law_tick c__law_tick k__law_tick).binds (ps := ["_law_state", "_law_windows_here", "_law_window", "_law_late"]) fun _ _ _ _ _ _ us hl => match us, hl with | [_, _, _, _], _ => rfl,
    a__law_plan := f__law_plan, fd__law_plan := _, F__law_plan := fun_mk (st := s__law_plan) l__law_plan c__law_plan k__law_plan, m__law_plan := PySem.W.mg_of X G a__law_plan, b__law_plan := (fun_mk (st := s__law_plan) l__law_plan c__law_plan k__law_plan).binds (ps := ["_law_state", "_law_most", "_law_windows_here", "_law_late"]) fun _ _ _ _ _ _ us hl => match us, hl with | [_, _, _, _], _ => rfl,
    a__law_told := f__law_told, fd__law_told := _, F__law_told := fun_mk (st := s__law_told) l__law_told c__law_told k__law_told, m__law_told := PySem.W.mg_of X G a__law_told, b__law_told := (fun_mk (st := s__law_told) l__law_told c__law_told k__law_told).binds (ps := ["_law_most", "_law_windows_here", "_law_plan_here"]) fun _ _ _ _ _ _ us hl => match us, hl with | [_, _, _], _ => rfl,
    a_law := f_law, fd_law := _, F_law := fun_mk (st := s_law) l_law c_law k_law, m_law := PySem.W.mg_of X G a_law, b_law := (fun_mk (st := s_law) l_law c_law k_law).binds (ps := ["_law_script"]) fun _ _ _ _ _ _ us hl => match us, hl with | [_], _ => rfl,
    n_ValueError := PySem.W.mg_none_of X G z_ValueError,
    n_abs := PySem.W.mg_none_of X G z_abs,
    n_bool := PySem.W.mg_none_of X G z_bool,
    n_enumerate := PySem.W.mg_none_of X G z_enumerate,
    n_int := PySem.W.mg_none_of X G z_int,
    n_isinstance := PySem.W.mg_none_of X G z_isinstance,
    n_len := PySem.W.mg_none_of X G z_len,
    n_list := PySem.W.mg_none_of X G z_list,
    n_min := PySem.W.mg_none_of X G z_min,
    n_range := PySem.W.mg_none_of X G z_range,
    n_reversed := PySem.W.mg_none_of X G z_reversed,
    n_set := PySem.W.mg_none_of X G z_set,
    n_sorted := PySem.W.mg_none_of X G z_sorted,
    n_tuple := PySem.W.mg_none_of X G z_tuple,
    C_GatherError := C_GatherError, x_GatherError := ⟨PySem.W.mg_of X G g_GatherError, xx_GatherError, xk_GatherError, xb_GatherError, xt_GatherError, xi_GatherError⟩,
    C_BadKinds := C_BadKinds, x_BadKinds := ⟨PySem.W.mg_of X G g_BadKinds, xx_BadKinds, xk_BadKinds, xb_BadKinds, xt_BadKinds, xi_BadKinds⟩,
    C_BadAsk := C_BadAsk, x_BadAsk := ⟨PySem.W.mg_of X G g_BadAsk, xx_BadAsk, xk_BadAsk, xb_BadAsk, xt_BadAsk, xi_BadAsk⟩,
    C_KnownTicket := C_KnownTicket, x_KnownTicket := ⟨PySem.W.mg_of X G g_KnownTicket, xx_KnownTicket, xk_KnownTicket, xb_KnownTicket, xt_KnownTicket, xi_KnownTicket⟩,
    C_NoTicket := C_NoTicket, x_NoTicket := ⟨PySem.W.mg_of X G g_NoTicket, xx_NoTicket, xk_NoTicket, xb_NoTicket, xt_NoTicket, xi_NoTicket⟩,
    C_NoGreat := C_NoGreat, x_NoGreat := ⟨PySem.W.mg_of X G g_NoGreat, xx_NoGreat, xk_NoGreat, xb_NoGreat, xt_NoGreat, xi_NoGreat⟩,
    C_BadAnswer := C_BadAnswer, x_BadAnswer := ⟨PySem.W.mg_of X G g_BadAnswer, xx_BadAnswer, xk_BadAnswer, xb_BadAnswer, xt_BadAnswer, xi_BadAnswer⟩,
    C_NoRoom := C_NoRoom, x_NoRoom := ⟨PySem.W.mg_of X G g_NoRoom, xx_NoRoom, xk_NoRoom, xb_NoRoom, xt_NoRoom, xi_NoRoom⟩,
    C_TooMany := C_TooMany, x_TooMany := ⟨PySem.W.mg_of X G g_TooMany, xx_TooMany, xk_TooMany, xb_TooMany, xt_TooMany, xi_TooMany⟩,
    C_NotLeast := C_NotLeast, x_NotLeast := ⟨PySem.W.mg_of X G g_NotLeast, xx_NotLeast, xk_NotLeast, xb_NotLeast, xt_NotLeast, xi_NotLeast⟩,
    C_NoText := C_NoText, x_NoText := ⟨PySem.W.mg_of X G g_NoText, xx_NoText, xk_NoText, xb_NoText, xt_NoText, xi_NoText⟩,
    ec_NotLeast := ⟨ehg_NotLeast, ehk_NotLeast, ehs_NotLeast, ehd_NotLeast, eha_NotLeast, ehn_NotLeast, eht_NotLeast, ehm_NotLeast⟩,
    sG_NotLeast := sG_NotLeast,
    kv_NotLeast := kv_NotLeast,
    kt_NotLeast_GatherError := kt_NotLeast_GatherError,
    kt_NotLeast_BadKinds := kt_NotLeast_BadKinds,
    kt_NotLeast_BadAsk := kt_NotLeast_BadAsk,
    kt_NotLeast_KnownTicket := kt_NotLeast_KnownTicket,
    kt_NotLeast_NoTicket := kt_NotLeast_NoTicket,
    kt_NotLeast_NoGreat := kt_NotLeast_NoGreat,
    kt_NotLeast_BadAnswer := kt_NotLeast_BadAnswer,
    kt_NotLeast_NoRoom := kt_NotLeast_NoRoom,
    kt_NotLeast_TooMany := kt_NotLeast_TooMany,
    kt_NotLeast_NotLeast := kt_NotLeast_NotLeast,
    kt_NotLeast_NoText := kt_NotLeast_NoText }
  exact ⟨_, fun s v => .of_eq rfl, fun base _ _ => ok_law T⟩
theorem walk {l : PySem.W.OpenLaw} {q : Program} {loose : List Str} {XP : (Str → Option Value) → Heap → Prop} {YP : World → Heap → Prop} {d : DefRec} {K : Params → PySem.W.Frag} (hn : l.most = some 63) (hdf : d.params.defaults = [])
    (hY : ∀ (w : World) (h : Heap), YP w h → (K w.params).In h)
    (F : ∀ (w : World) (mg : Str → Option Value) (fa : Addr) (h : Heap), (K w.params).In h → h.Ns mainGlobals mg → mg d.name = some (.ref fa) →
      ∃ fd : FuncData, (∀ (s : Shared) (u : Value), BindsTo s fd ⟨[u], []⟩ [("_law_script", u)]) ∧ ∀ base : Heap, (K w.params).In base → base.Ns mainGlobals mg → FnOk l.prog w (K w.params) mg base CX0 6 fa fd ["_law_script"] (sp_law (K w.params))) :
    PySem.W.WalkO q loose XP YP l.row.toRowW d [] (fun f vs => PySem.call f vs) :=
  L2.walk_of (n := 63) (k := 6) (x := "_law_script") (CX := fun _ => CX0) (sp := fun w => sp_law (K w.params)) hn (by decide) hdf ⟨rfl, by decide, by decide⟩ hY F (fun _ _ a ns hl _ hS => ⟨a, ns, rfl, hS, hl, fun _ => rfl⟩) fun _ _ _ _ _ z => z
end My
open PySem PySem.W PyProof.Rows in
set_option maxRecDepth 100000 in
set_option maxHeartbeats 0 in
theorem PySem.Challenge.cw_gatherdesk_k11_thrift_holds : PySem.Challenge.rw_gatherdesk_k11_thrift.Holds := by
  w_on; o_law; k_head; (case hw => w_witness2)
  k_fill
  refine My.walk (l := PySem.Challenge.rw_gatherdesk_k11_thrift) rfl rfl (fun w h Y => PySem.W.kIn_of Y) ?F
  case F =>
    intro w mg fa h KX G hmg
    refine' My.all_mk KX G hmg ?a_least_plan ?l_least_plan ?c_least_plan ?k_least_plan ?a_is_full_by ?l_is_full_by ?c_is_full_by ?k_is_full_by ?a_paper_of ?l_paper_of ?c_paper_of ?k_paper_of ?a_least ?l_least ?c_least ?k_least ?a_thrift ?l_thrift ?c_thrift ?k_thrift ?a__law_begin ?l__law_begin ?c__law_begin ?k__law_begin ?a__law_pick ?l__law_pick ?c__law_pick ?k__law_pick ?a__law_windows ?l__law_windows ?c__law_windows ?k__law_windows ?a__law_int ?l__law_int ?c__law_int ?k__law_int ?a__law_is_plan ?l__law_is_plan ?c__law_is_plan ?k__law_is_plan ?a__law_worth ?l__law_worth ?c__law_worth ?k__law_worth ?a__law_is_paper ?l__law_is_paper ?c__law_is_paper ?k__law_is_paper ?a__law_tick ?l__law_tick ?c__law_tick ?k__law_tick ?a__law_plan ?l__law_plan ?c__law_plan ?k__law_plan ?a__law_told ?l__law_told ?c__law_told ?k__law_told ?a_law ?l_law ?c_law ?k_law ?z_ValueError ?z_abs ?z_bool ?z_enumerate ?z_int ?z_isinstance ?z_len ?z_list ?z_min ?z_range ?z_reversed ?z_set ?z_sorted ?z_tuple ?g_GatherError ?xx_GatherError ?xk_GatherError ?xb_GatherError ?xt_GatherError ?xi_GatherError ?g_BadKinds ?xx_BadKinds ?xk_BadKinds ?xb_BadKinds ?xt_BadKinds ?xi_BadKinds ?g_BadAsk ?xx_BadAsk ?xk_BadAsk ?xb_BadAsk ?xt_BadAsk ?xi_BadAsk ?g_KnownTicket ?xx_KnownTicket ?xk_KnownTicket ?xb_KnownTicket ?xt_KnownTicket ?xi_KnownTicket ?g_NoTicket ?xx_NoTicket ?xk_NoTicket ?xb_NoTicket ?xt_NoTicket ?xi_NoTicket ?g_NoGreat ?xx_NoGreat ?xk_NoGreat ?xb_NoGreat ?xt_NoGreat ?xi_NoGreat ?g_BadAnswer ?xx_BadAnswer ?xk_BadAnswer ?xb_BadAnswer ?xt_BadAnswer ?xi_BadAnswer ?g_NoRoom ?xx_NoRoom ?xk_NoRoom ?xb_NoRoom ?xt_NoRoom ?xi_NoRoom ?g_TooMany ?xx_TooMany ?xk_TooMany ?xb_TooMany ?xt_TooMany ?xi_TooMany ?g_NotLeast ?xx_NotLeast ?xk_NotLeast ?xb_NotLeast ?xt_NotLeast ?xi_NotLeast ?g_NoText ?xx_NoText ?xk_NoText ?xb_NoText ?xt_NoText ?xi_NoText ?ehg_NotLeast ?ehk_NotLeast ?ehs_NotLeast ?ehd_NotLeast ?eha_NotLeast ?ehn_NotLeast ?eht_NotLeast ?ehm_NotLeast ?sG_NotLeast ?kv_NotLeast ?kt_NotLeast_GatherError ?kt_NotLeast_BadKinds ?kt_NotLeast_BadAsk ?kt_NotLeast_KnownTicket ?kt_NotLeast_NoTicket ?kt_NotLeast_NoGreat ?kt_NotLeast_BadAnswer ?kt_NotLeast_NoRoom ?kt_NotLeast_TooMany ?kt_NotLeast_NotLeast ?kt_NotLeast_NoText
    (case a_least_plan => k_is)
    (case l_least_plan => k_is)
    (case c_least_plan => k_is)
    (case k_least_plan => k_is)
    (case a_is_full_by => k_is)
    (case l_is_full_by => k_is)
    (case c_is_full_by => k_is)
    (case k_is_full_by => k_is)
    (case a_paper_of => k_is)
    (case l_paper_of => k_is)
    (case c_paper_of => k_is)
    (case k_paper_of => k_is)
    (case a_least => k_is)
    (case l_least => k_is)
    (case c_least => k_is)
    (case k_least => k_is)
    (case a_thrift => k_is)
    (case l_thrift => k_is)
    (case c_thrift => k_is)
    (case k_thrift => k_is)
    (case a__law_begin => k_is)
    (case l__law_begin => k_is)
    (case c__law_begin => k_is)
    (case k__law_begin => k_is)
    (case a__law_pick => k_is)
    (case l__law_pick => k_is)
    (case c__law_pick => k_is)
    (case k__law_pick => k_is)
    (case a__law_windows => k_is)
    (case l__law_windows => k_is)
    (case c__law_windows => k_is)
    (case k__law_windows => k_is)
    (case a__law_int => k_is)
    (case l__law_int => k_is)
    (case c__law_int => k_is)
    (case k__law_int => k_is)
    (case a__law_is_plan => k_is)
    (case l__law_is_plan => k_is)
    (case c__law_is_plan => k_is)
    (case k__law_is_plan => k_is)
    (case a__law_worth => k_is)
    (case l__law_worth => k_is)
    (case c__law_worth => k_is)
    (case k__law_worth => k_is)
    (case a__law_is_paper => k_is)
    (case l__law_is_paper => k_is)
    (case c__law_is_paper => k_is)
    (case k__law_is_paper => k_is)
    (case a__law_tick => k_is)
    (case l__law_tick => k_is)
    (case c__law_tick => k_is)
    (case k__law_tick => k_is)
    (case a__law_plan => k_is)
    (case l__law_plan => k_is)
    (case c__law_plan => k_is)
    (case k__law_plan => k_is)
    (case a__law_told => k_is)
    (case l__law_told => k_is)
    (case c__law_told => k_is)
    (case k__law_told => k_is)
    (case a_law => k_is)
    (case l_law => k_is)
    (case c_law => k_is)
    (case k_law => k_is)
    (case z_ValueError => k_is)
    (case z_abs => k_is)
    (case z_bool => k_is)
    (case z_enumerate => k_is)
    (case z_int => k_is)
    (case z_isinstance => k_is)
    (case z_len => k_is)
    (case z_list => k_is)
    (case z_min => k_is)
    (case z_range => k_is)
    (case z_reversed => k_is)
    (case z_set => k_is)
    (case z_sorted => k_is)
    (case z_tuple => k_is)
    (case g_GatherError => k_is)
    (case xx_GatherError => k_exc)
    (case xk_GatherError => k_is)
    (case xb_GatherError => k_is)
    (case xt_GatherError => k_is)
    (case xi_GatherError => k_is)
    (case g_BadKinds => k_is)
    (case xx_BadKinds => k_exc)
    (case xk_BadKinds => k_is)
    (case xb_BadKinds => k_is)
    (case xt_BadKinds => k_is)
    (case xi_BadKinds => k_is)
    (case g_BadAsk => k_is)
    (case xx_BadAsk => k_exc)
    (case xk_BadAsk => k_is)
    (case xb_BadAsk => k_is)
    (case xt_BadAsk => k_is)
    (case xi_BadAsk => k_is)
    (case g_KnownTicket => k_is)
    (case xx_KnownTicket => k_exc)
    (case xk_KnownTicket => k_is)
    (case xb_KnownTicket => k_is)
    (case xt_KnownTicket => k_is)
    (case xi_KnownTicket => k_is)
    (case g_NoTicket => k_is)
    (case xx_NoTicket => k_exc)
    (case xk_NoTicket => k_is)
    (case xb_NoTicket => k_is)
    (case xt_NoTicket => k_is)
    (case xi_NoTicket => k_is)
    (case g_NoGreat => k_is)
    (case xx_NoGreat => k_exc)
    (case xk_NoGreat => k_is)
    (case xb_NoGreat => k_is)
    (case xt_NoGreat => k_is)
    (case xi_NoGreat => k_is)
    (case g_BadAnswer => k_is)
    (case xx_BadAnswer => k_exc)
    (case xk_BadAnswer => k_is)
    (case xb_BadAnswer => k_is)
    (case xt_BadAnswer => k_is)
    (case xi_BadAnswer => k_is)
    (case g_NoRoom => k_is)
    (case xx_NoRoom => k_exc)
    (case xk_NoRoom => k_is)
    (case xb_NoRoom => k_is)
    (case xt_NoRoom => k_is)
    (case xi_NoRoom => k_is)
    (case g_TooMany => k_is)
    (case xx_TooMany => k_exc)
    (case xk_TooMany => k_is)
    (case xb_TooMany => k_is)
    (case xt_TooMany => k_is)
    (case xi_TooMany => k_is)
    (case g_NotLeast => k_is)
    (case xx_NotLeast => k_exc)
    (case xk_NotLeast => k_is)
    (case xb_NotLeast => k_is)
    (case xt_NotLeast => k_is)
    (case xi_NotLeast => k_is)
    (case g_NoText => k_is)
    (case xx_NoText => k_exc)
    (case xk_NoText => k_is)
    (case xb_NoText => k_is)
    (case xt_NoText => k_is)
    (case xi_NoText => k_is)
    (case ehg_NotLeast => k_is)
    (case ehk_NotLeast => k_is)
    (case ehs_NotLeast => k_is)
    (case ehd_NotLeast => k_is)
    (case eha_NotLeast => k_is)
    (case ehn_NotLeast => k_is)
    (case eht_NotLeast => k_is)
    (case ehm_NotLeast => k_is)
    (case sG_NotLeast => k_is)
    (case kv_NotLeast => kit_is)
    (case kt_NotLeast_GatherError => kit_is)
    (case kt_NotLeast_BadKinds => kit_is)
    (case kt_NotLeast_BadAsk => kit_is)
    (case kt_NotLeast_KnownTicket => kit_is)
    (case kt_NotLeast_NoTicket => kit_is)
    (case kt_NotLeast_NoGreat => kit_is)
    (case kt_NotLeast_BadAnswer => kit_is)
    (case kt_NotLeast_NoRoom => kit_is)
    (case kt_NotLeast_TooMany => kit_is)
    (case kt_NotLeast_NotLeast => kit_is)
    (case kt_NotLeast_NoText => kit_is)
