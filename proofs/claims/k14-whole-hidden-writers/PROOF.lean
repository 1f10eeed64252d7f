import PyProof.Rows.All
import Wide.All
import OpenK.AllK
import Wide.FinOn
import HandS.ForMost
import HandS.Property
import HandS.Defaults
import HandS.MakeKwOnly
import HandS.Conv
import HandS.Zip
import HandS.SetKeys
import HandS.ClsMeth
import HandS.WrittenGet
import HandS.IsInst
import HandS.Sort
import HandS.Walk
import HandS.TupLe
import HandS.TryOnly
import HandS.More
import KE.KEqSeq
import PySem.Challenge.RW_peermend_k14_whole_hidden_writers
set_option Elab.async false
section
/-! KMathA: the forms of groups as plain functions, the local patterns decided, the forms under an injective map. -/
set_option linter.all false
namespace KM

/-- the path from a record: fuel, path so far, its last record -/
def walkF {A : Type} [DecidableEq A] (f : A → A) : Nat → List A → A → List A
  | 0, path, _ => path
  | k + 1, path, last => if f last ∈ path then path else walkF f k (path ++ [f last]) (f last)

def restOf {A : Type} [DecidableEq A] (g path : List A) : List A := g.filter fun r => decide (r ∉ path)
def shapeOf {A : Type} [DecidableEq A] (f : A → A) (recs : List A) : List Nat := recs.map fun r => recs.idxOf (f r)
def unshownOf {A : Type} [DecidableEq A] (f : A → A) (g : List A) : List A := g.filter fun r => decide (r ∉ g.map f)
/-- shape and records of a group -/
def formOf {A : Type} [DecidableEq A] (f : A → A) (g : List A) : Option (List Nat × List A) :=
  match unshownOf f g ++ g with
  | [] => none
  | a :: _ => let path := walkF f 4 [a] a; let recs := path ++ restOf g path; some (shapeOf f recs, recs)

inductive W8 where
  | free | pair | claim | hook | relay | clamp | trail | wheel
  deriving DecidableEq

def wordOf : List Nat → Option W8
  | [0] => some .free
  | [1, 0] => some .pair
  | [1, 1] => some .claim
  | [1, 2, 1] => some .hook
  | [1, 2, 2] => some .relay
  | [1, 2, 1, 2] => some .clamp
  | [1, 2, 3, 2] => some .trail
  | [1, 2, 3, 0] => some .wheel
  | _ => none

def W8.outs : W8 → List (List Nat)
  | .free => [[0]]
  | .pair => [[1, 0]]
  | .claim => [[1, 0]]
  | .hook => [[0, 2, 1], [1, 0, 2]]
  | .relay => [[1, 0, 2], [0, 2, 1]]
  | .clamp => [[1, 0, 3, 2], [3, 2, 1, 0]]
  | .trail => [[1, 0, 3, 2], [3, 2, 1, 0]]
  | .wheel => [[1, 0, 3, 2], [3, 2, 1, 0]]
def W8.torn : W8 → Bool
  | .free => false
  | .pair => false
  | _ => true

/-! ### the forms under an injective map -/
section
variable {A B : Type} [DecidableEq A] [DecidableEq B] {e : A → B} {f : A → A} {F : B → B}
theorem mem_map_inj (he : ∀ a b, e a = e b → a = b) {x : A} {l : List A} : e x ∈ l.map e ↔ x ∈ l := by
  constructor
  · intro h
    obtain ⟨y, hy, h⟩ := List.mem_map.mp h
    rw [← he _ _ h]; exact hy
  · exact List.mem_map_of_mem
theorem walkF_map (he : ∀ a b, e a = e b → a = b) (hF : ∀ a, F (e a) = e (f a)) : ∀ (k : Nat) (path : List A) (last : A), walkF F k (path.map e) (e last) = (walkF f k path last).map e
  | 0, path, last => rfl
  | k + 1, path, last => by
    unfold walkF
    rw [hF]
    by_cases h : f last ∈ path
    · rw [if_pos h, if_pos ((mem_map_inj he).mpr h)]
    · rw [if_neg h, if_neg (fun z => h ((mem_map_inj he).mp z))]
      have := walkF_map he hF k (path ++ [f last]) (f last)
      rw [List.map_append, List.map_singleton] at this
      exact this
theorem filter_map_inj (p : A → Bool) (q : B → Bool) (h : ∀ a, q (e a) = p a) (l : List A) : (l.map e).filter q = (l.filter p).map e := by
  induction l with
  | nil => rfl
  | cons a l ih =>
    rw [List.map_cons, List.filter_cons, List.filter_cons, h, ih]
    split <;> simp
theorem restOf_map (he : ∀ a b, e a = e b → a = b) (g path : List A) : restOf (g.map e) (path.map e) = (restOf g path).map e := by
  refine filter_map_inj _ _ (fun a => ?_) g
  exact decide_eq_decide.mpr (not_congr (mem_map_inj he))
theorem idxOf_map (he : ∀ a b, e a = e b → a = b) (x : A) : ∀ l : List A, (l.map e).idxOf (e x) = l.idxOf x
  | [] => rfl
  | a :: l => by
    rw [List.map_cons, List.idxOf_cons, List.idxOf_cons, idxOf_map he x l]
    have : (e a == e x) = (a == x) := by
      by_cases h : a = x
      · subst h; simp
      · have h' : ¬ e a = e x := fun z => h (he _ _ z)
        rw [beq_eq_false_iff_ne.mpr h, beq_eq_false_iff_ne.mpr h']
    rw [this]
theorem shapeOf_map (he : ∀ a b, e a = e b → a = b) (hF : ∀ a, F (e a) = e (f a)) (l : List A) : shapeOf F (l.map e) = shapeOf f l := by
  unfold shapeOf
  rw [List.map_map]
  refine List.map_congr_left fun a _ => ?_
  show (l.map e).idxOf (F (e a)) = _
  rw [hF, idxOf_map he]
theorem unshownOf_map (he : ∀ a b, e a = e b → a = b) (hF : ∀ a, F (e a) = e (f a)) (g : List A) : unshownOf F (g.map e) = (unshownOf f g).map e := by
  refine filter_map_inj _ _ (fun a => ?_) g
  refine decide_eq_decide.mpr (not_congr ?_)
  have : (g.map e).map F = (g.map f).map e := by
    rw [List.map_map, List.map_map]
    exact List.map_congr_left fun a _ => hF a
  rw [this]
  exact mem_map_inj he
theorem formOf_map (he : ∀ a b, e a = e b → a = b) (hF : ∀ a, F (e a) = e (f a)) (g : List A) : formOf F (g.map e) = (formOf f g).map fun q => (q.1, q.2.map e) := by
  unfold formOf
  rw [unshownOf_map he hF, ← List.map_append]
  cases h : unshownOf f g ++ g with
  | nil => rfl
  | cons a l =>
    have h1 := walkF_map he hF 4 [a] a
    rw [List.map_singleton] at h1
    simp only [List.map_cons, Option.map_some]
    rw [h1, restOf_map he, ← List.map_append, shapeOf_map he hF]
end

/-! ### the local patterns -/
inductive BW where
  | free | pair | tie | move | cross
  deriving DecidableEq
def BW.len : BW → Nat
  | .free => 1
  | .pair => 2
  | .tie => 2
  | .move => 3
  | .cross => 4
def BW.isChange : BW → Bool
  | .free => false
  | .pair => false
  | _ => true
/-- the two sides of a word: the place of the record that the i-th record shows -/
def BW.side : BW → Bool → List Nat
  | .free, _ => [0]
  | .pair, _ => [1, 0]
  | .tie, false => [0, 1]
  | .tie, true => [1, 0]
  | .move, false => [1, 0, 2]
  | .move, true => [2, 1, 0]
  | .cross, false => [1, 0, 3, 2]
  | .cross, true => [3, 2, 1, 0]
theorem BW.len_pos (w : BW) : 0 < w.len := by cases w <;> decide
def toF (m : Nat) (hm : 0 < m) (l : List Nat) : Fin m → Fin m := fun i => ⟨l.getD i.val 0 % m, Nat.mod_lt _ hm⟩
def BW.sideF (w : BW) (s : Bool) : Fin w.len → Fin w.len := toF w.len w.len_pos (w.side s)
/-- written where bs says so -/
def BW.mix (w : BW) (s : Bool) (bs : List Bool) : Fin w.len → Fin w.len := fun i => if bs.getD i.val false = true then w.sideF (!s) i else w.sideF s i

def allLists (m : Nat) : Nat → List (List (Fin m))
  | 0 => [[]]
  | k + 1 => (List.finRange m).flatMap fun a => (allLists m k).map (a :: ·)
theorem mem_allLists {m : Nat} : ∀ c : List (Fin m), c ∈ allLists m c.length
  | [] => by simp [allLists]
  | a :: c => by
    show a :: c ∈ (List.finRange m).flatMap _
    exact List.mem_flatMap.mpr ⟨a, List.mem_finRange a, List.mem_map_of_mem (mem_allLists c)⟩
def allBools : Nat → List (List Bool)
  | 0 => [[]]
  | k + 1 => (allBools k).map (false :: ·) ++ (allBools k).map (true :: ·)
theorem mem_allBools : ∀ b : List Bool, b ∈ allBools b.length
  | [] => by simp [allBools]
  | false :: b => List.mem_append_left _ (List.mem_map_of_mem (mem_allBools b))
  | true :: b => List.mem_append_right _ (List.mem_map_of_mem (mem_allBools b))

/-- c is a whole group of f -/
def closedB {m : Nat} (f : Fin m → Fin m) (c : List (Fin m)) : Bool := (List.finRange m).all fun i => c.contains i == c.contains (f i)
/-- a set that f keeps -/
def keepsB {m : Nat} (f : Fin m → Fin m) (S : List Bool) : Bool := (List.finRange m).all fun i => S.getD i.val false == S.getD (f i).val false
def constB {m : Nat} (S : List Bool) (c : List (Fin m)) : Bool := c.all fun i => c.all fun j => S.getD i.val false == S.getD j.val false
def connB {m : Nat} (f : Fin m → Fin m) (c : List (Fin m)) : Bool := (allBools m).all fun S => !(keepsB f S) || constB S c
def nodupB {m : Nat} : List (Fin m) → Bool
  | [] => true
  | a :: l => !(l.contains a) && nodupB l
def validB {m : Nat} (f : Fin m → Fin m) (c : List (Fin m)) : Bool := !c.isEmpty && nodupB c && closedB f c && connB f c
/-- the records take the names that s says -/
def takesB {m : Nat} (s : Fin m → Fin m) (recs : List (Fin m)) (pl : List Nat) : Bool := recs.length == pl.length && (recs.zip pl).all fun p => recs[p.2]? == some (s p.1)
/-- what is said of a group's form -/
def saysB {m : Nat} (f : Fin m → Fin m) (c : List (Fin m)) (q : W8 → List (Fin m) → Bool) : Bool :=
  match formOf f c with
  | none => false
  | some (sh, r) => match wordOf sh with
    | none => false
    | some w => q w r
def classes {m : Nat} (f : Fin m → Fin m) : List (List (Fin m)) := ((List.range m).flatMap fun k => allLists m (k + 1)).filter (validB f)
def clsA (w : BW) (s : Bool) (f : Fin w.len → Fin w.len) (c : List (Fin w.len)) : Bool := saysB f c fun w8 r => w8.outs.all fun pl => takesB (w.sideF s) r pl
def clsC (w : BW) (s : Bool) (f : Fin w.len → Fin w.len) (c : List (Fin w.len)) : Bool :=
  ((List.finRange w.len).all fun i => c.contains i) && saysB f c fun w8 r => w8.outs.all fun pl => takesB (w.sideF s) r pl || takesB (w.sideF (!s)) r pl
def clsT {m : Nat} (f : Fin m → Fin m) (part : Bool) (t : Fin m) (c : List (Fin m)) : Bool := saysB f c fun w8 _ => w8.torn == (part && c.contains t)
def okCs (w : BW) (s : Bool) (bs : List Bool) (f : Fin w.len → Fin w.len) (cs : List (List (Fin w.len))) : Bool :=
  (cs.all fun c => saysB f c fun _ r => r.isPerm c) &&
  (bs.any id || cs.all (clsA w s f)) && (!(bs.all id) || cs.all (clsA w (!s) f)) && (cs.all (clsA w s f) || cs.all (clsA w (!s) f) || cs.all (clsC w s f)) &&
  (List.finRange w.len).any fun t => cs.all (clsT f (w.isChange && bs.any id && !(bs.all id)) t)
def okB (w : BW) (s : Bool) (bs : List Bool) : Bool := okCs w s bs (w.mix s bs) (classes (w.mix s bs))
def okAll : Bool := [BW.free, .pair, .tie, .move, .cross].all fun w => [false, true].all fun s => (allBools w.len).all fun bs => okB w s bs
theorem okAll_true : okAll = true := by decide +kernel
end KM
end

section
/-! KMathB: the groups of an image in a world of blocks; the torn pieces counted; the repair keeps each block whole. -/
set_option linter.all false
namespace KM
/-! ### lists -/
theorem flat_one {A B : Type} (f : B → List A) : ∀ {bs : List B}, (bs.map f).flatten.Nodup → ∀ {b c : B} {x : A}, b ∈ bs → c ∈ bs → x ∈ f b → x ∈ f c → b = c
  | [], _, _, _, _, h, _, _, _ => by cases h
  | a :: bs, hn, b, c, x, hb, hc, xb, xc => by
    rw [List.map_cons, List.flatten_cons, List.nodup_append] at hn
    obtain ⟨_, h2, h3⟩ := hn
    have out : ∀ d, d ∈ bs → x ∈ f d → x ∈ (bs.map f).flatten := fun d hd xd => List.mem_flatten.mpr ⟨f d, List.mem_map_of_mem hd, xd⟩
    rcases List.mem_cons.mp hb with e1 | hb'
    · rcases List.mem_cons.mp hc with e2 | hc'
      · rw [e1, e2]
      · subst e1; exact absurd rfl (h3 x xb x (out c hc' xc))
    · rcases List.mem_cons.mp hc with e2 | hc'
      · subst e2; exact absurd rfl (h3 x xc x (out b hb' xb))
      · exact flat_one f h2 hb' hc' xb xc
theorem flat_nd {A B : Type} (f : B → List A) : ∀ {bs : List B}, (bs.map f).flatten.Nodup → ∀ {b : B}, b ∈ bs → (f b).Nodup
  | [], _, _, h => by cases h
  | a :: bs, hn, b, hb => by
    rw [List.map_cons, List.flatten_cons, List.nodup_append] at hn
    rcases List.mem_cons.mp hb with rfl | hb
    · exact hn.1
    · exact flat_nd f hn.2.1 hb
theorem flat_ndl {A B : Type} (f : B → List A) : ∀ {bs : List B}, (bs.map f).flatten.Nodup → (∀ b ∈ bs, f b ≠ []) → bs.Nodup
  | [], _, _ => List.nodup_nil
  | a :: bs, hn, he => by
    rw [List.nodup_cons]
    have hn' := hn
    rw [List.map_cons, List.flatten_cons, List.nodup_append] at hn'
    refine ⟨fun ha => ?_, flat_ndl f hn'.2.1 fun b hb => he b (List.mem_cons_of_mem _ hb)⟩
    obtain ⟨x, hx⟩ := List.exists_mem_of_ne_nil _ (he a List.mem_cons_self)
    exact hn'.2.2 x hx x (List.mem_flatten.mpr ⟨f a, List.mem_map_of_mem ha, hx⟩) rfl
def one (b : Bool) : Nat := if b = true then 1 else 0
theorem filter_len {A : Type} (q : A → Bool) : ∀ l : List A, (l.filter q).length = (l.map fun x => one (q x)).sum
  | [] => rfl
  | a :: l => by
    rw [List.filter_cons, List.map_cons, List.sum_cons, ← filter_len q l]
    unfold one
    split <;> simp_all <;> omega
theorem sum_swap {A B : Type} (h : A → B → Nat) : ∀ (l : List A) (m : List B), (l.map fun a => (m.map fun b => h a b).sum).sum = (m.map fun b => (l.map fun a => h a b).sum).sum
  | [], m => by
    show 0 = _
    induction m with
    | nil => rfl
    | cons b m ih => rw [List.map_cons, List.sum_cons, ← ih]; rfl
  | a :: l, m => by
    rw [List.map_cons, List.sum_cons, sum_swap h l m]
    induction m with
    | nil => rfl
    | cons b m ih =>
      simp only [List.map_cons, List.sum_cons] at ih ⊢
      omega
theorem sum_zero {A : Type} {h : A → Nat} : ∀ {l : List A}, (∀ a ∈ l, h a = 0) → (l.map h).sum = 0
  | [], _ => rfl
  | a :: l, z => by
    rw [List.map_cons, List.sum_cons, z a List.mem_cons_self, sum_zero fun b hb => z b (List.mem_cons_of_mem _ hb)]
theorem sum_single {A : Type} {h : A → Nat} : ∀ {l : List A} {a : A}, l.Nodup → a ∈ l → (∀ b ∈ l, b ≠ a → h b = 0) → (l.map h).sum = h a
  | [], _, _, m, _ => by cases m
  | b :: l, a, nd, m, z => by
    rw [List.nodup_cons] at nd
    rw [List.map_cons, List.sum_cons]
    rcases List.mem_cons.mp m with rfl | m
    · rw [sum_zero fun c hc => z c (List.mem_cons_of_mem _ hc) fun e => nd.1 (e ▸ hc)]
      rfl
    · have : b ≠ a := fun e => nd.1 (e ▸ m)
      rw [z b List.mem_cons_self this, sum_single nd.2 m fun c hc => z c (List.mem_cons_of_mem _ hc)]
      omega

/-! ### groups, blocks -/
structure GroupsOf (n : Nat) (im : Nat → Nat) (gs : List (List Nat)) : Prop where
  perm : gs.flatten.Perm (List.range n)
  ne : ∀ g ∈ gs, g ≠ []
  close : ∀ g ∈ gs, ∀ x ∈ g, im x ∈ g
  conn : ∀ g ∈ gs, ∀ S : Nat → Prop, (∀ x, x < n → (S x ↔ S (im x))) → ∀ x ∈ g, ∀ y ∈ g, (S x ↔ S y)
structure Blk where
  w : BW
  s : Bool
  p : List Nat
def Blk.e (b : Blk) (i : Fin b.w.len) : Nat := b.p.getD i.val 0
structure WorldOk (n : Nat) (bs : List Blk) (before after : Nat → Nat) : Prop where
  perm : (bs.map (·.p)).flatten.Perm (List.range n)
  len : ∀ b ∈ bs, b.p.length = b.w.len
  bef : ∀ b ∈ bs, ∀ i, i < b.w.len → before (b.p.getD i 0) = b.p.getD ((b.w.side b.s).getD i 0) 0
  aft : ∀ b ∈ bs, ∀ i, i < b.w.len → after (b.p.getD i 0) = b.p.getD ((b.w.side !b.s).getD i 0) 0
section
variable {n : Nat} {im before after : Nat → Nat} {gs : List (List Nat)} {bs : List Blk}
theorem GroupsOf.nd (G : GroupsOf n im gs) : (gs.map id).flatten.Nodup := by rw [List.map_id]; exact G.perm.nodup_iff.mpr List.nodup_range
theorem GroupsOf.one (G : GroupsOf n im gs) {g h : List Nat} {x : Nat} (a : g ∈ gs) (b : h ∈ gs) (c : x ∈ g) (d : x ∈ h) : g = h := flat_one id G.nd a b c d
theorem GroupsOf.lt (G : GroupsOf n im gs) {g : List Nat} {x : Nat} (a : g ∈ gs) (c : x ∈ g) : x < n := List.mem_range.mp (G.perm.mem_iff.mp (List.mem_flatten.mpr ⟨g, a, c⟩))
theorem GroupsOf.at (G : GroupsOf n im gs) {x : Nat} (h : x < n) : ∃ g ∈ gs, x ∈ g := List.mem_flatten.mp (G.perm.mem_iff.mpr (List.mem_range.mpr h))
theorem GroupsOf.gnd (G : GroupsOf n im gs) {g : List Nat} (a : g ∈ gs) : g.Nodup := flat_nd id G.nd a
theorem GroupsOf.imlt (G : GroupsOf n im gs) {x : Nat} (h : x < n) : im x < n := let ⟨g, hg, hx⟩ := G.at h; G.lt hg (G.close g hg x hx)
theorem GroupsOf.back (G : GroupsOf n im gs) {g : List Nat} (a : g ∈ gs) {x : Nat} (hx : x < n) (h : im x ∈ g) : x ∈ g := by
  obtain ⟨g', hg', hx'⟩ := G.at hx
  rw [G.one a hg' h (G.close g' hg' x hx')]
  exact hx'
theorem WorldOk.nd (W : WorldOk n bs before after) : (bs.map (·.p)).flatten.Nodup := W.perm.nodup_iff.mpr List.nodup_range
theorem WorldOk.one (W : WorldOk n bs before after) {b c : Blk} {x : Nat} (hb : b ∈ bs) (hc : c ∈ bs) (h1 : x ∈ b.p) (h2 : x ∈ c.p) : b = c := flat_one (·.p) W.nd hb hc h1 h2
theorem WorldOk.pnd (W : WorldOk n bs before after) {b : Blk} (hb : b ∈ bs) : b.p.Nodup := flat_nd (·.p) W.nd hb
theorem WorldOk.lt (W : WorldOk n bs before after) {b : Blk} {x : Nat} (hb : b ∈ bs) (h : x ∈ b.p) : x < n :=
  List.mem_range.mp (W.perm.mem_iff.mp (List.mem_flatten.mpr ⟨b.p, List.mem_map_of_mem hb, h⟩))
theorem WorldOk.at (W : WorldOk n bs before after) {x : Nat} (h : x < n) : ∃ b ∈ bs, x ∈ b.p := by
  obtain ⟨p, hp, hx⟩ := List.mem_flatten.mp (W.perm.mem_iff.mpr (List.mem_range.mpr h))
  obtain ⟨b, hb, rfl⟩ := List.mem_map.mp hp
  exact ⟨b, hb, hx⟩
theorem WorldOk.e_mem (W : WorldOk n bs before after) {b : Blk} (hb : b ∈ bs) (i : Fin b.w.len) : b.e i ∈ b.p := by
  have h : i.val < b.p.length := by rw [W.len b hb]; exact i.isLt
  unfold Blk.e
  rw [List.getD_eq_getElem?_getD, List.getElem?_eq_getElem h]
  exact List.getElem_mem h
theorem WorldOk.e_of (W : WorldOk n bs before after) {b : Blk} (hb : b ∈ bs) {x : Nat} (hx : x ∈ b.p) : ∃ i, b.e i = x := by
  obtain ⟨i, h, e⟩ := List.mem_iff_getElem.mp hx
  refine ⟨⟨i, by rw [← W.len b hb]; exact h⟩, ?_⟩
  unfold Blk.e
  rw [List.getD_eq_getElem?_getD, List.getElem?_eq_getElem h]
  exact e
theorem WorldOk.e_inj (W : WorldOk n bs before after) {b : Blk} (hb : b ∈ bs) (i j : Fin b.w.len) (h : b.e i = b.e j) : i = j := by
  have hi : i.val < b.p.length := by rw [W.len b hb]; exact i.isLt
  have hj : j.val < b.p.length := by rw [W.len b hb]; exact j.isLt
  unfold Blk.e at h
  rw [List.getD_eq_getElem?_getD, List.getD_eq_getElem?_getD, List.getElem?_eq_getElem hi, List.getElem?_eq_getElem hj] at h
  exact Fin.eq_of_val_eq ((List.getElem_inj (W.pnd hb)).mp h)
/-- which of the block's records are written -/
def bitsOf (im after : Nat → Nat) (p : List Nat) : List Bool := p.map fun x => decide (im x = after x)
theorem bits_at {p : List Nat} {i : Nat} (h : i < p.length) : (bitsOf im after p).getD i false = decide (im (p.getD i 0) = after (p.getD i 0)) := by
  unfold bitsOf
  rw [List.getD_eq_getElem?_getD, List.getD_eq_getElem?_getD, List.getElem?_map, List.getElem?_eq_getElem h]
  rfl
theorem side_lt (w : BW) (s : Bool) : ∀ i, i < w.len → (w.side s).getD i 0 < w.len := by
  cases w <;> cases s <;> decide
theorem sideF_val (w : BW) (s : Bool) (i : Fin w.len) : (w.sideF s i).val = (w.side s).getD i.val 0 := Nat.mod_eq_of_lt (side_lt w s i.val i.isLt)
theorem WorldOk.bef' (W : WorldOk n bs before after) {b : Blk} (hb : b ∈ bs) (i : Fin b.w.len) : before (b.e i) = b.e (b.w.sideF b.s i) := by
  show _ = b.p.getD (b.w.sideF b.s i).val 0
  rw [sideF_val]
  exact W.bef b hb i.val i.isLt
theorem WorldOk.aft' (W : WorldOk n bs before after) {b : Blk} (hb : b ∈ bs) (i : Fin b.w.len) : after (b.e i) = b.e (b.w.sideF (!b.s) i) := by
  show _ = b.p.getD (b.w.sideF (!b.s) i).val 0
  rw [sideF_val]
  exact W.aft b hb i.val i.isLt
theorem im_e (W : WorldOk n bs before after) (hm : ∀ x, x < n → im x = before x ∨ im x = after x) {b : Blk} (hb : b ∈ bs) (i : Fin b.w.len) : im (b.e i) = b.e (b.w.mix b.s (bitsOf im after b.p) i) := by
  have hl : i.val < b.p.length := by rw [W.len b hb]; exact i.isLt
  unfold BW.mix
  rw [bits_at hl]
  show _ = b.e (if decide (im (b.e i) = after (b.e i)) = true then _ else _)
  by_cases h : im (b.e i) = after (b.e i)
  · rw [if_pos (decide_eq_true h), h, W.aft' hb]
  · rw [if_neg (by simpa using h)]
    rcases hm (b.e i) (W.lt hb (W.e_mem hb i)) with z | z
    · rw [z, W.bef' hb]
    · exact absurd z h
theorem nodupB_of {m : Nat} : ∀ {c : List (Fin m)}, c.Nodup → nodupB c = true
  | [], _ => rfl
  | a :: l, h => by
    rw [List.nodup_cons] at h
    unfold nodupB
    rw [nodupB_of h.2]
    simp [h.1]
theorem nd_sub {A : Type} [DecidableEq A] : ∀ {l m : List A}, l.Nodup → (∀ x ∈ l, x ∈ m) → l.length ≤ m.length
  | [], _, _, _ => Nat.zero_le _
  | a :: l, m, hn, hs => by
    rw [List.nodup_cons] at hn
    have h1 : a ∈ m := hs a List.mem_cons_self
    have h2 := nd_sub (l := l) (m := m.erase a) hn.2 fun x hx => (List.mem_erase_of_ne (fun (e : x = a) => hn.1 (e ▸ hx))).mpr (hs x (List.mem_cons_of_mem _ hx))
    rw [List.length_erase_of_mem h1] at h2
    have : 0 < m.length := List.length_pos_of_mem h1
    rw [List.length_cons]
    omega
theorem nd_len {m : Nat} {c : List (Fin m)} (h : c.Nodup) : c.length ≤ m := by
  have h1 : (c.map Fin.val).Nodup := by
    rw [List.Nodup, List.pairwise_map]
    exact h.imp fun z e => z (Fin.eq_of_val_eq e)
  have h2 : c.map Fin.val ⊆ List.range m := fun x hx => by
    obtain ⟨i, _, rfl⟩ := List.mem_map.mp hx
    exact List.mem_range.mpr i.isLt
  have h3 := nd_sub h1 h2
  simpa using h3
/-- a group that has a record of a block is a group of the block's pattern -/
theorem localize (W : WorldOk n bs before after) (hm : ∀ x, x < n → im x = before x ∨ im x = after x) (G : GroupsOf n im gs) {b : Blk} (hb : b ∈ bs) {g : List Nat} (hg : g ∈ gs) {x : Nat} (hx : x ∈ g) (hxb : x ∈ b.p) :
    ∃ c : List (Fin b.w.len), g = c.map b.e ∧ c ∈ classes (b.w.mix b.s (bitsOf im after b.p)) := by
  have inb : ∀ y, y < n → (y ∈ b.p ↔ im y ∈ b.p) := fun y hy => by
    obtain ⟨b', hb', hy'⟩ := W.at hy
    obtain ⟨i, rfl⟩ := W.e_of hb' hy'
    have h1 : im (b'.e i) ∈ b'.p := by rw [im_e W hm hb' i]; exact W.e_mem hb' _
    constructor
    · intro z
      rw [W.one hb hb' z hy']; exact h1
    · intro z
      rw [W.one hb hb' z h1]; exact hy'
  have sub : ∀ y ∈ g, y ∈ b.p := fun y hy => (G.conn g hg (· ∈ b.p) inb x hx y hy).mp hxb
  have lift : ∀ l : List Nat, (∀ y ∈ l, y ∈ b.p) → ∃ c : List (Fin b.w.len), l = c.map b.e := by
    intro l
    induction l with
    | nil => exact fun _ => ⟨[], rfl⟩
    | cons a l ih =>
      intro h
      obtain ⟨c, hc⟩ := ih fun y hy => h y (List.mem_cons_of_mem _ hy)
      obtain ⟨i, hi⟩ := W.e_of hb (h a List.mem_cons_self)
      exact ⟨i :: c, by rw [List.map_cons, hi, hc]⟩
  obtain ⟨c, rfl⟩ := lift g sub
  refine ⟨c, rfl, ?_⟩
  have inj := W.e_inj hb
  have cnd : c.Nodup := by
    have h := G.gnd hg
    rw [List.Nodup, List.pairwise_map] at h
    exact h.imp fun z e => z (by rw [e])
  have cne : c ≠ [] := fun e => G.ne _ hg (by rw [e]; rfl)
  have mm : ∀ i, b.e i ∈ c.map b.e ↔ i ∈ c := fun i => mem_map_inj inj
  have cl : closedB (b.w.mix b.s (bitsOf im after b.p)) c = true := by
    refine List.all_eq_true.mpr fun i _ => ?_
    have h1 : i ∈ c ↔ b.w.mix b.s (bitsOf im after b.p) i ∈ c := by
      rw [← mm, ← mm, ← im_e W hm hb i]
      exact ⟨fun z => G.close _ hg _ z, fun z => G.back hg (W.lt hb (W.e_mem hb i)) z⟩
    have h2 : c.contains i = c.contains (b.w.mix b.s (bitsOf im after b.p) i) := by
      rw [Bool.eq_iff_iff, List.contains_iff_mem, List.contains_iff_mem]
      exact h1
    rw [h2]
    exact beq_self_eq_true _
  have cn : connB (b.w.mix b.s (bitsOf im after b.p)) c = true := by
    refine List.all_eq_true.mpr fun S _ => ?_
    by_cases hk : keepsB (b.w.mix b.s (bitsOf im after b.p)) S = true
    · rw [hk]
      show constB S c = true
      have hk' : ∀ i, S.getD (Fin.val i) false = S.getD (b.w.mix b.s (bitsOf im after b.p) i).val false := fun i => beq_iff_eq.mp (List.all_eq_true.mp hk i (List.mem_finRange i))
      refine List.all_eq_true.mpr fun i hi => List.all_eq_true.mpr fun j hj => ?_
      have h := G.conn _ hg (fun y => ∃ k : Fin b.w.len, b.e k = y ∧ S.getD k.val false = true) (fun y hy => ?_) (b.e i) ((mm i).mpr hi) (b.e j) ((mm j).mpr hj)
      · have q : S.getD i.val false = S.getD j.val false := by
          rw [Bool.eq_iff_iff]
          constructor
          · intro z
            obtain ⟨k, e, hk⟩ := h.mp ⟨i, rfl, z⟩
            rw [← inj _ _ e]; exact hk
          · intro z
            obtain ⟨k, e, hk⟩ := h.mpr ⟨j, rfl, z⟩
            rw [← inj _ _ e]; exact hk
        rw [q]; exact beq_self_eq_true _
      · constructor
        · rintro ⟨k, rfl, hk2⟩
          exact ⟨_, (im_e W hm hb k).symm, by rw [← hk' k]; exact hk2⟩
        · rintro ⟨k, e, hk2⟩
          have hyb : y ∈ b.p := (inb y hy).mpr (by rw [← e]; exact W.e_mem hb k)
          obtain ⟨k', rfl⟩ := W.e_of hb hyb
          rw [im_e W hm hb k'] at e
          exact ⟨k', rfl, by rw [hk' k', ← inj _ _ e]; exact hk2⟩
    · simp only [Bool.not_eq_true] at hk
      rw [hk]
      rfl
  refine List.mem_filter.mpr ⟨List.mem_flatMap.mpr ⟨c.length - 1, List.mem_range.mpr ?_, ?_⟩, ?_⟩
  · have := nd_len cnd
    have : 0 < c.length := List.length_pos_iff.mpr cne
    omega
  · have : 0 < c.length := List.length_pos_iff.mpr cne
    have e : c.length - 1 + 1 = c.length := by omega
    rw [e]
    exact mem_allLists c
  · unfold validB
    rw [nodupB_of cnd, cl, cn]
    cases c with
    | nil => exact absurd rfl cne
    | cons a l => rfl
end
end KM
end

section
/-! KMathC: what the forms say of every group of a world's image; the torn pieces counted; the repair keeps each block whole. -/
set_option linter.all false
namespace KM
theorem ok_of (w : BW) (s : Bool) {bs : List Bool} (h : bs.length = w.len) : okB w s bs = true := by
  have h1 := okAll_true
  unfold okAll at h1
  have h2 := List.all_eq_true.mp h1 w (by cases w <;> simp)
  have h3 := List.all_eq_true.mp h2 s (by cases s <;> simp)
  exact List.all_eq_true.mp h3 bs (by rw [← h]; exact mem_allBools bs)
theorem says_of {m : Nat} {f : Fin m → Fin m} {c : List (Fin m)} {q : W8 → List (Fin m) → Bool} (h : saysB f c q = true) : ∃ sh r w, formOf f c = some (sh, r) ∧ wordOf sh = some w ∧ q w r = true := by
  unfold saysB at h
  split at h
  · cases h
  · rename_i sh r e
    split at h
    · cases h
    · rename_i w e2
      exact ⟨sh, r, w, e, e2, h⟩
theorem takes_of {m : Nat} {s : Fin m → Fin m} {r : List (Fin m)} {pl : List Nat} (h : takesB s r pl = true) : r.length = pl.length ∧ ∀ (k : Nat) (x : Fin m), r[k]? = some x → ∃ q : Nat, pl[k]? = some q ∧ r[q]? = some (s x) := by
  unfold takesB at h
  rw [Bool.and_eq_true] at h
  have hl : r.length = pl.length := beq_iff_eq.mp h.1
  refine ⟨hl, fun k x hx => ?_⟩
  have hk : k < r.length := (List.getElem?_eq_some_iff.mp hx).1
  refine ⟨pl[k]'(by omega), List.getElem?_eq_getElem _, ?_⟩
  have hz : (r.zip pl)[k]? = some (x, pl[k]'(by omega)) := by
    rw [List.getElem?_zip_eq_some]
    exact ⟨hx, List.getElem?_eq_getElem _⟩
  exact beq_iff_eq.mp (List.all_eq_true.mp h.2 _ (List.mem_of_getElem? hz))

/-- what the repair makes of an image: each piece takes the names of one of its outcomes -/
def ToldOf (n : Nat) (im told : Nat → Nat) : Prop :=
  ∃ gs, GroupsOf n im gs ∧ ∀ g ∈ gs, ∃ sh r w pl, formOf im g = some (sh, r) ∧ wordOf sh = some w ∧ pl ∈ w.outs ∧ ∀ (k : Nat) (x : Nat), r[k]? = some x → told x = r.getD (pl.getD k 0) 0
def wordG (im : Nat → Nat) (g : List Nat) : Option W8 := (formOf im g).bind fun q => wordOf q.1
def tornG (im : Nat → Nat) (g : List Nat) : Bool := ((wordG im g).map W8.torn).getD false
def partB (im after : Nat → Nat) (b : Blk) : Bool := b.w.isChange && (bitsOf im after b.p).any id && !((bitsOf im after b.p).all id)

section
variable {n : Nat} {im before after told : Nat → Nat} {gs : List (List Nat)} {bs : List Blk}
structure World (n : Nat) (bs : List Blk) (before after im : Nat → Nat) : Prop where
  ok : WorldOk n bs before after
  im : ∀ x, x < n → im x = before x ∨ im x = after x
theorem World.good (W : World n bs before after im) {b : Blk} (hb : b ∈ bs) : okB b.w b.s (bitsOf im after b.p) = true := ok_of _ _ (by unfold bitsOf; rw [List.length_map]; exact W.ok.len b hb)
/-- a group lies in one block; its form is the pattern's -/
theorem World.loc (W : World n bs before after im) (G : GroupsOf n im gs) {g : List Nat} (hg : g ∈ gs) : ∃ b ∈ bs, ∃ c : List (Fin b.w.len), g = c.map b.e ∧ c ∈ classes (b.w.mix b.s (bitsOf im after b.p)) := by
  obtain ⟨x, hx⟩ := List.exists_mem_of_ne_nil _ (G.ne g hg)
  obtain ⟨b, hb, hxb⟩ := W.ok.at (G.lt hg hx)
  exact ⟨b, hb, localize W.ok W.im G hb hg hx hxb⟩
theorem World.form (W : World n bs before after im) {b : Blk} (hb : b ∈ bs) (c : List (Fin b.w.len)) : formOf im (c.map b.e) = (formOf (b.w.mix b.s (bitsOf im after b.p)) c).map fun q => (q.1, q.2.map b.e) :=
  formOf_map (W.ok.e_inj hb) (im_e W.ok W.im hb) c
theorem World.parts (W : World n bs before after im) {b : Blk} (hb : b ∈ bs) :
    (∀ c ∈ classes (b.w.mix b.s (bitsOf im after b.p)), saysB (b.w.mix b.s (bitsOf im after b.p)) c (fun _ r => r.isPerm c) = true) ∧
    ((bitsOf im after b.p).any id = false → ∀ c ∈ classes (b.w.mix b.s (bitsOf im after b.p)), clsA b.w b.s (b.w.mix b.s (bitsOf im after b.p)) c = true) ∧
    ((bitsOf im after b.p).all id = true → ∀ c ∈ classes (b.w.mix b.s (bitsOf im after b.p)), clsA b.w (!b.s) (b.w.mix b.s (bitsOf im after b.p)) c = true) ∧
    ((∀ c ∈ classes (b.w.mix b.s (bitsOf im after b.p)), clsA b.w b.s (b.w.mix b.s (bitsOf im after b.p)) c = true) ∨ (∀ c ∈ classes (b.w.mix b.s (bitsOf im after b.p)), clsA b.w (!b.s) (b.w.mix b.s (bitsOf im after b.p)) c = true) ∨
      ∀ c ∈ classes (b.w.mix b.s (bitsOf im after b.p)), clsC b.w b.s (b.w.mix b.s (bitsOf im after b.p)) c = true) ∧
    ∃ t : Fin b.w.len, ∀ c ∈ classes (b.w.mix b.s (bitsOf im after b.p)), clsT (b.w.mix b.s (bitsOf im after b.p)) (partB im after b) t c = true := by
  have h := W.good hb
  unfold okB okCs at h
  simp only [Bool.and_eq_true, Bool.or_eq_true, Bool.not_eq_true', List.all_eq_true, List.any_eq_true] at h
  obtain ⟨⟨⟨⟨h1, h2⟩, h3⟩, h4⟩, t, _, h5⟩ := h
  refine ⟨h1, fun z => ?_, fun z => ?_, ?_, t, h5⟩
  · rcases h2 with ⟨x, hx, hx2⟩ | h2
    · have : (bitsOf im after b.p).any id = true := List.any_eq_true.mpr ⟨x, hx, hx2⟩
      rw [z] at this; cases this
    · exact h2
  · rcases h3 with h3 | h3
    · rw [z] at h3; cases h3
    · exact h3
  · rcases h4 with (h4 | h4) | h4
    · exact .inl h4
    · exact .inr (.inl h4)
    · exact .inr (.inr h4)
/-- every group is a piece -/
theorem World.piece (W : World n bs before after im) (G : GroupsOf n im gs) {g : List Nat} (hg : g ∈ gs) : ∃ sh r w, formOf im g = some (sh, r) ∧ wordOf sh = some w ∧ r.Perm g := by
  obtain ⟨b, hb, c, rfl, hc⟩ := W.loc G hg
  obtain ⟨sh, r, w, e1, e2, e3⟩ := says_of ((W.parts hb).1 c hc)
  refine ⟨sh, r.map b.e, w, by rw [W.form hb, e1]; rfl, e2, ?_⟩
  exact (List.isPerm_iff.mp e3).map _
theorem bits_any (p : List Nat) : (bitsOf im after p).any id = decide (0 < (p.filter fun x => decide (im x = after x)).length) := by
  unfold bitsOf
  induction p with
  | nil => rfl
  | cons a p ih =>
    rw [List.map_cons, List.any_cons, ih, List.filter_cons]
    by_cases h : im a = after a
    · simp [h]
    · simp [h]
theorem bits_all (p : List Nat) : (bitsOf im after p).all id = decide ((p.filter fun x => decide (im x = after x)).length = p.length) := by
  unfold bitsOf
  induction p with
  | nil => rfl
  | cons a p ih =>
    rw [List.map_cons, List.all_cons, ih, List.filter_cons]
    have := List.length_filter_le (fun x => decide (im x = after x)) p
    by_cases h : im a = after a
    · simp [h]
    · have h2 : ¬ (p.filter fun x => decide (im x = after x)).length = p.length + 1 := by omega
      simp [h, h2]
theorem partB_eq (b : Blk) : partB im after b = (b.w.isChange && (decide (0 < (b.p.filter fun x => decide (im x = after x)).length) && decide ((b.p.filter fun x => decide (im x = after x)).length < b.p.length))) := by
  unfold partB
  rw [bits_any, bits_all, Bool.and_assoc]
  congr 2
  have := List.length_filter_le (fun x => decide (im x = after x)) b.p
  by_cases h : (b.p.filter fun x => decide (im x = after x)).length = b.p.length
  · rw [decide_eq_true h, decide_eq_false (by omega)]; rfl
  · rw [decide_eq_false h, decide_eq_true (by omega)]; rfl
theorem tornG_loc (W : World n bs before after im) {b : Blk} (hb : b ∈ bs) {c : List (Fin b.w.len)} {t : Fin b.w.len} (h : clsT (b.w.mix b.s (bitsOf im after b.p)) (partB im after b) t c = true) :
    tornG im (c.map b.e) = (partB im after b && decide (b.e t ∈ c.map b.e)) := by
  obtain ⟨sh, r, w, e1, e2, e3⟩ := says_of h
  unfold tornG wordG
  rw [W.form hb, e1]
  show ((wordOf sh).map W8.torn).getD false = _
  rw [e2]
  show w.torn = _
  rw [beq_iff_eq.mp e3]
  congr 1
  rw [Bool.eq_iff_iff, List.contains_iff_mem, decide_eq_true_iff]
  exact (mem_map_inj (W.ok.e_inj hb)).symm
/-- the torn pieces are as many as the changes that are written in part -/
theorem World.torn (W : World n bs before after im) (G : GroupsOf n im gs) : (gs.filter (tornG im)).length = (bs.filter (partB im after)).length := by
  have hT : ∀ b : Blk, ∃ t : Nat, b ∈ bs → ∃ ti : Fin b.w.len, t = b.e ti ∧ ∀ c ∈ classes (b.w.mix b.s (bitsOf im after b.p)), clsT (b.w.mix b.s (bitsOf im after b.p)) (partB im after b) ti c = true := fun b => by
    by_cases hb : b ∈ bs
    · obtain ⟨_, _, _, _, ti, h⟩ := W.parts hb
      exact ⟨b.e ti, fun _ => ⟨ti, rfl, h⟩⟩
    · exact ⟨0, fun z => absurd z hb⟩
  obtain ⟨t, ht⟩ := Classical.axiomOfChoice hT
  have tm : ∀ b ∈ bs, t b ∈ b.p := fun b hb => by
    obtain ⟨ti, e, _⟩ := ht b hb
    rw [e]; exact W.ok.e_mem hb ti
  have bne : ∀ b ∈ bs, b.p ≠ [] := fun b hb e => by
    have := W.ok.len b hb
    rw [e] at this
    have := b.w.len_pos
    simp at *
    omega
  have bnd : bs.Nodup := flat_ndl (·.p) W.ok.nd bne
  have perG : ∀ g ∈ gs, one (tornG im g) = (bs.map fun b => one (partB im after b && decide (t b ∈ g))).sum := fun g hg => by
    obtain ⟨b, hb, c, e, hc⟩ := W.loc G hg
    obtain ⟨ti, e2, h⟩ := ht b hb
    rw [sum_single bnd hb fun b' hb' hne => ?_]
    · rw [e, e2, tornG_loc W hb (h c hc)]
    · have : ¬ t b' ∈ g := fun z => by
        rw [e] at z
        obtain ⟨i, _, hi⟩ := List.mem_map.mp z
        exact hne (W.ok.one hb' hb (tm b' hb') (by rw [← hi]; exact W.ok.e_mem hb i))
      rw [decide_eq_false this, Bool.and_false]
      rfl
  have perB : ∀ b ∈ bs, (gs.map fun g => one (partB im after b && decide (t b ∈ g))).sum = one (partB im after b) := fun b hb => by
    obtain ⟨g, hg, hx⟩ := G.at (W.ok.lt hb (tm b hb))
    rw [sum_single (flat_ndl id G.nd G.ne) hg fun g' hg' hne => ?_]
    · rw [decide_eq_true hx, Bool.and_true]
    · have : ¬ t b ∈ g' := fun z => hne (G.one hg' hg z hx)
      rw [decide_eq_false this, Bool.and_false]
      rfl
  rw [filter_len, filter_len, List.map_congr_left perG, sum_swap, List.map_congr_left perB]
/-- the repair has each block whole at a side -/
theorem World.whole (W : World n bs before after im) (T : ToldOf n im told) {b : Blk} (hb : b ∈ bs) :
    ((∀ x ∈ b.p, told x = before x) ∨ ∀ x ∈ b.p, told x = after x) ∧ ((bitsOf im after b.p).any id = false → ∀ x ∈ b.p, told x = before x) ∧ ((bitsOf im after b.p).all id = true → ∀ x ∈ b.p, told x = after x) := by
  obtain ⟨gs, G, hT⟩ := T
  obtain ⟨_, pA, pB, pC, _⟩ := W.parts hb
  -- the group of a record
  have atG : ∀ i : Fin b.w.len, ∃ c ∈ classes (b.w.mix b.s (bitsOf im after b.p)), i ∈ c ∧ ∃ sh r w pl, formOf (b.w.mix b.s (bitsOf im after b.p)) c = some (sh, r) ∧ wordOf sh = some w ∧ pl ∈ w.outs ∧ r.Perm c ∧
      ∀ (k : Nat) (x : Fin b.w.len), r[k]? = some x → told (b.e x) = (r.map b.e).getD (pl.getD k 0) 0 := fun i => by
    obtain ⟨g, hg, hx⟩ := G.at (W.ok.lt hb (W.ok.e_mem hb i))
    obtain ⟨c, rfl, hc⟩ := localize W.ok W.im G hb hg hx (W.ok.e_mem hb i)
    obtain ⟨sh, r, w, pl, e1, e2, e3, e4⟩ := hT _ hg
    obtain ⟨sh', r', w', f1, f2, f3⟩ := says_of ((W.parts hb).1 c hc)
    rw [W.form hb, f1] at e1
    have e1' := Option.some.inj e1
    have es : sh' = sh := congrArg Prod.fst e1'
    have er : r'.map b.e = r := congrArg Prod.snd e1'
    subst es
    subst er
    refine ⟨c, hc, (mem_map_inj (W.ok.e_inj hb)).mp hx, sh', r', w, pl, f1, e2, e3, List.isPerm_iff.mp f3, fun k x hx => ?_⟩
    exact e4 k (b.e x) (by rw [List.getElem?_map, hx]; rfl)
  -- what an outcome that takes a side makes of a record
  have take : ∀ (s : Bool) (r : List (Fin b.w.len)) (pl : List Nat), takesB (b.w.sideF s) r pl = true → (∀ (k : Nat) (x : Fin b.w.len), r[k]? = some x → told (b.e x) = (r.map b.e).getD (pl.getD k 0) 0) → ∀ i ∈ r, told (b.e i) = b.e (b.w.sideF s i) := fun s r pl h e i hi => by
    obtain ⟨k, hk⟩ := List.mem_iff_getElem?.mp hi
    obtain ⟨_, h2⟩ := takes_of h
    obtain ⟨q, q1, q2⟩ := h2 k i hk
    rw [e k i hk, List.getD_eq_getElem?_getD, List.getD_eq_getElem?_getD, q1]
    show ((r.map b.e)[q]?).getD 0 = _
    rw [List.getElem?_map, q2]
    rfl
  have side : ∀ s : Bool, (∀ c ∈ classes (b.w.mix b.s (bitsOf im after b.p)), clsA b.w s (b.w.mix b.s (bitsOf im after b.p)) c = true) → ∀ i, told (b.e i) = b.e (b.w.sideF s i) := fun s h i => by
    obtain ⟨c, hc, hi, sh, r, w, pl, f1, f2, f3, f4, f5⟩ := atG i
    obtain ⟨sh', r', w', g1, g2, g3⟩ := says_of (h c hc)
    rw [f1] at g1
    have e1' := Option.some.inj g1
    have es : sh = sh' := congrArg Prod.fst e1'
    have er : r = r' := congrArg Prod.snd e1'
    subst es
    subst er
    rw [f2] at g2
    cases g2
    exact take s r pl (List.all_eq_true.mp g3 pl f3) f5 i (f4.mem_iff.mpr hi)
  have all : ∀ (P : Nat → Prop), (∀ i, P (b.e i)) → ∀ x ∈ b.p, P x := fun P h x hx => by
    obtain ⟨i, rfl⟩ := W.ok.e_of hb hx
    exact h i
  have old : (∀ i, told (b.e i) = b.e (b.w.sideF b.s i)) → ∀ x ∈ b.p, told x = before x := fun h => all _ fun i => by rw [h i, W.ok.bef' hb]
  have new : (∀ i, told (b.e i) = b.e (b.w.sideF (!b.s) i)) → ∀ x ∈ b.p, told x = after x := fun h => all _ fun i => by rw [h i, W.ok.aft' hb]
  refine ⟨?_, fun z => old (side b.s (pA z)), fun z => new (side (!b.s) (pB z))⟩
  rcases pC with h | h | h
  · exact .inl (old (side b.s h))
  · exact .inr (new (side (!b.s) h))
  · obtain ⟨c, hc, hi, sh, r, w, pl, f1, f2, f3, f4, f5⟩ := atG ⟨0, b.w.len_pos⟩
    have hC := h c hc
    unfold clsC at hC
    rw [Bool.and_eq_true] at hC
    obtain ⟨sh', r', w', g1, g2, g3⟩ := says_of hC.2
    rw [f1] at g1
    have e1' := Option.some.inj g1
    have es : sh = sh' := congrArg Prod.fst e1'
    have er : r = r' := congrArg Prod.snd e1'
    subst es
    subst er
    rw [f2] at g2
    cases g2
    have mem : ∀ i, i ∈ r := fun i => f4.mem_iff.mpr (List.contains_iff_mem.mp (List.all_eq_true.mp hC.1 i (List.mem_finRange i)))
    have g4 := List.all_eq_true.mp g3 pl f3
    rw [Bool.or_eq_true] at g4
    rcases g4 with g4 | g4
    · exact .inl (old fun i => take b.s r pl g4 f5 i (mem i))
    · exact .inr (new fun i => take (!b.s) r pl g4 f5 i (mem i))
/-- free records and pairs keep their names -/
theorem World.still (W : World n bs before after im) {b : Blk} (hb : b ∈ bs) (hc : b.w.isChange = false) : ∀ x ∈ b.p, before x = after x := fun x hx => by
  obtain ⟨i, rfl⟩ := W.ok.e_of hb hx
  rw [W.ok.bef' hb, W.ok.aft' hb]
  congr 1
  obtain ⟨w, s, p⟩ := b
  cases w <;> first | rfl | cases hc
end
end KM
end

section
set_option Elab.async false
set_option linter.all false
set_option maxRecDepth 100000
set_option maxHeartbeats 4000000
/-! KRules: rules that the layer lacks: a store through a property, a class called by a local name, get of a written dict whose keys are tuples, list(d.values()). -/
namespace KR
open PySem PySem.Spec PyProof.Rows L2

/-! ### o.f = e where f is a property with a setter -/
structure PropSet (K : PySem.W.Frag) (C : Addr) (f : Str) (p g : Addr) : Prop where
  tk : PySem.W.takerIn K C f = some (some (.ref p))
  ty : PySem.W.typeIn K (.ref p) = some (.type "property")
  rc : ∃ a rest, PySem.W.recIn K p "property" = some (a :: .ref g :: rest)
def sPset (C : Addr) (sp : Sp) (E : XK) (ta tv : TE) : TS := fun D σ H => tv σ H fun y H1 => ta σ H1 fun x H2 => ∃ a dx fs, x = .ref a ∧ H2 a = some (.ins C dx fs) ∧ sp [.ref a, y] H2 (fun _ H3 => D.nx σ H3) E
section
variable {X : Cx} {CX : CXT} {k : Nat} {C p g a dx : Addr} {fs : List (Str × V)} {f : Str} {fd : FuncData} {ps : List Str} {sp : Sp} {E : XK} {o e value : Expr} {pos pos' : Pos} {ta tv : TE}
theorem setprop_ok {pins : List (Addr × Obj)} {σ : L2.St} {H : Hp} {s : Shared} {y : V} {u : Value} {R : Hp → Prop} {Q : Unit → Shared → Prop} {E' : Value → Shared → Prop} (I : Inv X pins σ H s) (ea : H a = some (.ins C dx fs)) (c : Cls X.K C) (hp : PropSet X.K C f p g)
    (F : FnOk X.prog X.w X.K X.mg X.base CX k g fd ps sp) (hr : Room (k + 2) X.A) (hb : Binds X.K fd ps []) (hx : Passes CX X.nox E) (ry : RelV y u) (h : sp [.ref a, y] H (fun _ H' => R H') E)
    (hQ : ∀ s' H', Inv X pins σ H' s' → R H' → Q () s') : wpAny (model X.prog X.w) X.A (setAttr (.ref a) f u) Q E' s := by
  obtain ⟨mA, O, _, _, _, _⟩ := ins_get I.hok ea
  obtain ⟨od, J, _⟩ := O.look
  obtain ⟨av, rest, hrec⟩ := hp.rc
  have I1 := I.tok (s.toks + 1)
  have hl : ([Value.ref a, u] ++ ([] : List Value)).length = ps.length := by
    rw [← F.len _ _ _ _ h]
    rfl
  refine PySem.W.set_plain I.kIn J c.sa (PySem.W.osa_descr (s := { s with toks := s.toks + 1 }) PySem.W.KF.slot_pset I.kIn J c.po hp.tk hp.ty (PySem.W.prop_set (s := { s with toks := s.toks + 1 }) I.kIn hrec ?_))
  refine codeAny_mono (F.run X.A.in1.in1 X.stack { s with toks := s.toks + 1 } H ⟨[.ref a, u], []⟩ [.ref a, u] [.ref a, y] _ E hr.in1.in1 I1.env0.in1.in1 (hb _ [.ref a, u] I1.kIn hl) (.cons rfl (.cons ry .nil)) h) fun r s' hq => ?_
  cases r with
  | error er => exact False.elim (hx pins σ H { s with toks := s.toks + 1 } er s' (I1.wish _) hq)
  | ok fl =>
    cases fl with
    | ret w =>
      obtain ⟨v, H', I3, rv, q3⟩ := I1.after hq
      exact hQ s' H' I3 q3
    | next => exact False.elim hq
    | brk => exact False.elim hq
    | cont => exact False.elim hq
theorem ps_pset (c : Cls X.K C) (hp : PropSet X.K C f p g) (F : FnOk X.prog X.w X.K X.mg X.base CX k g fd ps sp) (hr : Room (k + 2) X.A) (hb : Binds X.K fd ps []) (hx : Passes CX X.nox E)
    (ha : PE X o ta) (hv : PE X value tv) (hs : swapsWith value (some (.Attribute o f pos')) pos.line X.env = pure false) : PS X (.Assign [.Attribute o f pos'] value pos) (sPset C sp E ta tv) := by
  refine ⟨fun pins s σ H D I h => ?_⟩
  refine plainObj_wpAny_Assign_Attribute (thn (hv.run pins s σ H _ I h) fun u s1 ⟨y, H1, I1, ry, q⟩ => thn (ha.run pins s1 σ H1 _ I1 q) fun ov s2 ⟨x, H2, I2, rx, a, dx, fs, ex, ea, q2⟩ => ?_) hs
  subst ex
  obtain rfl : ov = Value.ref a := rx
  exact setprop_ok (R := fun H3 => D.nx σ H3) I2 ea c hp F hr hb hx ry q2 fun s3 H3 I3 q3 => ⟨σ, H3, I3, q3⟩
end

/-! ### x(k = v, ..) where the local name x holds the class -/
section
variable {X : Cx} {CX : CXT} {k i : Nat} {f C : Addr} {fd : FuncData} {ps ks : List Str} {sp : Sp} {E : XK} {x : Str} {p pos : Pos} {kws : List Keyword} {tk : TA} {g : List Value → List Value → List Value} {gV : List V → List V → List V}
theorem pe_makeKV (M : Mk X.K C f) (F : FnOk X.prog X.w X.K X.mg X.base CX k f fd ps sp) (hr : Room (k + 1) X.A) (hx : PE X (.Name x p) (tVar i)) (hb : KBn X.K fd ps 1 ks g gV) (hp : Passes CX X E) (hkw : PK X kws tk)
    (hall : (backToKw pos (keywordEach kws X.env)).all (·.1.isSome) = true := by rfl) (hks : (backToKw pos (keywordEach kws X.env)).filterMap (·.1) = ks := by rfl)
    (hpl : ((backTo pos (starEach [] X.env)).any (·.1) || (backToKw pos (keywordEach kws X.env)).any (·.1.isNone)) = false := by rfl) :
    PE X (.Call (.Name x p) [] kws pos) (fun σ H Q => σ[i]? = some (some (.ref C)) ∧ tMakeK C 0 ks.length sp gV E tNil tk σ H Q) := by
  refine ⟨fun pins s σ H Q I h => ?_⟩
  obtain ⟨h0, h⟩ := h
  refine wpAny_Call_Name_kw (thn (hx.run pins s σ H (fun v H' => v = .ref C ∧ H' = H) I ⟨_, h0, rfl, rfl⟩) fun u s1 ⟨v, H1, I1, ru, ev, eH⟩ => ?_)
  subst ev
  subst eH
  obtain rfl : u = Value.ref C := ru
  refine PySem.W.callWith_KW0 (h₀ := X.base) I1.ok.mod.kin M.kp hall ?_ hpl
  refine thn (hkw.run pos pins s1 σ H1 _ I1 h) fun ws s2 ⟨zs, H2, I2, rz, l1, l2, q2⟩ => ⟨I2.kIn, ?_⟩
  rw [hks]
  exact run_makeK (us := []) (vs := []) M F hr hb hp I2 .nil rz rfl l2 q2
end

/-! ### d.get(t), d a dict of the written part whose keys are tuples -/
def KTab (K : PySem.W.Frag) (P : Program) (w : World) (a : Addr) (xs : List (List Key × Addr × Value)) : Prop :=
  (a == sysModules) = false ∧ (∃ es n, K.lookup a = some ⟨.type "dict", none, .dict es n, #[]⟩ ∧ es.toList = xs.map (entryOfKey (tupleKind (mixKind P w)))) ∧ (xs.map (·.1)).Nodup ∧
  ∀ x ∈ xs, ∃ (o : Obj) (its : Array Value) (n : Nat), K.lookup x.2.1 = some o ∧ o.cls = .type "tuple" ∧ o.data = .seq its n ∧ Vals (x.1.map kV) its.toList
theorem KTab.dict {K : PySem.W.Frag} {P : Program} {w : World} {a : Addr} {xs : List (List Key × Addr × Value)} (t : KTab K P w a xs) {h : Heap} (X : K.In h) : h.DictOfH (tupleKind (mixKind P w)) a xs := by
  obtain ⟨_, ⟨es, n, hl, he⟩, nd, hk⟩ := t
  refine ⟨_, es, n, X a _ hl, ⟨rfl, rfl, rfl⟩, rfl, he, fun x hx => ?_, nd⟩
  obtain ⟨o, its, m, h1, h2, h3, h4⟩ := hk x hx
  have := items_are (P := P) (w := w) h4
  exact ⟨o, its, m, X _ o h1, h2, h3, by simpa using this⟩
def tWGet (K : PySem.W.Frag) (P : Program) (w : World) (td ty : TE) : TE := fun σ H Q => td σ H fun x H1 => ∃ a xs, x = .ref a ∧ KTab K P w a xs ∧ ty σ H1 fun y H2 => ∃ b k r, y = .ref b ∧ H2 b = some (.tup (k.map kV)) ∧
  (∀ u : Value, u = ((PySem.atKey xs k).map (·.2)).getD .none → RelV r u) ∧ Q r H2
section
variable {X : Cx} {o e : Expr} {apos cpos : Pos} {td ty : TE}
theorem pe_wget (hu : X.A.units + 1 < cLine) (ho : PE X o td) (he : PE X e ty) (m : M1 X o "get" apos e cpos) : PE X (.Call (.Attribute o "get" apos) [e] [] cpos) (tWGet X.K X.prog X.w td ty) := by
  refine ⟨fun pins s σ H Q I h => ?_⟩
  refine wpAny_Call_method m.base m.few m.line PySem.F.plainAttrs_dict PySem.F.slot_dict_get PySem.F.type_dict_get (thn (ho.run pins s σ H _ I h) fun u s1 ⟨x, H1, I1, rx, a, xs, ex, d, q1⟩ => ?_)
  subst ex
  obtain rfl : u = Value.ref a := rx
  have dd := d.dict I1.kIn
  have t1 : s1.TypeIs (.ref a) "dict" := dd.typeIs
  refine ⟨t1, fun b q => ?_, ?_⟩
  · cases q
    obtain ⟨ob, _, _, h1, h2, _⟩ := dd
    exact ⟨ob, h1, h2.2.1⟩
  rw [m.trees]
  refine Calls.callWith_builtin rfl (Calls.evalArgs_plain (Calls.spliced_cons (thn (he.run pins s1 σ H1 _ I1 q1) fun iv s2 ⟨y, H2, I2, ry, b, k, r, ey, eb, rr, q2⟩ => Calls.spliced_nil ?_)))
  subst ey
  cases (show iv = Value.ref b from ry)
  have dd2 := d.dict I2.kIn
  refine call_meetsIn PySem.F.slot_dict_get dd2.typeIs PySem.F.entry_dict_get (PySem.F.args_dict_get_2 _ _) (meetsH_dict_get (tupleKind (mixKind X.prog X.w)) a b d.1) ⟨tupleKind_room_in1 hu, k, xs, key_of I2.hok eb, dd2, ?_⟩
  exact ⟨r, H2, I2.tok _, rr _ rfl, q2⟩
end

/-! ### list(d.values()) -/
theorem paired_get0 {A B : Type} {F : A → B → Prop} : ∀ {xs : List A} {ys : List B}, Paired F xs ys → ∀ {i : Nat} {x : A}, xs[i]? = some x → ∃ y, ys[i]? = some y ∧ F x y
  | _, _, .nil, i, x, h => by cases h
  | _, _, .cons r t, 0, x, h => by
    have e := Option.some.inj h
    subst e
    exact ⟨_, rfl, r⟩
  | _, _, .cons r t, i + 1, x, h => paired_get0 t h
def tLstVals (te : TE) : TE := fun σ H Q => te σ H fun x H1 => ∃ d kvs, x = .ref d ∧ H1 d = some (.dK kvs) ∧ ∀ p, H1 p = none → Q (.ref p) (upd H1 p (.lst (kvs.map (·.2))))
section
variable {X : Cx} {e : Expr} {te : TE} {p apos cpos pos : Pos}
theorem pe_listVals (hc : X.calm = true) (he : PE X e te) (hg : Gl X "list") (hm : X.mg "list" = none) (hbase : attributeBase e "values" X.env (eval e X.env) = eval e X.env := by rfl) (hline : (apos.endLine == cpos.line) = true := by rfl)
    (hs : starEach [.Call (.Attribute e "values" apos) [] [] cpos] X.env = (false, eval (.Call (.Attribute e "values" apos) [] [] cpos) X.env) :: starEach [] X.env := by rfl) :
    PE X (.Call (.Name "list" p) [.Call (.Attribute e "values" apos) [] [] cpos] [] pos) (tLstVals te) := by
  refine ⟨fun pins s σ H Q I hq => ?_⟩
  refine wpAny_Call_Name_kw (ld_blt I hg hm boot_list ?_)
  refine PyProof.Rows.callWith_type1 ?_ hs rfl
  rw [hs]
  show wpAny _ _ (spliced ((false, eval (.Call (.Attribute e "values" apos) [] [] cpos) X.env) :: backTo pos (starEach [] X.env))) _ _ s
  refine Calls.spliced_cons ?_
  refine wpAny_Call_method (T := "dict") (id := "dict.values") hbase rfl hline F.plainAttrs_dict F.slot_dict_values F.type_dict_values (thn (he.run pins s σ H _ I hq) fun u s1 ⟨x, H1, I1, rx, d, kvs, ex, hd, q⟩ => ?_)
  subst ex
  obtain rfl : u = Value.ref d := rx
  obtain ⟨hz, hs0, vs, kv, hdo⟩ := I1.hok d _ hd
  obtain ⟨ep, hat⟩ := hdo.dictAt
  have lk : kvs.length = vs.length := Paired.length kv
  have I2 : Inv X pins σ H1 { s1 with heap := s1.heap.push { cls := .type "dict_values", data := .fields #[.ref d] } } := I1.kept (t' := s1.toks) fun b ob q => Heap.get?_push_of_some _ q
  refine ⟨hdo.typeIs, hdo.mapOf.noDict, ?_⟩
  show wpAny _ _ (callWith cpos (.builtin "dict.values") [.ref d] [] []) _ X.xe s1
  refine method_meetsIn F.slot_dict_values F.entry_dict_values rfl (PySem.evalArgs_none ⟨rfl, hdo.typeIs, F.args_dict_values_1 _, _, meets_dict_values (mixKind X.prog X.w) d hs0, ⟨vs, hdo⟩, ?_⟩)
  refine Calls.spliced_nil ?_
  refine PySem.W.kdl_call (PySem.W.kdl_values (knd := mixKind X.prog X.w) (kvs := vs) (ep := ep) (r := s1.heap.objs.size) (d := d)) (I1.ok.hd hc) ⟨⟨_, Heap.get?_push_size _ rfl, rfl, rfl⟩, hat.push _⟩ (by rw [← lk]; exact hz) fun h' tk acc' c' hkeep hS hacc => ?_
  refine ⟨.ref _, upd H1 _ (.lst (kvs.map (·.2))), I2.laid (t' := tk) hkeep (Nat.le_refl _) (show ObjOk X.prog X.w _ _ _ (.lst (kvs.map (·.2))) from ⟨?_, acc'.toList, c', ?_, ?_⟩), rfl, q _ (I2.hok.fresh (Nat.le_refl _))⟩
  · rw [List.length_map]; exact hz
  · refine vals_of_at (by simp [hacc.1, lk]) fun j x w' h1 h2 => ?_
    obtain ⟨ky, hky⟩ := hacc.2 j w' (by rw [← Array.getElem?_toList]; exact h2)
    rw [List.getElem?_map] at h1
    cases hj : kvs[j]? with
    | none => rw [hj] at h1; cases h1
    | some kx =>
      rw [hj] at h1
      have e1 := Option.some.inj h1
      obtain ⟨qv, g1, g2, g3⟩ := paired_get0 kv hj
      rw [hky] at g1
      cases g1
      rw [← e1]
      exact g3
  · rw [Array.toArray_toList]; exact hS
end
end KR
end

section
set_option Elab.async false
set_option linter.all false
set_option maxRecDepth 100000
set_option maxHeartbeats 4000000
/-! KBase: the text by places, what is asked of a callee, heaps of lists of records. -/
namespace KW
open PySem PySem.Spec PyProof.Rows L2
def top (i : Nat) : Stmt := PySem.Challenge.pw_peermend_k14_whole_hidden_writers.main.body.getD i (.Pass ⟨0, 0, 0, 0⟩)
/-- a def of the module that may be called -/
structure Cal (P : Program) (w : World) (K : PySem.W.Frag) (mg : Str → Option Value) (base : Heap) (k : Nat) (x : Str) (ps : List Str) (sp : Sp) : Prop where
  ex : ∃ (f : Addr) (fd : FuncData), FnOk P w K mg base CX0 k f fd ps sp ∧ mg x = some (.ref f) ∧ PySem.W.keepIn K (.ref f) = true ∧ Binds K fd ps []
/-- built-in names that the module leaves as they are -/
structure Bn (mg : Str → Option Value) : Prop where
  len : mg "len" = none
  range : mg "range" = none
  list : mg "list" = none
  enumerate : mg "enumerate" = none
  min : mg "min" = none
  max : mg "max" = none
  tuple : mg "tuple" = none
  zip : mg "zip" = none
  sorted : mg "sorted" = none
  isinstance : mg "isinstance" = none
  int : mg "int" = none
  bool : mg "bool" = none
  divmod : mg "divmod" = none

def vI (n : Nat) : V := .int (n : Int)
def vL (l : List Nat) : List V := l.map vI
theorem vL_length (l : List Nat) : (vL l).length = l.length := List.length_map _
theorem vL_get {l : List Nat} {i : Nat} {x : Nat} (h : l[i]? = some x) : (vL l)[i]? = some (vI x) := by unfold vL; rw [List.getElem?_map, h]; rfl
theorem vL_of {l : List Nat} {i : Nat} {v : V} (h : (vL l)[i]? = some v) : ∃ x, l[i]? = some x ∧ v = vI x := by
  unfold vL at h
  rw [List.getElem?_map] at h
  cases e : l[i]? with
  | none => rw [e] at h; cases h
  | some x => rw [e] at h; exact ⟨x, rfl, (Option.some.inj h).symm⟩
theorem vL_app (l : List Nat) (x : Nat) : vL l ++ [vI x] = vL (l ++ [x]) := by unfold vL; rw [List.map_append]; rfl
theorem vL_set (l : List Nat) (i x : Nat) : (vL l).set i (vI x) = vL (l.set i x) := by unfold vL; rw [List.map_set]
theorem at_vL {l : List Nat} {i : Nat} {x : Nat} (h : l[i]? = some x) : atI (vL l) (i : Int) = some (vI x) := atI_nat (vL_get h)
theorem vI_inj {a b : Nat} (h : vI a = vI b) : a = b := by
  unfold vI at h
  injection h with h
  omega
theorem same_upd {H : Hp} {p : Addr} {o : HO} (h : H p = none) : Same H (upd H p o) := fun b x e => by
  rw [upd_ne (ne_of_none e h)]
  exact e
theorem _root_.L2.Same.put {H H' : Hp} {p : Addr} {o : HO} (s : Same H H') (h : H p = none) : Same H (upd H' p o) := fun b x e => by
  rw [upd_ne (ne_of_none e h)]
  exact s b x e
/-- what was at all but p is as it was -/
def SameBut (p : Addr) (H H' : Hp) : Prop := ∀ b o, b ≠ p → H b = some o → H' b = some o
theorem _root_.L2.Same.but {p : Addr} {H H' : Hp} (h : Same H H') : SameBut p H H' := fun b o _ e => h b o e
theorem SameBut.trans {p : Addr} {H H1 H2 : Hp} (a : SameBut p H H1) (b : SameBut p H1 H2) : SameBut p H H2 := fun c o n e => b c o n (a c o n e)
theorem SameBut.upd {p : Addr} {H H' : Hp} {o : HO} (h : SameBut p H H') : SameBut p H (upd H' p o) := fun b x n e => by
  rw [upd_ne n]
  exact h b x n e
theorem SameBut.same {p : Addr} {H H' : Hp} (h : SameBut p H H') (n : H p = none) : Same H H' := fun b o e => h b o (ne_of_none e n) e
theorem refs_get {as : List Addr} {i : Nat} {v : V} (h : (as.map V.ref)[i]? = some v) : ∃ a, as[i]? = some a ∧ v = .ref a := by
  rw [List.getElem?_map] at h
  cases e : as[i]? with
  | none => rw [e] at h; cases h
  | some x => rw [e] at h; exact ⟨x, rfl, (Option.some.inj h).symm⟩
/-- lists of records at these places -/
def LL (H : Hp) (as : List Addr) (gs : List (List Nat)) : Prop := as.length = gs.length ∧ ∀ (j : Nat) (a : Addr), as[j]? = some a → ∃ g, gs[j]? = some g ∧ H a = some (.lst (vL g))
theorem LL.same {H H' : Hp} {as : List Addr} {gs : List (List Nat)} (h : LL H as gs) (s : Same H H') : LL H' as gs := ⟨h.1, fun j a e => by
  obtain ⟨g, h1, h2⟩ := h.2 j a e
  exact ⟨g, h1, s _ _ h2⟩⟩
abbrev fnm (l : List Nat) : Nat → Nat := fun x => l.getD x 0
/-- an image: every entry is a record -/
def Img (im : List Nat) : Prop := ∀ x ∈ im, x < im.length
theorem Img.lt {im : List Nat} (h : Img im) {x : Nat} (hx : x < im.length) : fnm im x < im.length := by
  show im.getD x 0 < _
  rw [List.getD_eq_getElem?_getD, List.getElem?_eq_getElem hx]
  exact h _ (List.getElem_mem hx)
theorem get_fnm {l : List Nat} {x : Nat} (h : x < l.length) : l[x]? = some (fnm l x) := by
  show _ = some (l.getD x 0)
  rw [List.getD_eq_getElem?_getD, List.getElem?_eq_getElem h]
  rfl
/-- the list of a comprehension at turn i: what of l's first i passes p, by f -/
def CPv {A : Type} (H1 : Hp) (D : Addr) (l : List A) (p : A → Bool) (f : A → V) (i : Nat) (H : Hp) : Prop := Same H1 H ∧ H D = some (.lst (((l.take i).filter p).map f))
section
variable {A : Type} {H1 H : Hp} {D : Addr} {l : List A} {p : A → Bool} {f : A → V} {i : Nat} {x : A} {y : V}
theorem cpv_start (n : H1 D = none) : CPv H1 D l p f 0 (upd H1 D (.lst [])) := ⟨same_upd n, by rw [upd_same]; rfl⟩
theorem cpv_yes (n : H1 D = none) (hl : l.length ≤ 1000) (c : CPv H1 D l p f i H) (hx : l[i]? = some x) (hp : p x = true) (e : y = f x) : ∃ acc, H D = some (.lst acc) ∧ acc.length < sizeLine ∧ CPv H1 D l p f (i + 1) (upd H D (.lst (acc ++ [y]))) := by
  refine ⟨_, c.2, ?_, c.1.put n, ?_⟩
  · have h1 := List.length_filter_le p (l.take i)
    have h2 : (l.take i).length ≤ l.length := by rw [List.length_take]; exact Nat.min_le_right _ _
    rw [List.length_map]
    exact small1000 (by omega)
  · rw [upd_same, e, List.take_add_one, hx, List.filter_append, List.map_append]
    congr 3
    simp [hp]
theorem cpv_no (c : CPv H1 D l p f i H) (hx : l[i]? = some x) (hp : p x = false) : CPv H1 D l p f (i + 1) H := by
  refine ⟨c.1, ?_⟩
  rw [List.take_add_one, hx, List.filter_append]
  simp [hp]
  exact c.2
theorem cpv_end (c : CPv H1 D l p f l.length H) : Same H1 H ∧ H D = some (.lst ((l.filter p).map f)) := by
  obtain ⟨c1, c2⟩ := c
  rw [List.take_length] at c2
  exact ⟨c1, c2⟩
end
theorem inV_vL (x : Nat) : ∀ l : List Nat, inV (vI x) (vL l) = decide (x ∈ l)
  | [] => rfl
  | a :: l => by
    have ih := inV_vL x l
    unfold inV at ih ⊢
    show ((eqV (vI a) (vI x)) || (vL l).any fun y => eqV y (vI x)) = _
    rw [ih]
    show (((a : Int) == (x : Int)) || _) = _
    rw [Bool.eq_iff_iff, Bool.or_eq_true, decide_eq_true_iff, decide_eq_true_iff, beq_iff_eq, List.mem_cons]
    constructor
    · rintro (h | h)
      · exact .inl (by omega)
      · exact .inr h
    · rintro (h | h)
      · exact .inl (by omega)
      · exact .inr h
theorem flat_vL (l : List Nat) : (vL l).all flatV = true := by
  unfold vL
  rw [List.all_map]
  exact List.all_eq_true.mpr fun _ _ => rfl
theorem small_vL {l : List Nat} {n : Nat} (h : l.length ≤ n) (hn : n ≤ 1000 := by decide) : (vL l).length < sizeLine := by
  rw [vL_length]
  exact small1000 (by omega)
theorem filter_all {A : Type} : ∀ l : List A, l.filter (fun _ => true) = l
  | [] => rfl
  | a :: l => by rw [List.filter_cons_of_pos rfl, filter_all l]
theorem idxOf_min {x y : Nat} : ∀ {l : List Nat} {m : Nat}, m < l.idxOf x → l[m]? = some y → y ≠ x
  | [], m, h, e => by simp at e
  | a :: l, m, h, e => by
    rw [List.idxOf_cons] at h
    by_cases ha : a = x
    · subst ha
      simp at h
    · rw [beq_eq_false_iff_ne.mpr ha] at h
      cases m with
      | zero =>
        have e' : a = y := Option.some.inj e
        rw [← e']; exact ha
      | succ m =>
        have h' : m + 1 < l.idxOf x + 1 := h
        exact idxOf_min (l := l) (m := m) (by omega) e
end KW
end

section
/-! KGroupsM: groups by labels: the labels' invariant, the lists' invariant, what they say at the end. -/
set_option linter.all false
namespace KM
abbrev fn' (l : List Nat) : Nat → Nat := fun x => l.getD x 0
structure LabInv (im : List Nat) (i : Nat) (L : List Nat) : Prop where
  len : L.length = im.length
  eq : ∀ x, x < i → x < im.length → fn' L x = fn' L (fn' im x)
  conn : ∀ S : Nat → Prop, (∀ x, x < im.length → (S x ↔ S (fn' im x))) → ∀ x y, x < im.length → y < im.length → fn' L x = fn' L y → (S x ↔ S y)
theorem fn'_range {n x : Nat} (h : x < n) : fn' (List.range n) x = x := by
  show (List.range n).getD x 0 = x
  rw [List.getD_eq_getElem?_getD, List.getElem?_range h]
  rfl
theorem lab_start (im : List Nat) : LabInv im 0 (List.range im.length) where
  len := List.length_range
  eq := fun x h => absurd h (Nat.not_lt_zero x)
  conn := fun S _ x y hx hy e => by
    rw [fn'_range hx, fn'_range hy] at e
    rw [e]
theorem fn'_map {L : List Nat} {f : Nat → Nat} {x : Nat} (h : x < L.length) : fn' (L.map f) x = f (fn' L x) := by
  show (L.map f).getD x 0 = f (L.getD x 0)
  rw [List.getD_eq_getElem?_getD, List.getD_eq_getElem?_getD, List.getElem?_map, List.getElem?_eq_getElem h]
  rfl
theorem lab_same {im : List Nat} {i : Nat} {L : List Nat} (I : LabInv im i L) (e : fn' L i = fn' L (fn' im i)) : LabInv im (i + 1) L where
  len := I.len
  eq := fun x h hx => by
    rcases Nat.lt_succ_iff_lt_or_eq.mp h with h | h
    · exact I.eq x h hx
    · rw [h]; exact e
  conn := I.conn
theorem lab_step {im : List Nat} {i : Nat} {L : List Nat} (I : LabInv im i L) (him : ∀ x, x < im.length → fn' im x < im.length) (hi : i < im.length) {lo hi' : Nat}
    (h : (fn' L i = lo ∧ fn' L (fn' im i) = hi') ∨ (fn' L i = hi' ∧ fn' L (fn' im i) = lo)) : LabInv im (i + 1) (L.map fun l => if l = hi' then lo else l) := by
  have at_ : ∀ x, x < im.length → fn' (L.map fun l => if l = hi' then lo else l) x = if fn' L x = hi' then lo else fn' L x := fun x hx => fn'_map (by rw [I.len]; exact hx)
  refine ⟨by rw [List.length_map, I.len], fun x h' hx => ?_, fun S hS x y hx hy e => ?_⟩
  · rw [at_ x hx, at_ _ (him x hx)]
    rcases Nat.lt_succ_iff_lt_or_eq.mp h' with h' | h'
    · rw [I.eq x h' hx]
    · subst h'
      rcases h with ⟨h1, h2⟩ | ⟨h1, h2⟩
      · rw [h1, h2, if_pos rfl]; split <;> rfl
      · rw [h1, h2, if_pos rfl]; split <;> rfl
  · rw [at_ x hx, at_ y hy] at e
    have si : S i ↔ S (fn' im i) := hS i hi
    have hj := him i hi
    have go : ∀ u v, u < im.length → v < im.length → fn' L u = hi' → fn' L v = lo → (S u ↔ S v) := fun u v hu hv e1 e2 => by
      rcases h with ⟨h1, h2⟩ | ⟨h1, h2⟩
      · exact (I.conn S hS u _ hu hj (e1.trans h2.symm)).trans (si.symm.trans (I.conn S hS _ v hi hv (h1.trans e2.symm)))
      · exact (I.conn S hS u _ hu hi (e1.trans h1.symm)).trans (si.trans (I.conn S hS _ v hj hv (h2.trans e2.symm)))
    by_cases hx' : fn' L x = hi'
    · by_cases hy' : fn' L y = hi'
      · exact I.conn S hS x y hx hy (hx'.trans hy'.symm)
      · rw [if_pos hx', if_neg hy'] at e
        exact go x y hx hy hx' e.symm
    · by_cases hy' : fn' L y = hi'
      · rw [if_neg hx', if_pos hy'] at e
        exact (go y x hy hx hy' e).symm
      · rw [if_neg hx', if_neg hy'] at e
        exact I.conn S hS x y hx hy e
/-- the lists by their labels: i records are taken -/
structure TabInv (L : List Nat) (i : Nat) (ks : List Nat) (gs : List (List Nat)) : Prop where
  len : ks.length = gs.length
  nd : ks.Nodup
  perm : gs.flatten.Perm (List.range i)
  lab : ∀ (j : Nat) (g : List Nat) (k : Nat), gs[j]? = some g → ks[j]? = some k → g ≠ [] ∧ ∀ x ∈ g, fn' L x = k
theorem tab_start (L : List Nat) : TabInv L 0 [] [] := ⟨rfl, List.nodup_nil, List.Perm.refl _, fun j g k h => by simp at h⟩
theorem flat_set : ∀ {gs : List (List Nat)} {j : Nat} {g : List Nat} (x : Nat), gs[j]? = some g → (gs.set j (g ++ [x])).flatten.Perm (gs.flatten ++ [x])
  | [], j, g, x, h => by simp at h
  | a :: gs, 0, g, x, h => by
    have e : a = g := Option.some.inj h
    subst e
    show ((a ++ [x]) ++ gs.flatten).Perm ((a ++ gs.flatten) ++ [x])
    rw [List.append_assoc, List.append_assoc]
    exact List.Perm.append_left a (List.perm_append_comm)
  | a :: gs, j + 1, g, x, h => by
    have ih := flat_set (gs := gs) (j := j) (g := g) x h
    show (a ++ (gs.set j (g ++ [x])).flatten).Perm ((a ++ gs.flatten) ++ [x])
    rw [List.append_assoc]
    exact List.Perm.append_left a ih
theorem tab_old {L : List Nat} {i : Nat} {ks : List Nat} {gs : List (List Nat)} (T : TabInv L i ks gs) {j : Nat} {g : List Nat} (hk : ks[j]? = some (fn' L i)) (hg : gs[j]? = some g) : TabInv L (i + 1) ks (gs.set j (g ++ [i])) where
  len := by rw [List.length_set]; exact T.len
  nd := T.nd
  perm := (flat_set i hg).trans (by rw [List.range_succ]; exact T.perm.append_right [i])
  lab := fun j' g' k' h1 h2 => by
    by_cases hj : j' = j
    · subst hj
      rw [hk] at h2
      cases h2
      rw [List.getElem?_set_self (List.getElem?_eq_some_iff.mp hg).1] at h1
      cases h1
      refine ⟨by simp, fun x hx => ?_⟩
      rcases List.mem_append.mp hx with hx | hx
      · exact (T.lab j' g _ hg hk).2 x hx
      · rw [List.mem_singleton.mp hx]
    · rw [List.getElem?_set_ne (Ne.symm hj)] at h1
      exact T.lab j' g' k' h1 h2
theorem tab_new {L : List Nat} {i : Nat} {ks : List Nat} {gs : List (List Nat)} (T : TabInv L i ks gs) (hk : fn' L i ∉ ks) : TabInv L (i + 1) (ks ++ [fn' L i]) (gs ++ [[i]]) where
  len := by rw [List.length_append, List.length_append, T.len]; rfl
  nd := by
    rw [List.nodup_append]
    refine ⟨T.nd, by simp, fun a ha b hb e => ?_⟩
    rw [List.mem_singleton.mp hb] at e
    exact hk (e ▸ ha)
  perm := by
    rw [List.flatten_append, List.range_succ]
    exact T.perm.append_right [i]
  lab := fun j g k h1 h2 => by
    have hl := T.len
    by_cases hj : j < gs.length
    · rw [List.getElem?_append_left hj] at h1
      rw [List.getElem?_append_left (by omega)] at h2
      exact T.lab j g k h1 h2
    · rw [List.getElem?_append_right (by omega)] at h1
      rw [List.getElem?_append_right (by omega)] at h2
      cases hz : j - gs.length with
      | zero =>
        rw [hz] at h1
        rw [hl, hz] at h2
        cases h1
        cases h2
        exact ⟨by simp, fun x hx => by rw [List.mem_singleton.mp hx]⟩
      | succ m =>
        rw [hz] at h1
        simp at h1
theorem flat_ge : ∀ {gs : List (List Nat)}, (∀ g ∈ gs, g ≠ []) → gs.length ≤ gs.flatten.length
  | [], _ => Nat.zero_le _
  | g :: gs, h => by
    have ih := flat_ge (gs := gs) fun x hx => h x (List.mem_cons_of_mem _ hx)
    have : 0 < g.length := List.length_pos_iff.mpr (h g List.mem_cons_self)
    rw [List.length_cons, List.flatten_cons, List.length_append]
    omega
theorem flat_mem : ∀ {gs : List (List Nat)} {g : List Nat}, g ∈ gs → g.length ≤ gs.flatten.length
  | [], _, h => by cases h
  | a :: gs, g, h => by
    rw [List.flatten_cons, List.length_append]
    rcases List.mem_cons.mp h with rfl | h
    · omega
    · have := flat_mem h
      omega
theorem TabInv.small {L : List Nat} {i : Nat} {ks : List Nat} {gs : List (List Nat)} (T : TabInv L i ks gs) : gs.length ≤ i := by
  have h1 := flat_ge (gs := gs) fun g hg => by
    obtain ⟨j, hj⟩ := List.mem_iff_getElem?.mp hg
    have hlt := (List.getElem?_eq_some_iff.mp hj).1
    have hl := T.len
    exact (T.lab j g (ks[j]'(by omega)) hj (List.getElem?_eq_getElem _)).1
  have h2 := T.perm.length_eq
  rw [List.length_range] at h2
  omega
theorem TabInv.smallG {L : List Nat} {i : Nat} {ks : List Nat} {gs : List (List Nat)} (T : TabInv L i ks gs) {g : List Nat} (h : g ∈ gs) : g.length ≤ i := by
  have h1 := flat_mem h
  have h2 := T.perm.length_eq
  rw [List.length_range] at h2
  omega
theorem tab_end {im L : List Nat} {ks : List Nat} {gs : List (List Nat)} (I : LabInv im im.length L) (him : ∀ x, x < im.length → fn' im x < im.length) (T : TabInv L im.length ks gs) : GroupsOf im.length (fn' im) gs := by
  have lt : ∀ g ∈ gs, ∀ x ∈ g, x < im.length := fun g hg x hx => List.mem_range.mp (T.perm.mem_iff.mp (List.mem_flatten.mpr ⟨g, hg, hx⟩))
  have key : ∀ g ∈ gs, ∃ j k, gs[j]? = some g ∧ ks[j]? = some k := fun g hg => by
    obtain ⟨j, hj⟩ := List.mem_iff_getElem?.mp hg
    have hlt := (List.getElem?_eq_some_iff.mp hj).1
    have hl := T.len
    exact ⟨j, ks[j]'(by omega), hj, List.getElem?_eq_getElem _⟩
  refine ⟨T.perm, fun g hg => ?_, fun g hg x hx => ?_, fun g hg S hS x hx y hy => ?_⟩
  · obtain ⟨j, k, h1, h2⟩ := key g hg
    exact (T.lab j g k h1 h2).1
  · obtain ⟨j, k, h1, h2⟩ := key g hg
    have hxl := lt g hg x hx
    obtain ⟨g', hg', hx'⟩ := List.mem_flatten.mp (T.perm.mem_iff.mpr (List.mem_range.mpr (him x hxl)))
    obtain ⟨j', k', h1', h2'⟩ := key g' hg'
    have e1 := (T.lab j g k h1 h2).2 x hx
    have e2 := (T.lab j' g' k' h1' h2').2 _ hx'
    have e3 : k = k' := by rw [← e1, ← e2]; exact I.eq x hxl hxl
    subst e3
    have e4 : j = j' := by
      obtain ⟨a1, b1⟩ := List.getElem?_eq_some_iff.mp h2
      obtain ⟨a2, b2⟩ := List.getElem?_eq_some_iff.mp h2'
      exact (List.getElem_inj T.nd).mp (b1.trans b2.symm)
    subst e4
    rw [h1] at h1'
    cases h1'
    exact hx'
  · obtain ⟨j, k, h1, h2⟩ := key g hg
    exact I.conn S hS x y (lt g hg x hx) (lt g hg y hy) (((T.lab j g k h1 h2).2 x hx).trans ((T.lab j g k h1 h2).2 y hy).symm)
end KM
end

section
set_option Elab.async false
set_option linter.all false
set_option maxRecDepth 100000
set_option maxHeartbeats 4000000
namespace KW
open PySem PySem.Spec PyProof.Rows L2 KR KM
abbrev sCheck : Stmt := top 8
abbrev sGroups : Stmt := top 9
abbrev nCheck : List Str := ["image", "size", "record", "name"]
abbrev nGroups : List Str := ["image", "labels", "record", "name", "least", "merged", "label", "found"]
theorem scCheck : FnScope nCheck ["image"] (defScope sCheck) := ⟨rfl, rfl, rfl, by decide +kernel, rfl, by decide +kernel, by decide +kernel⟩
theorem scGroups : FnScope nGroups ["image"] (defScope sGroups) := ⟨rfl, rfl, rfl, by decide +kernel, rfl, by decide +kernel, by decide +kernel⟩
def spCheck (K : PySem.W.Frag) : Sp := fun vs H Q _ => ∃ (a : Addr) (im : List Nat), vs = [.ref a] ∧ SqL K H a (vL im) ∧ Img im ∧ ∀ H', Same H H' → Q .non H'
section
variable {P : Program} {w : World} {K : PySem.W.Frag} {mg : Str → Option Value} {base : Heap}
theorem ok_check {f : Addr} {fd : FuncData} (F : Fun K "check_image" "check_image" sCheck f fd) (B : Bn mg) : FnOk P w K mg base CX0 1 f fd ["image"] (spCheck K) := by
  refine F.ok scCheck (fun vs H Q E h => ?_) (fun cdv A outer s H vs Q E hr h => ?_)
  · obtain ⟨a, im, rfl, _⟩ := h
    rfl
  · obtain ⟨a, im, rfl, hS, hI, k⟩ := h
    refine ⟨_, pss_cons (ps_set (i := 1) scCheck.nd rfl (.inl rfl) (pe_callB call_len_seq (by rfl) B.len PySem.boot_len (pa_cons (pv 0) pa_nil)))
      (pss_one (ps_for PassesOwn.never rfl (pi_enum (by rfl) B.enumerate (pa_cons (pv 0) pa_nil)) (pg_tup rfl (pgs_cons (pg_name (i := 2) scCheck.nd rfl (.inl rfl)) (pgs_cons (pg_name (i := 3) scCheck.nd rfl (.inl rfl)) pgs_nil)))
        (pss_one (ps_if (PW.pt (pw_or (pt_cmpR op_lt (pv 3) pe_int (nomark _)) (pw_or1 (pt_cmpR op_ge (pv 3) (pv 1) (nomark _))))) pss_never pss_nil)))), ?_⟩
    -- size = len(image)
    refine ⟨_, rfl, a, _, rfl, .inl hS, ?_⟩
    refine ⟨_, rfl, a, _, rfl, hS, for_it walk_enum (fun i σ H' => ∃ v2 v3, σ = [some (.ref a), some (.int ((vL im).length : Nat)), v2, v3] ∧ Same H H') ⟨none, none, rfl, Same.refl H⟩ (fun i σ H' _ ⟨_, _, _, s1⟩ => s1.seq hS) ?_ ?_⟩
    · rintro i x σ H' H2 hi ⟨v2, v3, rfl, s1⟩ ⟨T, x1, x2, rfl, nT, rfl, e1, e2⟩
      obtain ⟨y, hy, rfl⟩ := vL_of e2
      cases e1
      have s2 : Same H' (upd H' T (.tup [V.int (i : Nat), vI y])) := same_upd nT
      have hlt : y < im.length := hI y (List.mem_of_getElem? hy)
      refine ⟨T, _, rfl, SqT.of upd_same, rfl, _, _, rfl, _, _, rfl, rfl, ?_⟩
      have c1 : decide ((y : Int) < 0) = false := decide_eq_false (by omega)
      have c2 : decide (((vL im).length : Int) ≤ (y : Int)) = false := decide_eq_false (by rw [vL_length]; omega)
      refine ⟨_, rfl, _, _, rfl, rfl, _, rfl, ?_⟩
      rw [c1]
      refine iteF ⟨_, rfl, _, rfl, _, _, rfl, rfl, _, rfl, ?_⟩
      rw [c2]
      exact iteF ⟨_, _, rfl, s1.trans s2⟩
    · rintro σ H' ⟨v2, v3, rfl, s1⟩
      exact k H' s1
def spGroups (K : PySem.W.Frag) : Sp := fun vs H Q _ => ∃ (a : Addr) (im : List Nat), vs = [.ref a] ∧ SqL K H a (vL im) ∧ Img im ∧ im.length ≤ 64 ∧
  ∀ (gs : List (List Nat)) (as : List Addr) (p : Addr) (H' : Hp), GroupsOf im.length (fnm im) gs → Same H H' → H p = none → H' p = some (.lst (as.map V.ref)) → LL H' as gs → as.length ≤ 64 → Q (.ref p) H'
/-- the dict of the groups by their labels -/
def kvsOf (ks : List Nat) (as : List Addr) : List (Key × V) := List.zipWith (fun k a => ((Sum.inl ((k : Nat) : Int) : Key), V.ref a)) ks as
theorem kvsOf_len (ks : List Nat) (as : List Addr) (h : ks.length = as.length) : (kvsOf ks as).length = as.length := by unfold kvsOf; rw [List.length_zipWith, h]; omega
theorem kvsOf_val : ∀ (ks : List Nat) (as : List Addr) (k : Nat), ks.length = as.length →
    (valV (kvsOf ks as) (Sum.inl ((k : Nat) : Int)) = none ∧ k ∉ ks) ∨ ∃ (j : Nat) (a : Addr), ks[j]? = some k ∧ as[j]? = some a ∧ valV (kvsOf ks as) (Sum.inl ((k : Nat) : Int)) = some (.ref a)
  | [], [], k, _ => .inl ⟨rfl, by simp⟩
  | [], _ :: _, _, h => by simp at h
  | _ :: _, [], _, h => by simp at h
  | k0 :: ks, a0 :: as, k, h => by
    by_cases e : k0 = k
    · subst e
      refine .inr ⟨0, a0, rfl, rfl, ?_⟩
      unfold valV kvsOf
      rw [List.zipWith_cons_cons, List.find?_cons]
      simp
    · have ne : ¬ (Sum.inl ((k0 : Nat) : Int) : Key) = Sum.inl ((k : Nat) : Int) := fun z => e (by injection z with z; omega)
      have st : valV (kvsOf (k0 :: ks) (a0 :: as)) (Sum.inl ((k : Nat) : Int)) = valV (kvsOf ks as) (Sum.inl ((k : Nat) : Int)) := by
        unfold valV kvsOf
        rw [List.zipWith_cons_cons, List.find?_cons]
        simp [ne]
      rw [st]
      rcases kvsOf_val ks as k (by simpa using h) with ⟨h1, h2⟩ | ⟨j, a, h1, h2, h3⟩
      · exact .inl ⟨h1, by simp [h2, Ne.symm e]⟩
      · exact .inr ⟨j + 1, a, h1, h2, h3⟩
theorem kvsOf_put {ks : List Nat} {as : List Addr} {k : Nat} {a : Addr} (h : ks.length = as.length) (hn : valV (kvsOf ks as) (Sum.inl ((k : Nat) : Int)) = none) : putK (kvsOf ks as) (Sum.inl ((k : Nat) : Int)) (.ref a) = kvsOf (ks ++ [k]) (as ++ [a]) := by
  rw [putK_new _ hn]
  unfold kvsOf
  rw [List.zipWith_append h]
  rfl
theorem kvsOf_vals : ∀ (ks : List Nat) (as : List Addr), ks.length = as.length → (kvsOf ks as).map (·.2) = as.map V.ref
  | [], [], _ => rfl
  | [], _ :: _, h => by simp at h
  | _ :: _, [], h => by simp at h
  | k0 :: ks, a0 :: as, h => by
    unfold kvsOf
    rw [List.zipWith_cons_cons, List.map_cons, List.map_cons]
    exact congrArg _ (kvsOf_vals ks as (by simpa using h))
/-- the heap while the groups are gathered -/
structure GHeap (H0 H : Hp) (d : Addr) (ks : List Nat) (as : List Addr) (gs : List (List Nat)) : Prop where
  len : ks.length = as.length
  dict : H d = some (.dK (kvsOf ks as))
  nd : as.Nodup
  fr : ∀ a ∈ as, H0 a = none
  ll : LL H as gs
theorem ok_groups {f : Addr} {fd : FuncData} (F : Fun K "groups" "groups" sGroups f fd) (B : Bn mg) (C1 : Cal P w K mg base 1 "check_image" ["image"] (spCheck K)) : FnOk P w K mg base CX0 2 f fd ["image"] (spGroups K) := by
  obtain ⟨f1, fd1, G1, hm1, kp1, b1⟩ := C1
  refine F.ok scGroups (fun vs H Q E h => ?_) (fun cdv A outer s H vs Q E hr h => ?_)
  · obtain ⟨a, im, rfl, _⟩ := h
    rfl
  · obtain ⟨a, im, rfl, hS, hI, hn, k⟩ := h
    have him : ∀ x, x < im.length → fn' im x < im.length := fun x hx => hI.lt hx
    refine ⟨_, pss_cons (ps_expr (pe_call G1 hr rfl hm1 kp1 b1 .nil pass0 (pa_cons (pv 0) pa_nil)))
      (pss_cons (ps_set (i := 1) scGroups.nd rfl (.inl rfl) (pe_listRg rfl (by rfl) B.list (prg_1 (by rfl) B.range (pe_callB call_len_seq (by rfl) B.len PySem.boot_len (pa_cons (pv 0) pa_nil)))))
      (pss_cons (ps_for PassesOwn.never rfl (pi_enum (by rfl) B.enumerate (pa_cons (pv 0) pa_nil)) (pg_tup rfl (pgs_cons (pg_name (i := 2) scGroups.nd rfl (.inl rfl)) (pgs_cons (pg_name (i := 3) scGroups.nd rfl (.inl rfl)) pgs_nil)))
        (pss_cons (ps_set (i := 4) scGroups.nd rfl (.inr rfl) (pe_callB (call_min2 rfl) (by rfl) B.min boot_min (pa_cons (pe_ix ix_list (pv 1) (pv 2) (fun _ _ => rfl)) (pa_cons (pe_ix ix_list (pv 1) (pv 3) (fun _ _ => rfl)) pa_nil))))
        (pss_cons (ps_set (i := 5) scGroups.nd rfl (.inr rfl) (pe_callB (call_max2 rfl) (by rfl) B.max boot_max (pa_cons (pe_ix ix_list (pv 1) (pv 2) (fun _ _ => rfl)) (pa_cons (pe_ix ix_list (pv 1) (pv 3) (fun _ _ => rfl)) pa_nil))))
        (pss_one (ps_if (pt_cmpR op_ne (pv 4) (pv 5) (nomark _))
          (pss_one (ps_setLc (i := 1) (own := [("label", 6)]) (g := gName 6) (tt := tYes) rfl scGroups.nd rfl rfl (sw_true rfl rfl rfl (by decide +kernel)) (pi_list (pv 1)) (blkOk_by (own := [("label", 6)]) (N := nGroups) (sc := defScope sGroups) (by decide +kernel))
            (fun _ _ _ _ _ => pg_name (i := 6) scGroups.nd rfl (Or.inl rfl)) (fun _ _ _ _ _ => pts_nil) (fun _ _ _ _ _ => pe_ifExp (pt_cmpR op_eq (pv 6) (pv 5) (nomark _)) (pv 4) (pv 6))))
          pss_nil)))))
      (pss_cons (ps_set (i := 7) scGroups.nd rfl (.inl rfl) pe_dnewK)
      (pss_cons (ps_for PassesOwn.never rfl (pi_enum (by rfl) B.enumerate (pa_cons (pv 1) pa_nil)) (pg_tup rfl (pgs_cons (pg_name (i := 2) scGroups.nd rfl (.inl rfl)) (pgs_cons (pg_name (i := 6) scGroups.nd rfl (.inl rfl)) pgs_nil)))
        (pss_one (ps_expr (pe_bm PySem.F.plainAttrs_list PySem.F.slot_list_append PySem.F.type_list_append mt_append (pe_dsetd (pv 7) (pv 6) (pe_lst pa_nil) ⟨rfl, rfl, rfl, rfl⟩) (pa_cons (pv 2) pa_nil)))))
      (pss_one (ps_ret (pe_listVals rfl (pv 7) (by rfl) B.list))))))), ?_⟩
    -- check_image(image)
    refine ⟨_, rfl, a, im, rfl, hS, hI, fun H1 s1 => ?_⟩
    -- labels = list(range(len(image)))
    refine ⟨_, rfl, a, _, rfl, .inl (s1.seq hS), ?_⟩
    refine ⟨_, rfl, RgOk.of_le (by omega) (by rw [vL_length]; omega) (by omega) (by omega), fun l0 nl0 => ?_⟩
    have eL0 : rgV 0 ((vL im).length : Nat) = vL (List.range im.length) := by
      rw [vL_length]
      unfold rgV vL
      rw [show (((im.length : Nat) : Int) - 0).toNat = im.length by omega]
      refine List.map_congr_left fun i _ => ?_
      show V.int (0 + (i : Nat)) = V.int (i : Nat)
      rw [Int.zero_add]
    have s2 : Same H (upd H1 l0 (.lst (rgV 0 ((vL im).length : Nat)))) := s1.trans (same_upd nl0)
    -- for record, name in enumerate(image)
    refine ⟨_, rfl, a, _, rfl, s2.seq hS, for_it walk_enum (fun i σ H' => ∃ (l : Addr) (L : List Nat) (v2 v3 v4 v5 : Option V), σ = [some (.ref a), some (.ref l), v2, v3, v4, v5, none, none] ∧ Same H H' ∧ H' l = some (.lst (vL L)) ∧ LabInv im i L)
      ⟨l0, _, none, none, none, none, rfl, s2, by rw [upd_same, eL0], lab_start im⟩ (fun i σ H' _ ⟨_, _, _, _, _, _, _, s3, _⟩ => s3.seq hS) ?_ ?_⟩
    · rintro i x σ H' H2 hi ⟨l, L, v2, v3, v4, v5, rfl, s3, hl, LI⟩ ⟨T, x1, x2, rfl, nT, rfl, e1, e2⟩
      obtain ⟨y, hy, rfl⟩ := vL_of e2
      cases e1
      rw [vL_length] at hi
      have s4 : Same H' (upd H' T (.tup [V.int (i : Nat), vI y])) := same_upd nT
      have hl4 := s4 _ _ hl
      have hlt : y < im.length := hI y (List.mem_of_getElem? hy)
      have ey : y = fn' im i := Option.some.inj (hy.symm.trans (get_fnm hi))
      have at1 : atI (vL L) ((i : Nat) : Int) = some (vI (fnm L i)) := at_vL (get_fnm (by rw [LI.len]; exact hi))
      have at2 : atI (vL L) ((y : Nat) : Int) = some (vI (fnm L y)) := at_vL (get_fnm (by rw [LI.len]; exact hlt))
      refine ⟨T, _, rfl, SqT.of upd_same, rfl, _, _, rfl, _, _, rfl, rfl, ?_⟩
      -- least, merged
      refine ⟨_, rfl, _, rfl, l, _, _, _, rfl, rfl, SqL.of hl4, at1, _, rfl, _, rfl, l, _, _, _, rfl, rfl, SqL.of hl4, at2, _, _, rfl, ?_⟩
      refine ⟨_, rfl, _, rfl, l, _, _, _, rfl, rfl, SqL.of hl4, at1, _, rfl, _, rfl, l, _, _, _, rfl, rfl, SqL.of hl4, at2, _, _, rfl, ?_⟩
      refine ⟨_, rfl, _, rfl, rfl, _, rfl, ?_⟩
      obtain ⟨lo, hi2, elo, ehi, hlh, hne⟩ : ∃ lo hi2 : Nat, (if ((fnm L y : Nat) : Int) < ((fnm L i : Nat) : Int) then ((fnm L y : Nat) : Int) else ((fnm L i : Nat) : Int)) = (lo : Int) ∧ (if ((fnm L y : Nat) : Int) > ((fnm L i : Nat) : Int) then ((fnm L y : Nat) : Int) else ((fnm L i : Nat) : Int)) = (hi2 : Int) ∧
          ((fn' L i = lo ∧ fn' L (fn' im i) = hi2) ∨ (fn' L i = hi2 ∧ fn' L (fn' im i) = lo)) ∧ (lo = hi2 → fn' L i = fn' L (fn' im i)) := by
        rcases Nat.lt_or_ge (fnm L y) (fnm L i) with c | c
        · exact ⟨fnm L y, fnm L i, if_pos (by omega), if_neg (by omega), .inr ⟨rfl, by rw [← ey]⟩, fun z => by rw [← ey]; exact z.symm⟩
        · by_cases c2 : fnm L y > fnm L i
          · exact ⟨fnm L i, fnm L y, if_neg (by omega), if_pos (by omega), .inl ⟨rfl, by rw [← ey]⟩, fun z => by rw [← ey]; exact z⟩
          · have c3 : fnm L i = fnm L y := by omega
            exact ⟨fnm L i, fnm L y, if_neg (by omega), by rw [if_neg (by omega), c3], .inl ⟨rfl, by rw [← ey]⟩, fun z => by rw [← ey]; exact z⟩
      rw [elo, ehi]
      refine ite2 (fun c => ?_) (fun c => ?_)
      · -- labels = [least if label == merged else label for label in labels]
        refine ⟨_, rfl, l, rfl, ⟨_, SqL.of hl4⟩, fun D nD => lc_list (xs := vL L) (fun j H5 => Same (upd H' T (.tup [V.int (i : Nat), vI y])) H5 ∧ H5 D = some (.lst (vL ((L.map fun l => if l = hi2 then lo else l).take j))))
          ⟨same_upd nD, by rw [upd_same]; rfl⟩ (fun j H5 _ ⟨s5, _⟩ => SqL.of (s5 _ _ hl4)) ?_ ?_⟩
        · rintro j x H5 hx ⟨s5, hD⟩
          obtain ⟨z, hz, rfl⟩ := vL_of hx
          have hjl : j < L.length := (List.getElem?_eq_some_iff.mp hz).1
          have et : vL ((L.map fun l => if l = hi2 then lo else l).take j) ++ [vI (if z = hi2 then lo else z)] = vL ((L.map fun l => if l = hi2 then lo else l).take (j + 1)) := by
            rw [vL_app, List.take_add_one, List.getElem?_map, hz]
            rfl
          have hsz : (vL ((L.map fun l => if l = hi2 then lo else l).take j)).length < sizeLine := by
            rw [vL_length, List.length_take]
            refine Nat.lt_of_le_of_lt (Nat.min_le_left _ _) (small1000 ?_)
            have := LI.len
            omega
          refine ⟨rfl, ?_⟩
          refine ⟨_, rfl, _, rfl, rfl, _, rfl, ?_⟩
          refine ite2 (fun c2 => ?_) (fun c2 => ?_)
          · have c3 : z = hi2 := vI_inj (of_decide_eq_true c2)
            refine ⟨_, rfl, _, hD, hsz, s5.put nD, ?_⟩
            · rw [upd_same, ← et, if_pos c3]
              rfl
          · have c3 : ¬ z = hi2 := fun e => c2 (decide_eq_true (by rw [e]; rfl))
            refine ⟨_, rfl, _, hD, hsz, s5.put nD, ?_⟩
            · rw [upd_same, ← et, if_neg c3]
        · rintro H5 ⟨s5, hD⟩
          rw [List.take_of_length_le (by rw [vL_length, List.length_map]; exact Nat.le_refl _)] at hD
          exact ⟨D, _, _, _, _, _, rfl, (s3.trans s4).trans s5, hD, lab_step LI him hi hlh⟩
      · have c' : lo = hi2 := by
          simp only [Bool.not_eq_true', Bool.not_eq_false, decide_eq_true_eq, Bool.not_eq_true] at c
          exact vI_inj c
        exact ⟨l, L, _, _, _, _, rfl, s3.trans s4, hl4, lab_same LI (hne c')⟩
    · rintro σ H' ⟨l, L, v2, v3, v4, v5, rfl, s3, hl, LI⟩
      rw [vL_length] at LI
      -- found = {}
      intro d nd
      have s4 : Same H' (upd H' d (.dK [])) := same_upd nd
      refine ⟨_, rfl, l, _, rfl, SqL.of (s4 _ _ hl), for_it walk_enum (fun i σ H5 => ∃ (ks : List Nat) (as : List Addr) (gs : List (List Nat)) (v2 v6 : Option V), σ = [some (.ref a), some (.ref l), v2, v3, v4, v5, v6, some (.ref d)] ∧ Same H' H5 ∧ GHeap H' H5 d ks as gs ∧ TabInv L i ks gs)
        ⟨[], [], [], _, _, rfl, s4, ⟨rfl, upd_same, List.nodup_nil, (fun a h => by cases h), rfl, fun j a e => by simp at e⟩, tab_start L⟩ (fun i σ H5 _ ⟨_, _, _, _, _, _, s5, _⟩ => SqL.of (s5 _ _ hl)) ?_ ?_⟩
      · rintro i x σ H5 H6 hi ⟨ks, as, gs, v2', v6, rfl, s5, GH, TI⟩ ⟨T, x1, x2, rfl, nT, rfl, e1, e2⟩
        obtain ⟨y, hy, rfl⟩ := vL_of e2
        cases e1
        rw [vL_length, LI.len] at hi
        have sT : Same H5 (upd H5 T (.tup [V.int (i : Nat), vI y])) := same_upd nT
        have ey : y = fn' L i := Option.some.inj (hy.symm.trans (get_fnm (by rw [LI.len]; exact hi)))
        subst ey
        have hd := sT _ _ GH.dict
        have hsm := TI.small
        have hklen : (kvsOf ks as).length ≤ 64 := by
          rw [kvsOf_len ks as GH.len, GH.ll.1]
          omega
        refine ⟨T, _, rfl, SqT.of upd_same, rfl, _, _, rfl, _, _, rfl, rfl, ?_⟩
        refine ⟨_, rfl, d, rfl, .inl ⟨_, .inl hd⟩, _, rfl, (by show 0 ≤ sizeLine; decide), fun q nq => ?_⟩
        have sq : Same (upd H5 T (.tup [V.int (i : Nat), vI (fn' L i)])) (upd (upd H5 T (.tup [V.int (i : Nat), vI (fn' L i)])) q (.lst [])) := same_upd nq
        have s6 : Same H5 (upd (upd H5 T (.tup [V.int (i : Nat), vI (fn' L i)])) q (.lst [])) := sT.trans sq
        have nq5 : H5 q = none := sT.free nq
        refine ⟨kvsOf ks as, Sum.inl ((fn' L i : Nat) : Int), sq _ _ hd, rfl, small1000 (by omega), fun v hv => ?_, fun hv => ?_⟩
        · rcases kvsOf_val ks as (fn' L i) GH.len with ⟨h1, _⟩ | ⟨j, b, h1, h2, h3⟩
          · rw [h1] at hv; cases hv
          · rw [h3] at hv
            cases hv
            obtain ⟨g, hg, hb⟩ := GH.ll.2 j b h2
            have hb2 := s6 _ _ hb
            have ndb : d ≠ b := ne_of GH.dict hb (by intro z; cases z)
            refine ⟨.inl ⟨rfl, _, SqL.of hb2⟩, _, rfl, b, _, _, rfl, rfl, hb2, ?_, ?_⟩
            · rw [vL_length]
              have := TI.smallG (List.mem_of_getElem? hg)
              exact small1000 (by omega)
            · refine ⟨ks, as, gs.set j (g ++ [i]), _, _, rfl, ?_, ⟨GH.len, ?_, GH.nd, GH.fr, ?_, ?_⟩, tab_old TI h1 hg⟩
              · exact (s5.trans s6).put (GH.fr b (List.mem_of_getElem? h2))
              · rw [upd_ne ndb]
                exact s6 _ _ GH.dict
              · rw [List.length_set]
                exact GH.ll.1
              · intro j' a' ha'
                by_cases hj : j' = j
                · subst hj
                  rw [h2] at ha'
                  cases ha'
                  refine ⟨g ++ [i], List.getElem?_set_self (List.getElem?_eq_some_iff.mp hg).1, ?_⟩
                  rw [upd_same, ← vL_app]
                  rfl
                · obtain ⟨g', hg', hb'⟩ := GH.ll.2 j' a' ha'
                  refine ⟨g', by rw [List.getElem?_set_ne (Ne.symm hj)]; exact hg', ?_⟩
                  rw [upd_ne (fun e => hj (nd_ix GH.nd ha' (by rw [e]; exact h2)))]
                  exact s6 _ _ hb'
        · have hqd : q ≠ d := fun e => by rw [e] at nq; rw [hd] at nq; cases nq
          have hk : fn' L i ∉ ks := by
            rcases kvsOf_val ks as (fn' L i) GH.len with ⟨_, h⟩ | ⟨_, _, _, _, h⟩
            · exact h
            · rw [h] at hv; cases hv
          have hq2 : (upd (upd (upd H5 T (.tup [V.int (i : Nat), vI (fn' L i)])) q (.lst [])) d (.dK (putK (kvsOf ks as) (Sum.inl ((fn' L i : Nat) : Int)) (.ref q)))) q = some (.lst []) := by rw [upd_ne hqd, upd_same]
          refine ⟨.inl ⟨rfl, _, SqL.of hq2⟩, _, rfl, q, _, _, rfl, rfl, hq2, (by show 0 < sizeLine; decide), ?_⟩
          have nqa : q ∉ as := fun h => by
            obtain ⟨j, hj⟩ := List.mem_iff_getElem?.mp h
            obtain ⟨g, _, hb⟩ := GH.ll.2 j q hj
            rw [nq5] at hb; cases hb
          refine ⟨ks ++ [fn' L i], as ++ [q], gs ++ [[i]], _, _, rfl, ?_, ⟨?_, ?_, ?_, ?_, ?_, ?_⟩, tab_new TI hk⟩
          · exact ((s5.trans s6).put nd).put (s5.free nq5)
          · rw [List.length_append, List.length_append, GH.len]
            rfl
          · rw [upd_ne hqd.symm, upd_same, kvsOf_put GH.len hv]
          · rw [List.nodup_append]
            refine ⟨GH.nd, by simp, fun x hx y hy e => ?_⟩
            rw [List.mem_singleton.mp hy] at e
            exact nqa (e ▸ hx)
          · intro x hx
            rcases List.mem_append.mp hx with hx | hx
            · exact GH.fr x hx
            · rw [List.mem_singleton.mp hx]
              exact s5.free nq5
          · rw [List.length_append, List.length_append, GH.ll.1]
            rfl
          · intro j' a' ha'
            have hl := GH.ll.1
            by_cases hj : j' < as.length
            · rw [List.getElem?_append_left hj] at ha'
              obtain ⟨g', hg', hb'⟩ := GH.ll.2 j' a' ha'
              have ne1 : a' ≠ q := ne_of_none hb' nq5
              have ne2 : a' ≠ d := (ne_of GH.dict hb' (by intro z; cases z)).symm
              refine ⟨g', by rw [List.getElem?_append_left (by omega)]; exact hg', ?_⟩
              rw [upd_ne ne1, upd_ne ne2]
              exact s6 _ _ hb'
            · rw [List.getElem?_append_right (by omega)] at ha'
              cases hz : j' - as.length with
              | zero =>
                rw [hz] at ha'
                cases ha'
                refine ⟨[i], by rw [List.getElem?_append_right (by omega), ← hl, hz]; rfl, ?_⟩
                rw [upd_same]
                rfl
              | succ m =>
                rw [hz] at ha'
                simp at ha'
      · rintro σ H5 ⟨ks, as, gs, v2', v6, rfl, s5, GH, TI⟩
        rw [vL_length, LI.len] at TI
        refine ⟨_, rfl, d, _, rfl, GH.dict, fun p np => ?_⟩
        rw [kvsOf_vals ks as GH.len]
        have hsm := TI.small
        refine k gs as p _ (tab_end LI him TI) ((s3.trans s5).put ((s3.trans s5).free np)) ((s3.trans s5).free np) upd_same (GH.ll.same (same_upd np)) ?_
        rw [GH.ll.1]
        omega
end
end KW
end

section
set_option Elab.async false
set_option linter.all false
set_option maxRecDepth 100000
set_option maxHeartbeats 4000000
namespace KW
open PySem PySem.Spec PyProof.Rows L2 KR KM
abbrev sWalk : Stmt := top 14
abbrev nWalk : List Str := ["image", "start", "path"]
theorem scWalk : FnScope nWalk ["image", "start"] (defScope sWalk) := ⟨rfl, rfl, rfl, by decide +kernel, rfl, by decide +kernel, by decide +kernel⟩
def spWalk (K : PySem.W.Frag) : Sp := fun vs H Q _ => ∃ (a : Addr) (im : List Nat) (st : Nat) (g : List Nat), vs = [.ref a, vI st] ∧ SqL K H a (vL im) ∧ st ∈ g ∧ (∀ x ∈ g, fnm im x ∈ g) ∧ (∀ x ∈ g, x < im.length) ∧ g.length ≤ 4 ∧
  ∀ H' p, Same H H' → H p = none → H' p = some (.lst (vL (walkF (fnm im) 4 [st] st))) → Q (.ref p) H'
theorem walkF_stop {A : Type} [DecidableEq A] {f : A → A} {path : List A} {last : A} (h : f last ∈ path) : ∀ k, walkF f k path last = path
  | 0 => rfl
  | k + 1 => by unfold walkF; rw [if_pos h]
section
variable {P : Program} {w : World} {K : PySem.W.Frag} {mg : Str → Option Value} {base : Heap}
theorem ok_walk {f : Addr} {fd : FuncData} (F : Fun K "_walk" "_walk" sWalk f fd) : FnOk P w K mg base CX0 1 f fd ["image", "start"] (spWalk K) := by
  refine F.ok scWalk (fun vs H Q E h => ?_) (fun cdv A outer s H vs Q E hr h => ?_)
  · obtain ⟨a, im, st, g, rfl, _⟩ := h
    rfl
  · obtain ⟨a, im, st, g, rfl, hS, hst, hc, hlt, hg, k⟩ := h
    refine ⟨_, pss_cons (ps_set (i := 2) scWalk.nd rfl (.inl rfl) (pe_lst (pa_cons (pv 1) pa_nil)))
      (pss_cons (ps_while PassesOwn.never (pt_cmpR op_notIn_seq (pe_ix ix_list (pv 0) (pe_ix ix_list (pv 2) (pe_un un_neg pe_int) (fun _ _ => rfl)) (fun _ _ => rfl)) (pv 2) (by rfl))
        (pss_one (ps_expr (pe_bm PySem.F.plainAttrs_list PySem.F.slot_list_append PySem.F.type_list_append mt_append (pv 2) (pa_cons (pe_ix ix_list (pv 0) (pe_ix ix_list (pv 2) (pe_un un_neg pe_int) (fun _ _ => rfl)) (fun _ _ => rfl)) pa_nil)))))
      (pss_one (ps_ret (pv 2)))), ?_⟩
    refine ⟨_, rfl, (by show 1 ≤ sizeLine; decide), fun p np => ?_⟩
    refine ⟨fun m σ H' => ∃ (path : List Nat) (last : Nat), σ = [some (.ref a), some (vI st), some (.ref p)] ∧ Same H H' ∧ H' p = some (.lst (vL (path ++ [last]))) ∧ (path ++ [last]).Nodup ∧ (∀ x ∈ path ++ [last], x ∈ g) ∧ m + path.length = 4 ∧
      walkF (fnm im) m (path ++ [last]) last = walkF (fnm im) 4 [st] st, ⟨4, [], st, rfl, same_upd np, upd_same, by simp, by simpa using hst, rfl, rfl⟩, ?_⟩
    rintro m σ H' ⟨path, last, rfl, s1, hp, nd, sub, hm, hw⟩
    have hlast : last ∈ g := sub last (by simp)
    have at1 : atI (vL (path ++ [last])) (-1) = some (vI last) := by rw [← vL_app]; exact atI_last _ _
    have at2 : atI (vL im) ((last : Nat) : Int) = some (vI (fnm im last)) := at_vL (get_fnm (hlt last hlast))
    refine ⟨_, rfl, _, rfl, _, rfl, p, _, _, _, rfl, rfl, SqL.of hp, at1, a, _, _, _, rfl, rfl, s1.seq hS, at2, _, rfl, p, _, rfl, .inl (SqL.of hp), rfl, flat_vL _, _, rfl, ?_⟩
    rw [inV_vL]
    refine ite2 (fun c => ?_) (fun c => ?_)
    · have c2 : fnm im last ∉ path ++ [last] := by simpa using c
      obtain ⟨m', rfl⟩ : ∃ m', m = m' + 1 := by
        cases m with
        | zero =>
          exfalso
          have nd2 : (path ++ [last] ++ [fnm im last]).Nodup := by
            rw [List.nodup_append]
            refine ⟨nd, by simp, fun x hx y hy e => ?_⟩
            rw [List.mem_singleton.mp hy] at e
            exact c2 (e ▸ hx)
          have h3 := nd_sub nd2 (m := g) fun x hx => by
            rcases List.mem_append.mp hx with hx | hx
            · exact sub x hx
            · rw [List.mem_singleton.mp hx]; exact hc last hlast
          simp at h3
          omega
        | succ m' => exact ⟨m', rfl⟩
      refine ⟨fun σ' H2 => ∃ (path : List Nat) (last : Nat), σ' = [some (.ref a), some (vI st), some (.ref p)] ∧ Same H H2 ∧ H2 p = some (.lst (vL (path ++ [last]))) ∧ (path ++ [last]).Nodup ∧ (∀ x ∈ path ++ [last], x ∈ g) ∧ m' + path.length = 4 ∧
        walkF (fnm im) m' (path ++ [last]) last = walkF (fnm im) 4 [st] st, fun σ' H2 h => ⟨m', Nat.lt_succ_self _, h⟩, ?_⟩
      refine ⟨_, rfl, .inl ⟨rfl, _, SqL.of hp⟩, _, rfl, _, rfl, _, rfl, p, _, _, _, rfl, rfl, SqL.of hp, at1, a, _, _, _, rfl, rfl, s1.seq hS, at2, p, _, _, rfl, rfl, hp, ?_, ?_⟩
      · refine small_vL (n := 5) ?_
        simp
        omega
      · refine ⟨path ++ [last], fnm im last, rfl, s1.put np, ?_, ?_, ?_, ?_, ?_⟩
        · rw [upd_same, vL_app]
        · rw [List.nodup_append]
          refine ⟨nd, by simp, fun x hx y hy e => ?_⟩
          rw [List.mem_singleton.mp hy] at e
          exact c2 (e ▸ hx)
        · intro x hx
          rcases List.mem_append.mp hx with hx | hx
          · exact sub x hx
          · rw [List.mem_singleton.mp hx]; exact hc last hlast
        · simp
          omega
        · rw [← hw]
          show _ = walkF (fnm im) (m' + 1) (path ++ [last]) last
          rw [walkF, if_neg c2]
    · have c2 : fnm im last ∈ path ++ [last] := Decidable.byContradiction fun n => c (by
        show (!decide (fnm im last ∈ path ++ [last])) = true
        rw [decide_eq_false n]
        rfl)
      refine ⟨_, rfl, k H' p s1 np ?_⟩
      rw [hp, ← hw, walkF_stop c2]
end
end KW
end

section
set_option Elab.async false
set_option linter.all false
set_option maxRecDepth 100000
set_option maxHeartbeats 4000000
namespace KW
open PySem PySem.Spec PyProof.Rows L2 KR KM
abbrev sForm : Stmt := top 15
abbrev nForm : List Str := ["image", "group", "shown", "unshown", "path", "records", "shape", "word", "record"]
theorem scForm : FnScope nForm ["image", "group"] (defScope sForm) := ⟨rfl, rfl, rfl, by decide +kernel, rfl, by decide +kernel, by decide +kernel⟩
def w8s : W8 → Str
  | .free => "free"
  | .pair => "pair"
  | .claim => "claim"
  | .hook => "hook"
  | .relay => "relay"
  | .clamp => "clamp"
  | .trail => "trail"
  | .wheel => "wheel"
/-- the shapes' table as the walk reads it -/
structure Shp (K : PySem.W.Frag) (P : Program) (w : World) (mg : Str → Option Value) : Prop where
  ex : ∃ (a : Addr) (xs : List (List Key × Addr × Value)), mg "SHAPES" = some (.ref a) ∧ KTab K P w a xs ∧ ∀ (sh : List Nat) (w8 : W8), wordOf sh = some w8 →
    ∃ t, ((PySem.atKey xs (sh.map fun n => (Sum.inl ((n : Nat) : Int) : Key))).map (·.2)) = some (.str (w8s w8) t)
def spForm (K : PySem.W.Frag) : Sp := fun vs H Q _ => ∃ (a b : Addr) (im g sh r : List Nat) (w8 : W8), vs = [.ref a, .ref b] ∧ SqL K H a (vL im) ∧ SqL K H b (vL g) ∧ (∀ x ∈ g, x < im.length) ∧ (∀ x ∈ g, fnm im x ∈ g) ∧ g.length ≤ 4 ∧
  formOf (fnm im) g = some (sh, r) ∧ wordOf sh = some w8 ∧ r.Perm g ∧ ∀ H' p q, Same H H' → H p = none → H' p = some (.tup [.str (w8s w8), .ref q]) → H' q = some (.tup (vL r)) → Q (.ref p) H'
section
variable {P : Program} {w : World} {K : PySem.W.Frag} {mg : Str → Option Value} {base : Heap}
theorem ok_form {f : Addr} {fd : FuncData} (F : Fun K "form_of" "form_of" sForm f fd) (B : Bn mg) (C1 : Cal P w K mg base 1 "_walk" ["image", "start"] (spWalk K)) (S : Shp K P w mg) (hL : ∃ t, mg "LARGEST" = some (.int 4 t)) :
    FnOk P w K mg base CX0 2 f fd ["image", "group"] (spForm K) := by
  obtain ⟨f1, fd1, G1, hm1, kp1, b1⟩ := C1
  obtain ⟨sa, xs, hms, kt, hsh⟩ := S.ex
  obtain ⟨tl, hL⟩ := hL
  refine F.ok scForm (fun vs H Q E h => ?_) (fun cdv A outer s H vs Q E hr h => ?_)
  · obtain ⟨a, b, im, g, sh, r, w8, rfl, _⟩ := h
    rfl
  · obtain ⟨a, b, im, g, sh, r, w8, rfl, hA, hB, hlt, hc, hg, hf, hw, hperm, k⟩ := h
    have hu := hu_of hr
    refine ⟨_, pss_cons (ps_if (pt_cmpR op_gt (pe_callB call_len_seq (by rfl) B.len PySem.boot_len (pa_cons (pv 1) pa_nil)) (pe_glob (v := .int 4) (by rfl) hL ⟨_, rfl⟩) (nomark _)) pss_never pss_nil)
      (pss_cons (ps_set (i := 2) scForm.nd rfl (.inr rfl) (pe_lc (own := [("record", 8)]) (g := gName 8) (tt := tYes) (te := tOp (rIxL K) (tVar 0) (tVar 8)) rfl scForm.nd (pi_list (pv 1)) (blkOk_by (own := [("record", 8)]) (N := nForm) (sc := defScope sForm) (by decide +kernel))
          (fun _ _ _ _ _ => pg_name (i := 8) scForm.nd rfl (Or.inl rfl)) (fun _ _ _ _ _ => pts_nil) (fun _ _ _ _ _ => pe_ix ix_list (pv 0) (pv 8) (fun _ _ => rfl))))
      (pss_cons (ps_setLc (i := 3) (own := [("record", 8)]) (g := gName 8) (tt := tTest (tOp (rIn K true) (tVar 8) (tVar 2))) rfl scForm.nd rfl rfl (sw_true rfl rfl rfl (by decide +kernel)) (pi_list (pv 1)) (blkOk_by (own := [("record", 8)]) (N := nForm) (sc := defScope sForm) (by decide +kernel))
          (fun _ _ _ _ _ => pg_name (i := 8) scForm.nd rfl (Or.inl rfl)) (fun _ _ _ _ _ => pts_one (pt_cmpR op_notIn_seq (pv 8) (pv 2) (by rfl))) (fun _ _ _ _ _ => pv 8))
      (pss_cons (ps_set (i := 4) scForm.nd rfl (.inr rfl) (pe_call G1 hr rfl hm1 kp1 b1 .nil pass0 (pa_cons (pv 0) (pa_cons (pe_ifExp (pt_truth (pv 3) (by intro _; rfl)) (pe_ix ix_list (pv 3) pe_int (fun _ _ => rfl)) (pe_ix ix_list (pv 1) pe_int (fun _ _ => rfl))) pa_nil))))
      (pss_cons (ps_set (i := 5) scForm.nd rfl (.inr rfl) (pe_op op_cat (pv 4) (pe_lc (own := [("record", 8)]) (g := gName 8) (tt := tTest (tOp (rIn K true) (tVar 8) (tVar 4))) rfl scForm.nd (pi_list (pv 1)) (blkOk_by (own := [("record", 8)]) (N := nForm) (sc := defScope sForm) (by decide +kernel))
          (fun _ _ _ _ _ => pg_name (i := 8) scForm.nd rfl (Or.inl rfl)) (fun _ _ _ _ _ => pts_one (pt_cmpR op_notIn_seq (pv 8) (pv 4) (by rfl))) (fun _ _ _ _ _ => pv 8))))
      (pss_cons (ps_set (i := 6) scForm.nd rfl (.inl rfl) (pe_callTy call_tuple_of (by rfl) B.tuple (by decide +kernel) (pa_cons (pe_lc (own := [("record", 8)]) (g := gName 8) (tt := tYes) (te := tBM K "list" (rIndex K) (tVar 5) (tCons (tOp (rIxL K) (tVar 0) (tVar 8)) tNil)) rfl scForm.nd (pi_list (pv 5)) (blkOk_by (own := [("record", 8)]) (N := nForm) (sc := defScope sForm) (by decide +kernel))
          (fun _ _ _ _ _ => pg_name (i := 8) scForm.nd rfl (Or.inl rfl)) (fun _ _ _ _ _ => pts_nil) (fun _ _ _ _ _ => pe_bm PySem.F.plainAttrs_list PySem.F.slot_list_index PySem.F.type_list_index mt_index (pv 5) (pa_cons (pe_ix ix_list (pv 0) (pv 8) (fun _ _ => rfl)) pa_nil))) pa_nil)))
      (pss_cons (ps_set (i := 7) scForm.nd rfl (.inl rfl) (pe_wget hu (pe_glob (v := .ref sa) (by rfl) hms rfl) (pv 6) ⟨rfl, rfl, rfl, rfl⟩))
      (pss_cons (ps_if (pt_cmpR op_isN (pv 7) pe_non (nomark _)) pss_never pss_nil)
      (pss_one (ps_ret (pe_tup (pa_cons (pv 7) (pa_cons (pe_callTy call_tuple_of (by rfl) B.tuple (by decide +kernel) (pa_cons (pv 5) pa_nil)) pa_nil)))))))))))), ?_⟩
    -- len(group) > LARGEST
    refine ⟨_, rfl, b, _, rfl, .inl hB, _, _, rfl, rfl, _, rfl, ?_⟩
    rw [show decide ((4 : Int) < (((vL g).length : Nat) : Int)) = false from decide_eq_false (by rw [vL_length]; omega)]
    refine iteF ?_
    -- shown
    refine ⟨_, rfl, b, rfl, ⟨_, hB⟩, fun D1 n1 => lc_list (xs := vL g) (CPv H D1 g (fun _ => true) (fun x => vI (fnm im x))) (cpv_start n1) (fun i H' _ c => c.1.seq hB) ?_ ?_⟩
    · rintro i x H' hx c
      obtain ⟨z, hz, rfl⟩ := vL_of hx
      have at1 : atI (vL im) ((z : Nat) : Int) = some (vI (fnm im z)) := at_vL (get_fnm (hlt z (List.mem_of_getElem? hz)))
      refine ⟨rfl, ?_⟩
      refine ⟨_, rfl, _, rfl, a, _, _, _, rfl, rfl, c.1.seq hA, at1, ?_⟩
      exact cpv_yes n1 (by omega) c hz rfl rfl
    rintro H1 c1
    obtain ⟨s1, e1⟩ := cpv_end (by rw [← vL_length]; exact c1)
    have e1' : H1 D1 = some (.lst (vL (g.map (fnm im)))) := by
      rw [e1]
      unfold vL
      rw [filter_all, List.map_map]
      rfl
    clear c1 e1
    -- unshown
    refine ⟨_, rfl, b, rfl, ⟨_, s1.seq hB⟩, fun D2 n2 => lc_list (xs := vL g) (CPv H1 D2 g (fun r => decide (r ∉ g.map (fnm im))) vI) (cpv_start n2) (fun i H' _ c => c.1.seq (s1.seq hB)) ?_ ?_⟩
    · rintro i x H' hx c
      obtain ⟨z, hz, rfl⟩ := vL_of hx
      refine ⟨rfl, ?_⟩
      refine ⟨_, rfl, _, rfl, D1, _, rfl, .inl (SqL.of (c.1 _ _ e1')), rfl, flat_vL _, _, rfl, ?_⟩
      refine ite2 (fun c2 => ?_) (fun c2 => ?_)
      · refine ⟨_, rfl, cpv_yes n2 (by omega) c hz ?_ rfl⟩
        rw [← c2, if_pos rfl, inV_vL, decide_not]
      · refine cpv_no c hz ?_
        rw [if_pos rfl, inV_vL, ← decide_not] at c2
        simpa only [Bool.not_eq_true] using c2
    rintro H2 c2
    obtain ⟨s2, e2⟩ := cpv_end (by rw [← vL_length]; exact c2)
    have e2' : H2 D2 = some (.lst (vL (unshownOf (fnm im) g))) := e2
    clear c2 e2
    have s12 := s1.trans s2
    -- path
    obtain ⟨st, rest, hst⟩ : ∃ st rest, unshownOf (fnm im) g ++ g = st :: rest := by
      unfold formOf at hf
      cases e : unshownOf (fnm im) g ++ g with
      | nil => rw [e] at hf; cases hf
      | cons x l => exact ⟨x, l, rfl⟩
    have hst_g : st ∈ g := by
      have : st ∈ unshownOf (fnm im) g ++ g := by rw [hst]; exact List.mem_cons_self
      rcases List.mem_append.mp this with h | h
      · exact (List.mem_filter.mp h).1
      · exact h
    have hf2 : shapeOf (fnm im) (walkF (fnm im) 4 [st] st ++ restOf g (walkF (fnm im) 4 [st] st)) = sh ∧ walkF (fnm im) 4 [st] st ++ restOf g (walkF (fnm im) 4 [st] st) = r := by
      unfold formOf at hf
      rw [hst] at hf
      have := Option.some.inj hf
      exact ⟨congrArg Prod.fst this, congrArg Prod.snd this⟩
    refine ⟨_, rfl, _, rfl, !(vL (unshownOf (fnm im) g)).isEmpty, .inl ⟨_, SqL.of e2', rfl⟩, ?_⟩
    have atU : (!(vL (unshownOf (fnm im) g)).isEmpty) = true → atI (vL (unshownOf (fnm im) g)) ((0 : Nat) : Int) = some (vI st) := fun c => by
      cases e : unshownOf (fnm im) g with
      | nil => rw [e] at c; cases c
      | cons x l =>
        rw [e] at hst
        refine at_vL ?_
        have := (List.cons.inj hst).1
        rw [this]
        rfl
    have atG : ¬ (!(vL (unshownOf (fnm im) g)).isEmpty) = true → atI (vL g) ((0 : Nat) : Int) = some (vI st) := fun c => by
      cases e : unshownOf (fnm im) g with
      | nil =>
        rw [e] at hst
        refine at_vL ?_
        have : g = st :: rest := hst
        rw [this]
        rfl
      | cons x l => rw [e] at c; exact absurd rfl c
    obtain ⟨hf3, hf4⟩ := hf2
    have hA2 := s12.seq hA
    have hB2 := s12.seq hB
    have rsub : ∀ x ∈ r, x ∈ g := fun x hx => hperm.mem_iff.mp hx
    have rlen : r.length ≤ 4 := by rw [hperm.length_eq]; exact hg
    refine ite2 (fun c => ⟨_, rfl, D2, _, _, _, rfl, rfl, SqL.of e2', atU c, ?_⟩) (fun c => ⟨_, rfl, b, _, _, _, rfl, rfl, hB2, atG c, ?_⟩)
    all_goals
      refine ⟨a, im, st, g, rfl, hA2, hst_g, hc, hlt, hg, fun H3 p3 s3 n3 e3 => ?_⟩
      have hB3 := s3.seq hB2
      -- records
      refine ⟨_, rfl, _, rfl, b, rfl, ⟨_, hB3⟩, fun D4 n4 => lc_list (xs := vL g) (CPv H3 D4 g (fun r => decide (r ∉ walkF (fnm im) 4 [st] st)) vI) (cpv_start n4) (fun i H' _ c => c.1.seq hB3) ?_ ?_⟩
      · rintro i x H' hx c
        obtain ⟨z, hz, rfl⟩ := vL_of hx
        refine ⟨rfl, ?_⟩
        refine ⟨_, rfl, _, rfl, p3, _, rfl, .inl (SqL.of (c.1 _ _ e3)), rfl, flat_vL _, _, rfl, ?_⟩
        refine ite2 (fun c2 => ?_) (fun c2 => ?_)
        · refine ⟨_, rfl, cpv_yes n4 (by omega) c hz ?_ rfl⟩
          rw [← c2, if_pos rfl, inV_vL, decide_not]
        · refine cpv_no c hz ?_
          rw [if_pos rfl, inV_vL, ← decide_not] at c2
          simpa only [Bool.not_eq_true] using c2
      rintro H4 c4
      obtain ⟨s4, e4⟩ := cpv_end (by rw [← vL_length]; exact c4)
      have e4' : H4 D4 = some (.lst (vL (restOf g (walkF (fnm im) 4 [st] st)))) := e4
      clear c4 e4
      have e5 : vL (walkF (fnm im) 4 [st] st) ++ vL (restOf g (walkF (fnm im) 4 [st] st)) = vL r := by
        rw [← hf4]
        unfold vL
        rw [List.map_append]
      refine ⟨p3, D4, _, _, rfl, rfl, s4 _ _ e3, e4', ?_, fun p5 n5 => ?_⟩
      · have : (vL r).length ≤ 4 := by rw [vL_length]; exact rlen
        rw [← e5, List.length_append] at this
        exact Nat.le_trans this (by decide)
      rw [e5]
      have s5 : Same H2 (upd H4 p5 (.lst (vL r))) := (s3.trans s4).put ((s3.trans s4).free n5)
      have hA5 := s5.seq hA2
      have e6 : (upd H4 p5 (.lst (vL r))) p5 = some (.lst (vL r)) := upd_same
      generalize upd H4 p5 (.lst (vL r)) = H5 at s5 hA5 e6
      -- shape
      refine ⟨_, rfl, p5, rfl, ⟨_, SqL.of e6⟩, fun D6 n6 => lc_list (xs := vL r) (CPv H5 D6 r (fun _ => true) (fun x => vI (r.idxOf (fnm im x)))) (cpv_start n6) (fun i H' _ c => SqL.of (c.1 _ _ e6)) ?_ ?_⟩
      · rintro i x H' hx c
        obtain ⟨z, hz, rfl⟩ := vL_of hx
        have hzr : z ∈ r := List.mem_of_getElem? hz
        have at1 : atI (vL im) ((z : Nat) : Int) = some (vI (fnm im z)) := at_vL (get_fnm (hlt z (rsub z hzr)))
        have hmem : fnm im z ∈ r := hperm.mem_iff.mpr (hc z (rsub z hzr))
        have hidx : r.idxOf (fnm im z) < r.length := List.idxOf_lt_length_of_mem hmem
        refine ⟨rfl, ?_⟩
        refine ⟨_, rfl, .inl ⟨rfl, _, SqL.of (c.1 _ _ e6)⟩, _, rfl, _, rfl, a, _, _, _, rfl, rfl, c.1.seq hA5, at1, p5, _, _, r.idxOf (fnm im z), _, rfl, rfl, SqL.of (c.1 _ _ e6), rfl, flat_vL _, vL_get (List.getElem?_eq_getElem hidx), ?_, ?_, ?_⟩
        · rw [List.getElem_idxOf hidx]
          show ((_ : Int) == _) = true
          exact beq_self_eq_true _
        · intro m z' hm hz'
          obtain ⟨y, hy, rfl⟩ := vL_of hz'
          show (((y : Nat) : Int) == ((fnm im z : Nat) : Int)) = false
          rw [beq_eq_false_iff_ne]
          intro e
          exact idxOf_min hm hy (by omega)
        · exact cpv_yes n6 (by omega) c hz rfl rfl
      rintro H6 c6
      obtain ⟨s6, e7⟩ := cpv_end (by rw [← vL_length]; exact c6)
      have e7' : H6 D6 = some (.lst (vL sh)) := by
        rw [e7, ← hf3, hf4]
        unfold vL shapeOf
        rw [filter_all, List.map_map]
        rfl
      clear c6 e7
      refine ⟨D6, _, rfl, .inl ⟨SqL.of e7', fun p7 n7 => ?_⟩⟩
      have s7 : Same H5 (upd H6 p7 (.tup (vL sh))) := s6.put (s6.free n7)
      have e8 : (upd H6 p7 (.tup (vL sh))) p7 = some (.tup (vL sh)) := upd_same
      generalize upd H6 p7 (.tup (vL sh)) = H7 at s7 e8
      -- word
      have ek : vL sh = (sh.map fun n => (Sum.inl ((n : Nat) : Int) : Key)).map kV := by
        unfold vL
        rw [List.map_map]
        rfl
      obtain ⟨t, ht⟩ := hsh sh w8 hw
      refine ⟨sa, xs, rfl, kt, _, rfl, p7, sh.map fun n => (Sum.inl ((n : Nat) : Int) : Key), .str (w8s w8), rfl, by rw [← ek]; exact e8, fun u hu2 => ?_, ?_⟩
      · rw [hu2, ht]
        exact ⟨t, rfl⟩
      refine ⟨_, rfl, rfl, _, rfl, ?_⟩
      rw [show decide (V.str (w8s w8) = V.non) = false from decide_eq_false (by intro z; cases z)]
      refine iteF ?_
      -- return (word, tuple(records))
      have e9 := s7 _ _ e6
      refine ⟨_, rfl, _, rfl, p5, _, rfl, .inl ⟨SqL.of e9, fun q8 n8 => ⟨(by show 2 ≤ sizeLine; decide), fun p9 n9 => ?_⟩⟩⟩
      have s8 : Same H (upd H7 q8 (.tup (vL r))) := ((s12.trans s5).trans s7).put (((s12.trans s5).trans s7).free n8)
      refine k _ p9 q8 (s8.put (s8.free n9)) (s8.free n9) upd_same ?_
      rw [upd_ne, upd_same]
      intro e
      rw [e, upd_same] at n9
      cases n9
end
end KW
end

section
set_option Elab.async false
set_option linter.all false
set_option maxRecDepth 100000
set_option maxHeartbeats 4000000
namespace KW
open PySem PySem.Spec PyProof.Rows L2 KR KM
abbrev sFirst : Stmt := top 16
abbrev sPieces : Stmt := top 17
abbrev sIsRep : Stmt := top 18
abbrev sTornP : Stmt := top 19
theorem scFirst : FnScope ["image", "group"] ["image"] (defScope sFirst) := ⟨rfl, rfl, rfl, by decide +kernel, rfl, by decide +kernel, by decide +kernel⟩
theorem scPieces : FnScope ["image", "found", "group", "piece"] ["image"] (defScope sPieces) := ⟨rfl, rfl, rfl, by decide +kernel, rfl, by decide +kernel, by decide +kernel⟩
theorem scIsRep : FnScope ["image"] ["image"] (defScope sIsRep) := ⟨rfl, rfl, rfl, by decide +kernel, rfl, by decide +kernel, by decide +kernel⟩
theorem scTornP : FnScope ["image", "piece"] ["image"] (defScope sTornP) := ⟨rfl, rfl, rfl, by decide +kernel, rfl, by decide +kernel, by decide +kernel⟩
/-- an image whose groups are pieces -/
structure GoodIm (im : List Nat) : Prop where
  img : Img im
  len : im.length ≤ 64
  form : ∀ gs, GroupsOf im.length (fnm im) gs → ∀ g ∈ gs, g.length ≤ 4 ∧ ∃ sh r w8, formOf (fnm im) g = some (sh, r) ∧ wordOf sh = some w8 ∧ r.Perm g
def spFirst (K : PySem.W.Frag) : Sp := fun vs H Q _ => ∃ (a : Addr) (im : List Nat), vs = [.ref a] ∧ SqL K H a (vL im) ∧ GoodIm im ∧ ∀ H', Same H H' → Q .non H'
def spIsRep (K : PySem.W.Frag) : Sp := fun vs H Q _ => ∃ (a : Addr) (im : List Nat), vs = [.ref a] ∧ SqL K H a (vL im) ∧ GoodIm im ∧ ∀ H', Same H H' → Q (.bl true) H'
/-- the pieces of these groups -/
def PL (im : List Nat) (H : Hp) (bs : List Addr) (gs : List (List Nat)) : Prop := ∀ (j : Nat) (b : Addr), bs[j]? = some b → ∃ g sh r w8 q, gs[j]? = some g ∧ formOf (fnm im) g = some (sh, r) ∧ wordOf sh = some w8 ∧ r.Perm g ∧ g.length ≤ 4 ∧
  H b = some (.tup [.str (w8s w8), .ref q]) ∧ H q = some (.tup (vL r))
theorem PL.but {im : List Nat} {H H' : Hp} {bs : List Addr} {gs : List (List Nat)} {p : Addr} {xs : List V} (h : PL im H bs gs) (hp : H p = some (.lst xs)) (s : SameBut p H H') : PL im H' bs gs := fun j b e => by
  obtain ⟨g, sh, r, w8, q, h1, h2, h3, h4, h5, h6, h7⟩ := h j b e
  exact ⟨g, sh, r, w8, q, h1, h2, h3, h4, h5, s _ _ (ne_of h6 hp (by intro z; cases z)) h6, s _ _ (ne_of h7 hp (by intro z; cases z)) h7⟩
theorem PL.same {im : List Nat} {H H' : Hp} {bs : List Addr} {gs : List (List Nat)} (h : PL im H bs gs) (s : Same H H') : PL im H' bs gs := fun j b e => by
  obtain ⟨g, sh, r, w8, q, h1, h2, h3, h4, h5, h6, h7⟩ := h j b e
  exact ⟨g, sh, r, w8, q, h1, h2, h3, h4, h5, s _ _ h6, s _ _ h7⟩
def spPieces (K : PySem.W.Frag) : Sp := fun vs H Q _ => ∃ (a : Addr) (im : List Nat), vs = [.ref a] ∧ SqL K H a (vL im) ∧ GoodIm im ∧
  ∀ (gs : List (List Nat)) (bs : List Addr) (p : Addr) (H' : Hp), GroupsOf im.length (fnm im) gs → Same H H' → H p = none → H' p = some (.lst (bs.map V.ref)) → bs.length = gs.length → gs.length ≤ 64 → PL im H' bs gs → Q (.ref p) H'
def spTornP (K : PySem.W.Frag) : Sp := fun vs H Q _ => ∃ (a : Addr) (im : List Nat), vs = [.ref a] ∧ SqL K H a (vL im) ∧ GoodIm im ∧
  ∀ (gs : List (List Nat)) (acc : List V) (p : Addr) (H' : Hp), GroupsOf im.length (fnm im) gs → Same H H' → H' p = some (.lst acc) → acc.length = (gs.filter (tornG (fnm im))).length → Q (.ref p) H'
/-- a tuple of the written part -/
def KTup (K : PySem.W.Frag) (a : Addr) (xs : List V) : Prop := ∃ (o : Obj) (its : Array Value) (n : Nat), K.lookup a = some o ∧ o.cls = .type "tuple" ∧ o.data = .seq its n ∧ its.size ≤ sizeLine ∧ Vals xs its.toList
theorem KTup.sq {K : PySem.W.Frag} {a : Addr} {xs : List V} (h : KTup K a xs) {H : Hp} : SqT K H a xs := .inr h
theorem whole_in (w8 : W8) : inV (.str (w8s w8)) [.str ("free" : Str), .str ("pair" : Str)] = !w8.torn := by
  cases w8 <;> decide +kernel
section
variable {P : Program} {w : World} {K : PySem.W.Frag} {mg : Str → Option Value} {base : Heap}
theorem ok_first {f : Addr} {fd : FuncData} (F : Fun K "first_bad" "first_bad" sFirst f fd) (C1 : Cal P w K mg base 2 "groups" ["image"] (spGroups K)) (C2 : Cal P w K mg base 2 "form_of" ["image", "group"] (spForm K)) :
    FnOk P w K mg base CX0 3 f fd ["image"] (spFirst K) := by
  obtain ⟨f1, fd1, G1, hm1, kp1, b1⟩ := C1
  obtain ⟨f2, fd2, G2, hm2, kp2, b2⟩ := C2
  refine F.ok scFirst (fun vs H Q E h => ?_) (fun cdv A outer s H vs Q E hr h => ?_)
  · obtain ⟨a, im, rfl, _⟩ := h
    rfl
  · obtain ⟨a, im, rfl, hS, hG, k⟩ := h
    refine ⟨_, pss_cons (ps_for PassesOwn.never rfl (pi_list (pe_call G1 hr rfl hm1 kp1 b1 .nil pass0 (pa_cons (pv 0) pa_nil))) (pg_name (i := 1) scFirst.nd rfl (.inl rfl))
        (pss_one (ps_if (pt_cmpR op_isN (pe_call G2 hr rfl hm2 kp2 b2 .nil pass0 (pa_cons (pv 0) (pa_cons (pv 1) pa_nil))) pe_non (nomark _)) pss_never pss_nil)))
      (pss_one (ps_ret pe_non)), ?_⟩
    refine ⟨_, rfl, a, im, rfl, hS, hG.img, hG.len, fun gs as p H1 GO s1 np hp ll hl => ?_⟩
    refine ⟨p, rfl, ⟨_, SqL.of hp⟩, for_list (xs := as.map V.ref) (fun i σ H' => ∃ v1, σ = [some (.ref a), v1] ∧ Same H1 H') ⟨none, rfl, Same.refl _⟩ (fun i σ H' _ ⟨_, _, s2⟩ => SqL.of (s2 _ _ hp)) ?_ ?_⟩
    · rintro i x σ H' hx ⟨v1, rfl, s2⟩
      obtain ⟨b, hb, rfl⟩ := refs_get hx
      obtain ⟨g, hg, hbg⟩ := ll.2 i b hb
      have hgm := List.mem_of_getElem? hg
      obtain ⟨h4, sh, r, w8, f1, f2, f3⟩ := hG.form gs GO g hgm
      refine ⟨_, rfl, _, rfl, a, b, im, g, sh, r, w8, rfl, (s1.trans s2).seq hS, SqL.of (s2 _ _ hbg), fun x hx => GO.lt hgm hx, fun x hx => GO.close g hgm x hx, h4, f1, f2, f3, fun H2 p2 q2 s3 n3 e1 e2 => ?_⟩
      refine ⟨rfl, _, rfl, ?_⟩
      rw [show decide (V.ref p2 = V.non) = false from decide_eq_false (by intro z; cases z)]
      exact iteF ⟨_, rfl, s2.trans s3⟩
    · rintro σ H' ⟨v1, rfl, s2⟩
      exact k H' (s1.trans s2)
theorem ok_isrep {f : Addr} {fd : FuncData} (F : Fun K "is_repairable" "is_repairable" sIsRep f fd) (C1 : Cal P w K mg base 3 "first_bad" ["image"] (spFirst K)) :
    FnOk P w K mg base CX0 4 f fd ["image"] (spIsRep K) := by
  obtain ⟨f1, fd1, G1, hm1, kp1, b1⟩ := C1
  refine F.ok scIsRep (fun vs H Q E h => ?_) (fun cdv A outer s H vs Q E hr h => ?_)
  · obtain ⟨a, im, rfl, _⟩ := h
    rfl
  · obtain ⟨a, im, rfl, hS, hG, k⟩ := h
    refine ⟨_, pss_one (ps_ret (pe_cmpR op_isN (pe_call G1 hr rfl hm1 kp1 b1 .nil pass0 (pa_cons (pv 0) pa_nil)) pe_non (nomark _))), ?_⟩
    exact ⟨_, rfl, a, im, rfl, hS, hG, fun H1 s1 => ⟨rfl, k H1 s1⟩⟩
theorem ok_pieces {f : Addr} {fd : FuncData} (F : Fun K "pieces" "pieces" sPieces f fd) (C1 : Cal P w K mg base 2 "groups" ["image"] (spGroups K)) (C2 : Cal P w K mg base 2 "form_of" ["image", "group"] (spForm K)) :
    FnOk P w K mg base CX0 3 f fd ["image"] (spPieces K) := by
  obtain ⟨f1, fd1, G1, hm1, kp1, b1⟩ := C1
  obtain ⟨f2, fd2, G2, hm2, kp2, b2⟩ := C2
  refine F.ok scPieces (fun vs H Q E h => ?_) (fun cdv A outer s H vs Q E hr h => ?_)
  · obtain ⟨a, im, rfl, _⟩ := h
    rfl
  · obtain ⟨a, im, rfl, hS, hG, k⟩ := h
    refine ⟨_, pss_cons (ps_set (i := 1) scPieces.nd rfl (.inl rfl) (pe_lst pa_nil))
      (pss_cons (ps_for PassesOwn.never rfl (pi_list (pe_call G1 hr rfl hm1 kp1 b1 .nil pass0 (pa_cons (pv 0) pa_nil))) (pg_name (i := 2) scPieces.nd rfl (.inl rfl))
        (pss_cons (ps_set (i := 3) scPieces.nd rfl (.inl rfl) (pe_call G2 hr rfl hm2 kp2 b2 .nil pass0 (pa_cons (pv 0) (pa_cons (pv 2) pa_nil))))
        (pss_cons (ps_if (pt_cmpR op_isN (pv 3) pe_non (nomark _)) pss_never pss_nil)
        (pss_one (ps_expr (pe_bm PySem.F.plainAttrs_list PySem.F.slot_list_append PySem.F.type_list_append mt_append (pv 1) (pa_cons (pv 3) pa_nil)))))))
      (pss_one (ps_ret (pv 1)))), ?_⟩
    refine ⟨(by show 0 ≤ sizeLine; decide), fun fl nfl => ?_⟩
    have s0 : Same H (upd H fl (.lst [])) := same_upd nfl
    refine ⟨_, rfl, a, im, rfl, s0.seq hS, hG.img, hG.len, fun gs as p H1 GO s1 np hp ll hl => ?_⟩
    have hfl : H1 fl = some (.lst []) := s1 _ _ upd_same
    have npf : fl ≠ p := ne_of_none (upd_same (H := H) (o := .lst [])) np
    have hgl : gs.length ≤ 64 := by rw [← ll.1]; exact hl
    refine ⟨p, rfl, ⟨_, SqL.of hp⟩, for_list (xs := as.map V.ref) (fun i σ H' => ∃ (bs : List Addr) (v2 v3 : Option V), σ = [some (.ref a), some (.ref fl), v2, v3] ∧ SameBut fl H1 H' ∧ H' fl = some (.lst (bs.map V.ref)) ∧ bs.length = i ∧ PL im H' bs gs)
      ⟨[], none, none, rfl, (Same.refl _).but, hfl, rfl, fun j b e => by simp at e⟩ (fun i σ H' _ ⟨_, _, _, _, s2, _⟩ => SqL.of (s2 _ _ npf.symm hp)) ?_ ?_⟩
    · rintro i x σ H' hx ⟨bs, v2, v3, rfl, s2, hfl2, hbl, pl⟩
      obtain ⟨b, hb, rfl⟩ := refs_get hx
      obtain ⟨g, hg, hbg⟩ := ll.2 i b hb
      have hgm := List.mem_of_getElem? hg
      obtain ⟨h4, sh, r, w8, f1, f2, f3⟩ := hG.form gs GO g hgm
      have hi : i < as.length := (List.getElem?_eq_some_iff.mp hb).1
      have nbf : b ≠ fl := ne_of hbg hfl (by
        intro z
        have z2 : vL g = [] := by injection z
        exact GO.ne g hgm (List.map_eq_nil_iff.mp z2))
      have hS2 : SqL K H' a (vL im) := (((s0.trans s1).but.trans s2).same nfl).seq hS
      refine ⟨_, rfl, _, rfl, a, b, im, g, sh, r, w8, rfl, hS2, SqL.of (s2 _ _ nbf hbg), fun x hx => GO.lt hgm hx, fun x hx => GO.close g hgm x hx, h4, f1, f2, f3, fun H2 p2 q2 s3 n3 e1 e2 => ?_⟩
      refine ⟨_, rfl, rfl, _, rfl, ?_⟩
      rw [show decide (V.ref p2 = V.non) = false from decide_eq_false (by intro z; cases z)]
      refine iteF ?_
      have hfl3 := s3 _ _ hfl2
      refine ⟨_, rfl, .inl ⟨rfl, _, SqL.of hfl3⟩, _, rfl, fl, _, _, rfl, rfl, hfl3, ?_, ?_⟩
      · rw [List.length_map]
        exact small1000 (by omega)
      · have sb : SameBut fl H2 (upd H2 fl (.lst (bs.map V.ref ++ [V.ref p2]))) := SameBut.upd (Same.refl _).but
        refine ⟨bs ++ [p2], _, _, rfl, (s2.trans s3.but).upd, ?_, by rw [List.length_append, hbl]; rfl, fun j b' e => ?_⟩
        · rw [upd_same, List.map_append]
          rfl
        · by_cases hj : j < bs.length
          · rw [List.getElem?_append_left hj] at e
            exact (pl.same s3).but hfl3 sb j b' e
          · rw [List.getElem?_append_right (by omega)] at e
            cases hz : j - bs.length with
            | zero =>
              rw [hz] at e
              cases e
              have : j = i := by omega
              subst this
              exact ⟨g, sh, r, w8, q2, hg, f1, f2, f3, h4, sb _ _ (ne_of e1 hfl3 (by intro z; cases z)) e1, sb _ _ (ne_of e2 hfl3 (by intro z; cases z)) e2⟩
            | succ m =>
              rw [hz] at e
              simp at e
    · rintro σ H' ⟨bs, v2, v3, rfl, s2, hfl2, hbl, pl⟩
      rw [List.length_map] at hbl
      exact ⟨_, rfl, k gs bs fl H' GO (((s0.trans s1).but.trans s2).same nfl) nfl hfl2 (by rw [hbl, ll.1]) hgl pl⟩
theorem ok_tornp {f : Addr} {fd : FuncData} (F : Fun K "torn_pieces" "torn_pieces" sTornP f fd) (C1 : Cal P w K mg base 3 "pieces" ["image"] (spPieces K)) {wa : Addr} (hw : mg "WHOLE_WORDS" = some (.ref wa)) (hk : KTup K wa [.str ("free" : Str), .str ("pair" : Str)]) :
    FnOk P w K mg base CX0 4 f fd ["image"] (spTornP K) := by
  obtain ⟨f1, fd1, G1, hm1, kp1, b1⟩ := C1
  refine F.ok scTornP (fun vs H Q E h => ?_) (fun cdv A outer s H vs Q E hr h => ?_)
  · obtain ⟨a, im, rfl, _⟩ := h
    rfl
  · obtain ⟨a, im, rfl, hS, hG, k⟩ := h
    refine ⟨_, pss_one (ps_ret (pe_lc (own := [("piece", 1)]) (g := gName 1) (tt := tTest (tOp (rIn K true) (tOp (rIxT K) (tVar 1) (tC (.int 0))) (tC (.ref wa)))) rfl scTornP.nd (pi_list (pe_call G1 hr rfl hm1 kp1 b1 .nil pass0 (pa_cons (pv 0) pa_nil))) (blkOk_by (own := [("piece", 1)]) (N := ["image", "piece"]) (sc := defScope sTornP) (by decide +kernel))
          (fun _ _ _ _ _ => pg_name (i := 1) scTornP.nd rfl (Or.inl rfl)) (fun _ _ _ _ _ => pts_one (pt_cmpR op_notIn_seq (pe_ix ix_tup (pv 1) pe_int (fun _ _ => rfl)) (pe_glob (v := .ref wa) (by rfl) hw rfl) (by rfl))) (fun _ _ _ _ _ => pv 1))), ?_⟩
    refine ⟨_, rfl, a, im, rfl, hS, hG, fun gs bs p H1 GO s1 np hp hl hl2 pl => ?_⟩
    refine ⟨p, rfl, ⟨_, SqL.of hp⟩, fun D nD => lc_list (xs := bs.map V.ref) (fun i H' => Same H1 H' ∧ ∃ acc : List V, H' D = some (.lst acc) ∧ acc.length = ((gs.take i).filter (tornG (fnm im))).length)
      ⟨same_upd nD, [], upd_same, rfl⟩ (fun i H' _ c => SqL.of (c.1 _ _ hp)) ?_ ?_⟩
    · rintro i x H' hx ⟨s2, acc, hD, hacc⟩
      obtain ⟨b, hb, rfl⟩ := refs_get hx
      obtain ⟨g, sh, r, w8, q, h1, h2, h3, h4, h5, h6, h7⟩ := pl i b hb
      have ht : tornG (fnm im) g = w8.torn := by
        unfold tornG wordG
        rw [h2]
        show ((wordOf sh).map W8.torn).getD false = _
        rw [h3]
        rfl
      have hle : acc.length ≤ 64 := by
        rw [hacc]
        have h1 := List.length_filter_le (tornG (fnm im)) (gs.take i)
        have h2 : (gs.take i).length ≤ gs.length := by rw [List.length_take]; exact Nat.min_le_right _ _
        omega
      refine ⟨rfl, ?_⟩
      refine ⟨_, rfl, b, _, _, _, rfl, rfl, SqT.of (s2 _ _ h6), at_of (j := 0) rfl rfl, wa, _, rfl, .inr hk.sq, rfl, rfl, _, rfl, ?_⟩
      refine ite2 (fun c2 => ?_) (fun c2 => ?_)
      · have c3 : w8.torn = true := by rw [if_pos rfl, whole_in, Bool.not_not] at c2; exact c2
        refine ⟨_, rfl, acc, hD, small1000 (by omega), s2.put nD, _, upd_same, ?_⟩
        rw [List.length_append, hacc, List.take_add_one, h1, List.filter_append, List.length_append]
        simp [ht, c3]
      · have c3 : w8.torn = false := by rw [if_pos rfl, whole_in, Bool.not_not] at c2; simpa using c2
        refine ⟨s2, acc, hD, ?_⟩
        rw [hacc, List.take_add_one, h1, List.filter_append, List.length_append]
        simp [ht, c3]
    · rintro H' ⟨s2, acc, hD, hacc⟩
      rw [List.length_map, hl, List.take_length] at hacc
      exact k gs acc D H' GO (s1.trans s2) hD hacc
end
end KW
end

section
set_option Elab.async false
set_option linter.all false
set_option maxRecDepth 100000
set_option maxHeartbeats 4000000
namespace KW
open PySem PySem.Spec PyProof.Rows L2 KR KM
abbrev cRules : Stmt := top 22
abbrev sInit : Stmt := inClass cRules 2
abbrev sSetHook : Stmt := inClass cRules 4
abbrev sSetRelay : Stmt := inClass cRules 6
abbrev sSetClamp : Stmt := inClass cRules 8
abbrev sSetTrail : Stmt := inClass cRules 10
abbrev sSetWheel : Stmt := inClass cRules 12
abbrev sChoice : Stmt := inClass cRules 14
def isTwo : W8 → Bool
  | .free => false
  | .pair => false
  | .claim => false
  | _ => true
def c1 : W8 → Str
  | .hook => "back"
  | .relay => "near"
  | .clamp => "inner"
  | .trail => "near"
  | .wheel => "even"
  | _ => ""
def c2 : W8 → Str
  | .hook => "forward"
  | .relay => "far"
  | .clamp => "outer"
  | .trail => "far"
  | .wheel => "odd"
  | _ => ""
def InCh (w8 : W8) (z : Str) : Prop := z = c1 w8 ∨ z = c2 w8
/-- the table of the choices, as the walk reads it -/
structure Chs (K : PySem.W.Frag) (w : World) (mg : Str → Option Value) : Prop where
  ex : ∃ ch : Addr, mg "CHOICES" = some (.ref ch) ∧ ∀ w8, isTwo w8 = true → ∃ t : Addr, KDct K w ch (w8s w8) (.ref t) ∧ KTup K t [.str (c1 w8), .str (c2 w8)]
theorem InCh.inV {w8 : W8} {z : Str} (h : InCh w8 z) : inV (.str z) [.str (c1 w8), .str (c2 w8)] = true := by
  unfold L2.inV
  rcases h with rfl | rfl
  · show ((_ == _) || _) = true
    rw [beq_self_eq_true]
    rfl
  · show ((_ == _) || ((_ == _) || _)) = true
    rw [beq_self_eq_true, Bool.true_or, Bool.or_true]
def rfs (a b c d e : Str) : List (Str × V) := putF "_wheel" (.str e) (putF "_trail" (.str d) (putF "_clamp" (.str c) (putF "_relay" (.str b) (putF "_hook" (.str a) []))))
/-- rules at p -/
def RulesAt (C : Addr) (H : Hp) (p : Addr) : Prop := ∃ (dx : Addr) (a b c d e : Str), H p = some (.ins C dx (rfs a b c d e))
theorem RulesAt.same {C : Addr} {H H' : Hp} {p : Addr} (h : RulesAt C H p) (s : Same H H') : RulesAt C H' p := let ⟨dx, a, b, c, d, e, h⟩ := h; ⟨dx, a, b, c, d, e, s _ _ h⟩
/-- what the walk asks of the class -/
structure RTxt (K : PySem.W.Frag) (C : Addr) : Prop where
  cl : Cls K C
  nh : NoAttr K C "_hook"
  nr : NoAttr K C "_relay"
  nc : NoAttr K C "_clamp"
  nt : NoAttr K C "_trail"
  nw : NoAttr K C "_wheel"
def spSet (C : Addr) (w8 : W8) (f : Str) : Sp := fun vs H Q _ => ∃ (p dx : Addr) (fs : List (Str × V)) (z : Str), vs = [.ref p, .str z] ∧ H p = some (.ins C dx fs) ∧ fs.length < 1000 ∧ InCh w8 z ∧ Q .non (upd H p (.ins C dx (putF f (.str z) fs)))
section
variable {P : Program} {w : World} {K : PySem.W.Frag} {mg : Str → Option Value} {base : Heap}
theorem scSetHook : FnScope ["self", "value"] ["self", "value"] (defScope sSetHook) := ⟨rfl, rfl, rfl, by decide +kernel, rfl, by decide +kernel, by decide +kernel⟩
theorem ok_SetHook {f C : Addr} {fd : FuncData} (F : Fun K "hook" "Rules.hook" sSetHook f fd) (T : RTxt K C) (S : Chs K w mg) : FnOk P w K mg base CX0 1 f fd ["self", "value"] (spSet C .hook "_hook") := by
  obtain ⟨ch, hch, hS⟩ := S.ex
  obtain ⟨t, hd, ht⟩ := hS .hook rfl
  refine F.ok scSetHook (fun vs H Q E h => ?_) (fun cdv A outer s H vs Q E hr h => ?_)
  · obtain ⟨p, dx, fs, z, rfl, _⟩ := h
    rfl
  · obtain ⟨p, dx, fs, z, rfl, hp, hl, hz, k⟩ := h
    refine ⟨_, pss_cons (ps_if (pt_cmpR op_notIn_seq (pv 1) (pe_ix ix_kdict (pe_glob (v := .ref ch) (by rfl) hch rfl) pe_str (fun _ _ => rfl)) (by rfl)) pss_never pss_nil)
      (pss_one (ps_fld (pv 0) (pv 1) rfl)), ?_⟩
    refine ⟨_, rfl, ch, _, _, rfl, rfl, hd, t, _, rfl, .inr ht.sq, rfl, rfl, _, rfl, ?_⟩
    rw [if_pos rfl, hz.inV]
    refine iteF ?_
    exact ⟨_, rfl, _, rfl, p, C, dx, fs, rfl, hp, T.cl, T.nh, hl, k⟩
theorem scSetRelay : FnScope ["self", "value"] ["self", "value"] (defScope sSetRelay) := ⟨rfl, rfl, rfl, by decide +kernel, rfl, by decide +kernel, by decide +kernel⟩
theorem ok_SetRelay {f C : Addr} {fd : FuncData} (F : Fun K "relay" "Rules.relay" sSetRelay f fd) (T : RTxt K C) (S : Chs K w mg) : FnOk P w K mg base CX0 1 f fd ["self", "value"] (spSet C .relay "_relay") := by
  obtain ⟨ch, hch, hS⟩ := S.ex
  obtain ⟨t, hd, ht⟩ := hS .relay rfl
  refine F.ok scSetRelay (fun vs H Q E h => ?_) (fun cdv A outer s H vs Q E hr h => ?_)
  · obtain ⟨p, dx, fs, z, rfl, _⟩ := h
    rfl
  · obtain ⟨p, dx, fs, z, rfl, hp, hl, hz, k⟩ := h
    refine ⟨_, pss_cons (ps_if (pt_cmpR op_notIn_seq (pv 1) (pe_ix ix_kdict (pe_glob (v := .ref ch) (by rfl) hch rfl) pe_str (fun _ _ => rfl)) (by rfl)) pss_never pss_nil)
      (pss_one (ps_fld (pv 0) (pv 1) rfl)), ?_⟩
    refine ⟨_, rfl, ch, _, _, rfl, rfl, hd, t, _, rfl, .inr ht.sq, rfl, rfl, _, rfl, ?_⟩
    rw [if_pos rfl, hz.inV]
    refine iteF ?_
    exact ⟨_, rfl, _, rfl, p, C, dx, fs, rfl, hp, T.cl, T.nr, hl, k⟩
theorem scSetClamp : FnScope ["self", "value"] ["self", "value"] (defScope sSetClamp) := ⟨rfl, rfl, rfl, by decide +kernel, rfl, by decide +kernel, by decide +kernel⟩
theorem ok_SetClamp {f C : Addr} {fd : FuncData} (F : Fun K "clamp" "Rules.clamp" sSetClamp f fd) (T : RTxt K C) (S : Chs K w mg) : FnOk P w K mg base CX0 1 f fd ["self", "value"] (spSet C .clamp "_clamp") := by
  obtain ⟨ch, hch, hS⟩ := S.ex
  obtain ⟨t, hd, ht⟩ := hS .clamp rfl
  refine F.ok scSetClamp (fun vs H Q E h => ?_) (fun cdv A outer s H vs Q E hr h => ?_)
  · obtain ⟨p, dx, fs, z, rfl, _⟩ := h
    rfl
  · obtain ⟨p, dx, fs, z, rfl, hp, hl, hz, k⟩ := h
    refine ⟨_, pss_cons (ps_if (pt_cmpR op_notIn_seq (pv 1) (pe_ix ix_kdict (pe_glob (v := .ref ch) (by rfl) hch rfl) pe_str (fun _ _ => rfl)) (by rfl)) pss_never pss_nil)
      (pss_one (ps_fld (pv 0) (pv 1) rfl)), ?_⟩
    refine ⟨_, rfl, ch, _, _, rfl, rfl, hd, t, _, rfl, .inr ht.sq, rfl, rfl, _, rfl, ?_⟩
    rw [if_pos rfl, hz.inV]
    refine iteF ?_
    exact ⟨_, rfl, _, rfl, p, C, dx, fs, rfl, hp, T.cl, T.nc, hl, k⟩
theorem scSetTrail : FnScope ["self", "value"] ["self", "value"] (defScope sSetTrail) := ⟨rfl, rfl, rfl, by decide +kernel, rfl, by decide +kernel, by decide +kernel⟩
theorem ok_SetTrail {f C : Addr} {fd : FuncData} (F : Fun K "trail" "Rules.trail" sSetTrail f fd) (T : RTxt K C) (S : Chs K w mg) : FnOk P w K mg base CX0 1 f fd ["self", "value"] (spSet C .trail "_trail") := by
  obtain ⟨ch, hch, hS⟩ := S.ex
  obtain ⟨t, hd, ht⟩ := hS .trail rfl
  refine F.ok scSetTrail (fun vs H Q E h => ?_) (fun cdv A outer s H vs Q E hr h => ?_)
  · obtain ⟨p, dx, fs, z, rfl, _⟩ := h
    rfl
  · obtain ⟨p, dx, fs, z, rfl, hp, hl, hz, k⟩ := h
    refine ⟨_, pss_cons (ps_if (pt_cmpR op_notIn_seq (pv 1) (pe_ix ix_kdict (pe_glob (v := .ref ch) (by rfl) hch rfl) pe_str (fun _ _ => rfl)) (by rfl)) pss_never pss_nil)
      (pss_one (ps_fld (pv 0) (pv 1) rfl)), ?_⟩
    refine ⟨_, rfl, ch, _, _, rfl, rfl, hd, t, _, rfl, .inr ht.sq, rfl, rfl, _, rfl, ?_⟩
    rw [if_pos rfl, hz.inV]
    refine iteF ?_
    exact ⟨_, rfl, _, rfl, p, C, dx, fs, rfl, hp, T.cl, T.nt, hl, k⟩
theorem scSetWheel : FnScope ["self", "value"] ["self", "value"] (defScope sSetWheel) := ⟨rfl, rfl, rfl, by decide +kernel, rfl, by decide +kernel, by decide +kernel⟩
theorem ok_SetWheel {f C : Addr} {fd : FuncData} (F : Fun K "wheel" "Rules.wheel" sSetWheel f fd) (T : RTxt K C) (S : Chs K w mg) : FnOk P w K mg base CX0 1 f fd ["self", "value"] (spSet C .wheel "_wheel") := by
  obtain ⟨ch, hch, hS⟩ := S.ex
  obtain ⟨t, hd, ht⟩ := hS .wheel rfl
  refine F.ok scSetWheel (fun vs H Q E h => ?_) (fun cdv A outer s H vs Q E hr h => ?_)
  · obtain ⟨p, dx, fs, z, rfl, _⟩ := h
    rfl
  · obtain ⟨p, dx, fs, z, rfl, hp, hl, hz, k⟩ := h
    refine ⟨_, pss_cons (ps_if (pt_cmpR op_notIn_seq (pv 1) (pe_ix ix_kdict (pe_glob (v := .ref ch) (by rfl) hch rfl) pe_str (fun _ _ => rfl)) (by rfl)) pss_never pss_nil)
      (pss_one (ps_fld (pv 0) (pv 1) rfl)), ?_⟩
    refine ⟨_, rfl, ch, _, _, rfl, rfl, hd, t, _, rfl, .inr ht.sq, rfl, rfl, _, rfl, ?_⟩
    rw [if_pos rfl, hz.inV]
    refine iteF ?_
    exact ⟨_, rfl, _, rfl, p, C, dx, fs, rfl, hp, T.cl, T.nw, hl, k⟩
abbrev nRules : List Str := ["self", "hook", "relay", "clamp", "trail", "wheel"]
theorem scInit : FnScope nRules nRules (defScope sInit) := ⟨rfl, rfl, rfl, by decide +kernel, rfl, by decide +kernel, by decide +kernel⟩
def spInit (C : Addr) : Sp := fun vs H Q _ => ∃ (p dx : Addr) (a b c d e : Str), vs = [.ref p, .str a, .str b, .str c, .str d, .str e] ∧ H p = some (.ins C dx []) ∧ InCh .hook a ∧ InCh .relay b ∧ InCh .clamp c ∧ InCh .trail d ∧ InCh .wheel e ∧
  ∀ H', RulesAt C H' p → (∀ b o, H b = some o → b ≠ p → H' b = some o) → Q .non H'
/-- a property's setter -/
structure Setr (P : Program) (w : World) (K : PySem.W.Frag) (mg : Str → Option Value) (base : Heap) (C : Addr) (w8 : W8) (f : Str) : Prop where
  ex : ∃ (p g : Addr) (fd : FuncData), PropSet K C (w8s w8) p g ∧ FnOk P w K mg base CX0 1 g fd ["self", "value"] (spSet C w8 f) ∧ Binds K fd ["self", "value"] []
theorem ok_init {f C : Addr} {fd : FuncData} (F : FunD K "__init__" "Rules.__init__" (defArgs sInit) (defBody sInit) (defScope sInit) [] [("hook", .str "back"), ("relay", .str "near"), ("clamp", .str "inner"), ("trail", .str "near"), ("wheel", .str "even")] f fd) (T : RTxt K C)
    (S1 : Setr P w K mg base C .hook "_hook") (S2 : Setr P w K mg base C .relay "_relay") (S3 : Setr P w K mg base C .clamp "_clamp") (S4 : Setr P w K mg base C .trail "_trail") (S5 : Setr P w K mg base C .wheel "_wheel") : FnOk P w K mg base CX0 4 f fd nRules (spInit C) := by
  obtain ⟨p1, g1, fd1, hp1, G1, b1⟩ := S1.ex
  obtain ⟨p2, g2, fd2, hp2, G2, b2⟩ := S2.ex
  obtain ⟨p3, g3, fd3, hp3, G3, b3⟩ := S3.ex
  obtain ⟨p4, g4, fd4, hp4, G4, b4⟩ := S4.ex
  obtain ⟨p5, g5, fd5, hp5, G5, b5⟩ := S5.ex
  refine F.ok scInit (fun vs H Q E h => ?_) (fun cdv A outer s H vs Q E hr h => ?_)
  · obtain ⟨p, dx, a, b, c, d, e, rfl, _⟩ := h
    rfl
  · obtain ⟨p, dx, a, b, c, d, e, rfl, hp, ha, hb, hc, hd, he, k⟩ := h
    refine ⟨_, PSs.nox (pss_cons (ps_pset T.cl hp1 G1 hr b1 pass0 (pv 0) (pv 1) rfl)
      (pss_cons (ps_pset T.cl hp2 G2 hr b2 pass0 (pv 0) (pv 2) rfl)
      (pss_cons (ps_pset T.cl hp3 G3 hr b3 pass0 (pv 0) (pv 3) rfl)
      (pss_cons (ps_pset T.cl hp4 G4 hr b4 pass0 (pv 0) (pv 4) rfl)
      (pss_one (ps_pset T.cl hp5 G5 hr b5 pass0 (pv 0) (pv 5) rfl)))))), ?_⟩
    have l1 := length_putF "_hook" (.str a) []
    have l2 := length_putF "_relay" (.str b) (putF "_hook" (.str a) [])
    have l3 := length_putF "_clamp" (.str c) (putF "_relay" (.str b) (putF "_hook" (.str a) []))
    have l4 := length_putF "_trail" (.str d) (putF "_clamp" (.str c) (putF "_relay" (.str b) (putF "_hook" (.str a) [])))
    simp only [List.length_nil] at l1
    refine ⟨_, rfl, _, rfl, p, dx, [], rfl, hp, p, dx, _, a, rfl, hp, (by show 0 < 1000; decide), ha, ?_⟩
    refine ⟨_, rfl, _, rfl, p, dx, _, rfl, upd_same, p, dx, _, b, rfl, upd_same, by omega, hb, ?_⟩
    refine ⟨_, rfl, _, rfl, p, dx, _, rfl, upd_same, p, dx, _, c, rfl, upd_same, by omega, hc, ?_⟩
    refine ⟨_, rfl, _, rfl, p, dx, _, rfl, upd_same, p, dx, _, d, rfl, upd_same, by omega, hd, ?_⟩
    refine ⟨_, rfl, _, rfl, p, dx, _, rfl, upd_same, p, dx, _, e, rfl, upd_same, by omega, he, ?_⟩
    refine k _ ⟨dx, a, b, c, d, e, upd_same⟩ fun b' o h n => ?_
    rw [upd_ne n, upd_ne n, upd_ne n, upd_ne n, upd_ne n]
    exact h
theorem scChoice : FnScope ["self", "name"] ["self", "name"] (defScope sChoice) := ⟨rfl, rfl, rfl, by decide +kernel, rfl, by decide +kernel, by decide +kernel⟩
def spChoice (C : Addr) : Sp := fun vs H Q _ => ∃ (p : Addr) (w8 : W8), vs = [.ref p, .str (w8s w8)] ∧ isTwo w8 = true ∧ RulesAt C H p ∧ ∀ z, Q (.str z) H
theorem rfs_look (a b c d e : Str) : (rfs a b c d e).lookup ("_hook" : Str) = some (.str a) ∧ (rfs a b c d e).lookup ("_relay" : Str) = some (.str b) ∧ (rfs a b c d e).lookup ("_clamp" : Str) = some (.str c) ∧
    (rfs a b c d e).lookup ("_trail" : Str) = some (.str d) ∧ (rfs a b c d e).lookup ("_wheel" : Str) = some (.str e) := by
  unfold rfs
  refine ⟨?_, ?_, ?_, ?_, ?_⟩
  · rw [lookup_putF, if_neg (by decide +kernel), lookup_putF, if_neg (by decide +kernel), lookup_putF, if_neg (by decide +kernel), lookup_putF, if_neg (by decide +kernel), lookup_putF, if_pos rfl]
  · rw [lookup_putF, if_neg (by decide +kernel), lookup_putF, if_neg (by decide +kernel), lookup_putF, if_neg (by decide +kernel), lookup_putF, if_pos rfl]
  · rw [lookup_putF, if_neg (by decide +kernel), lookup_putF, if_neg (by decide +kernel), lookup_putF, if_pos rfl]
  · rw [lookup_putF, if_neg (by decide +kernel), lookup_putF, if_pos rfl]
  · rw [lookup_putF, if_pos rfl]
theorem ok_choice {f C : Addr} {fd : FuncData} (F : Fun K "choice" "Rules.choice" sChoice f fd) (T : RTxt K C) : FnOk P w K mg base CX0 1 f fd ["self", "name"] (spChoice C) := by
  refine F.ok scChoice (fun vs H Q E h => ?_) (fun cdv A outer s H vs Q E hr h => ?_)
  · obtain ⟨p, w8, rfl, _⟩ := h
    rfl
  · obtain ⟨p, w8, rfl, h2, ⟨dx, a, b, c, d, e, hp⟩, k⟩ := h
    obtain ⟨la, lb, lc, ld, le⟩ := rfs_look a b c d e
    refine ⟨_, pss_cons (ps_if (pt_cmpR op_eq (pv 1) pe_str (nomark _)) (pss_one (ps_ret (pe_fld (pv 0) rfl))) pss_nil)
      (pss_cons (ps_if (pt_cmpR op_eq (pv 1) pe_str (nomark _)) (pss_one (ps_ret (pe_fld (pv 0) rfl))) pss_nil)
      (pss_cons (ps_if (pt_cmpR op_eq (pv 1) pe_str (nomark _)) (pss_one (ps_ret (pe_fld (pv 0) rfl))) pss_nil)
      (pss_cons (ps_if (pt_cmpR op_eq (pv 1) pe_str (nomark _)) (pss_one (ps_ret (pe_fld (pv 0) rfl))) pss_nil)
      (pss_cons (ps_if (pt_cmpR op_eq (pv 1) pe_str (nomark _)) (pss_one (ps_ret (pe_fld (pv 0) rfl))) pss_nil)
      pss_never)))), ?_⟩
    refine ⟨_, rfl, rfl, _, rfl, ite2 (fun _ => ⟨_, rfl, p, C, dx, _, _, rfl, hp, T.cl, T.nh, la, k _⟩) (fun q1 => ?_)⟩
    refine ⟨_, rfl, rfl, _, rfl, ite2 (fun _ => ⟨_, rfl, p, C, dx, _, _, rfl, hp, T.cl, T.nr, lb, k _⟩) (fun q2 => ?_)⟩
    refine ⟨_, rfl, rfl, _, rfl, ite2 (fun _ => ⟨_, rfl, p, C, dx, _, _, rfl, hp, T.cl, T.nc, lc, k _⟩) (fun q3 => ?_)⟩
    refine ⟨_, rfl, rfl, _, rfl, ite2 (fun _ => ⟨_, rfl, p, C, dx, _, _, rfl, hp, T.cl, T.nt, ld, k _⟩) (fun q4 => ?_)⟩
    refine ⟨_, rfl, rfl, _, rfl, ite2 (fun _ => ⟨_, rfl, p, C, dx, _, _, rfl, hp, T.cl, T.nw, le, k _⟩) (fun q5 => ?_)⟩
    exfalso
    cases w8 with
    | hook => exact q1 (decide_eq_true rfl)
    | relay => exact q2 (decide_eq_true rfl)
    | clamp => exact q3 (decide_eq_true rfl)
    | trail => exact q4 (decide_eq_true rfl)
    | wheel => exact q5 (decide_eq_true rfl)
    | free => cases h2
    | pair => cases h2
    | claim => cases h2
end
end KW
end

section
set_option Elab.async false
set_option linter.all false
set_option maxRecDepth 100000
set_option maxHeartbeats 4000000
namespace KW
open PySem PySem.Spec PyProof.Rows L2 KR KM ClX
abbrev sNumbered : Stmt := inClass cRules 16
abbrev sStandard : Stmt := top 23
abbrev nNumbered : List Str := ["cls", "number", "words", "rest", "name", "second"]
theorem scNumbered : FnScope nNumbered ["cls", "number"] (defScope sNumbered) := ⟨rfl, rfl, rfl, by decide +kernel, rfl, by decide +kernel, by decide +kernel⟩
theorem scStandard : FnScope ["rules"] ["rules"] (defScope sStandard) := ⟨rfl, rfl, rfl, by decide +kernel, rfl, by decide +kernel, by decide +kernel⟩
def five : List W8 := [.hook, .relay, .clamp, .trail, .wheel]
theorem five_two {j : Nat} {w8 : W8} (h : five[j]? = some w8) : isTwo w8 = true := by
  have := List.mem_of_getElem? h
  simp [five] at this
  rcases this with rfl | rfl | rfl | rfl | rfl <;> rfl
/-- the class as it is read by its own name -/
structure RCls (K : PySem.W.Frag) (C : Addr) : Prop where
  ex : ∃ (mc uc un : Value) (na : Addr), CRead K C mc ∧ CVal K C mc "COUNT" (.int 32) uc ∧ CVal K C mc "NAMES" (.ref na) un ∧ KTup K na (five.map fun x => V.str (w8s x))
def kw5 : List (Str × V) := [("hook", .str "back"), ("relay", .str "near"), ("clamp", .str "inner"), ("trail", .str "near"), ("wheel", .str "even")]
/-- how Rules is made -/
structure RMk (P : Program) (w : World) (K : PySem.W.Frag) (mg : Str → Option Value) (base : Heap) (C : Addr) : Prop where
  ex : ∃ (f : Addr) (fd : FuncData), Mk K C f ∧ FnOk P w K mg base CX0 4 f fd nRules (spInit C) ∧ (∃ ds, Vals (kw5.map (·.2)) ds ∧ Binds K fd nRules ds) ∧ (∃ mv : List Value, KBn K fd nRules 1 (kw5.map (·.1)) (fun us ws => us ++ ws) (fun vs zs => vs ++ zs))
def spNumbered (C : Addr) : Sp := fun vs H Q _ => ∃ n : Int, vs = [.ref C, .int n] ∧ 0 ≤ n ∧ n < 32 ∧ ∀ p H', Same H H' → RulesAt C H' p → Q (.ref p) H'
def spStandard (C : Addr) : Sp := fun vs H Q _ => ∃ v : V, vs = [v] ∧ (v = .non ∨ ∃ p, v = .ref p ∧ RulesAt C H p) ∧ ∀ p H', Same H H' → RulesAt C H' p → Q (.ref p) H'
section
variable {P : Program} {w : World} {K : PySem.W.Frag} {mg : Str → Option Value} {base : Heap}
theorem ok_standard {f C : Addr} {fd : FuncData} (F : Fun K "standard" "standard" sStandard f fd) (R : RMk P w K mg base C) (hC : mg "Rules" = some (.ref C)) : FnOk P w K mg base CX0 6 f fd ["rules"] (spStandard C) := by
  obtain ⟨fi, fdi, M, G, ⟨ds, vd, bd⟩, _⟩ := R.ex
  refine F.ok scStandard (fun vs H Q E h => ?_) (fun cdv A outer s H vs Q E hr h => ?_)
  · obtain ⟨v, rfl, _⟩ := h
    rfl
  · obtain ⟨v, rfl, hv, k⟩ := h
    refine ⟨_, pss_cons (ps_if (pt_cmpR op_isN (pv 0) pe_non (nomark _)) (pss_one (ps_ret (pe_make0 M G hr rfl hC bd vd pass0))) pss_nil) (pss_one (ps_ret (pv 0))), ?_⟩
    refine ⟨_, rfl, rfl, _, rfl, ?_⟩
    rcases hv with rfl | ⟨p, rfl, hp⟩
    · refine iteT ?_
      intro x dx nx ndx nex
      have s0 : Same H (upd (upd H dx (.own x)) x (.ins C dx [])) := ((Same.refl H).put ndx).put nx
      refine ⟨x, dx, _, _, _, _, _, rfl, upd_same, .inl rfl, .inl rfl, .inl rfl, .inl rfl, .inl rfl, fun H' hR hk => ⟨rfl, k x H' (fun b o e => hk b o (s0 b o e) (ne_of_none e nx)) hR⟩⟩
    · rw [show decide (V.ref p = V.non) = false from decide_eq_false (by intro z; cases z)]
      exact iteF ⟨_, rfl, k p H (Same.refl H) hp⟩
theorem ok_numbered {f C : Addr} {fd : FuncData} (F : Fun K "numbered" "Rules.numbered" sNumbered f fd) (B : Bn mg) (R : RMk P w K mg base C) (RC : RCls K C) (S : Chs K w mg) : FnOk P w K mg base CX0 6 f fd ["cls", "number"] (spNumbered C) := by
  obtain ⟨fi, fdi, M, G, _, mv, bk⟩ := R.ex
  obtain ⟨mc, uc, un, na, rd, vc, vn, kt⟩ := RC.ex
  obtain ⟨ch, hch, hS⟩ := S.ex
  refine F.ok scNumbered (fun vs H Q E h => ?_) (fun cdv A outer s H vs Q E hr h => ?_)
  · obtain ⟨n, rfl, _⟩ := h
    rfl
  · obtain ⟨n, rfl, h0, h32, k⟩ := h
    refine ⟨_, pss_cons (ps_if (PW.pt (pw_or (pt_cmpR op_lt (pv 1) pe_int (nomark _)) (pw_or1 (pt_cmpR op_ge (pv 1) (pe_cval (pv 0)) (nomark _))))) pss_never pss_nil)
      (pss_cons (ps_set (i := 2) scNumbered.nd rfl (.inl rfl) (pe_lst pa_nil))
      (pss_cons (ps_set (i := 3) scNumbered.nd rfl (.inl rfl) (pv 1))
      (pss_cons (ps_for PassesOwn.never rfl (pi_tup (pe_cval (pv 0))) (pg_name (i := 4) scNumbered.nd rfl (.inl rfl))
        (pss_cons (ps_asg (pe_callB call_divmod (by rfl) B.divmod boot_divmod (pa_cons (pv 3) (pa_cons pe_int pa_nil))) (pg_tup rfl (pgs_cons (pg_name (i := 3) scNumbered.nd rfl (.inl rfl)) (pgs_cons (pg_name (i := 5) scNumbered.nd rfl (.inl rfl)) pgs_nil))))
        (pss_one (ps_expr (pe_bm PySem.F.plainAttrs_list PySem.F.slot_list_append PySem.F.type_list_append mt_append (pv 2) (pa_cons (pe_ix ix_tup (pe_ix ix_kdict (pe_glob (v := .ref ch) (by rfl) hch rfl) (pv 4) (fun _ _ => rfl)) (pv 5) (fun _ _ => rfl)) pa_nil))))))
      (pss_one (ps_ret (pe_makeKV M G hr (pv 0) bk pass0 (pk_cons (pe_ix ix_list (pv 2) pe_int (fun _ _ => rfl)) (pk_cons (pe_ix ix_list (pv 2) pe_int (fun _ _ => rfl)) (pk_cons (pe_ix ix_list (pv 2) pe_int (fun _ _ => rfl)) (pk_cons (pe_ix ix_list (pv 2) pe_int (fun _ _ => rfl)) (pk_cons (pe_ix ix_list (pv 2) pe_int (fun _ _ => rfl)) pk_nil))))))))))), ?_⟩
    refine ⟨_, rfl, _, _, rfl, rfl, _, rfl, ?_⟩
    rw [show decide (n < 0) = false from decide_eq_false (by omega)]
    refine iteF ⟨_, rfl, _, rfl, C, mc, _, uc, rfl, rd, vc, _, _, rfl, rfl, _, rfl, ?_⟩
    rw [show decide ((32 : Int) ≤ n) = false from decide_eq_false (by omega)]
    refine iteF ?_
    refine ⟨(by show 0 ≤ sizeLine; decide), fun wl nw => ?_⟩
    have s0 : Same H (upd H wl (.lst [])) := same_upd nw
    refine ⟨_, rfl, ?_⟩
    refine ⟨_, rfl, C, mc, _, un, rfl, rd, vn, na, rfl, ⟨_, kt.sq⟩, for_tup (xs := five.map fun x => V.str (w8s x)) (fun i σ H' => ∃ (ws : List Str) (r : Int) (v4 v5 : Option V), σ = [some (.ref C), some (.int n), some (.ref wl), some (.int r), v4, v5] ∧ Same H H' ∧ H' wl = some (.lst (ws.map V.str)) ∧ ws.length = i ∧
        ∀ (j : Nat) (z : Str), ws[j]? = some z → ∃ w8, five[j]? = some w8 ∧ InCh w8 z)
      ⟨[], n, none, none, rfl, s0, upd_same, rfl, fun j z e => by simp at e⟩ (fun i σ H' _ _ => kt.sq) ?_ ?_⟩
    · rintro i x σ H' hx ⟨ws, r, v4, v5, rfl, s1, hw, hl, hws⟩
      obtain ⟨w8, h8, rfl⟩ : ∃ w8, five[i]? = some w8 ∧ x = V.str (w8s w8) := by
        rw [List.getElem?_map] at hx
        cases e : five[i]? with
        | none => rw [e] at hx; cases hx
        | some w8 => rw [e] at hx; exact ⟨w8, rfl, (Option.some.inj hx).symm⟩
      obtain ⟨t, hd, ht⟩ := hS w8 (five_two h8)
      have hi : i < 5 := (List.getElem?_eq_some_iff.mp h8).1
      refine ⟨_, rfl, _, _, rfl, ⟨by decide, by decide⟩, fun T nT => ?_⟩
      refine ⟨T, _, rfl, SqT.of upd_same, rfl, _, _, rfl, _, _, rfl, rfl, ?_⟩
      have hw2 : (upd H' T (.tup [.int (r / 2), .int (r % 2)])) wl = some (.lst (ws.map V.str)) := same_upd nT _ _ hw
      obtain ⟨z, hz, hin⟩ : ∃ z, atI [V.str (c1 w8), V.str (c2 w8)] (r % 2) = some (.str z) ∧ InCh w8 z := by
        have h1 : 0 ≤ r % 2 := Int.emod_nonneg _ (by decide)
        have h2 : r % 2 < 2 := Int.emod_lt_of_pos _ (by decide)
        rcases (show r % 2 = 0 ∨ r % 2 = 1 by omega) with e | e
        · rw [e]; exact ⟨c1 w8, rfl, .inl rfl⟩
        · rw [e]; exact ⟨c2 w8, rfl, .inr rfl⟩
      refine ⟨_, rfl, .inl ⟨rfl, _, SqL.of hw2⟩, _, rfl, ch, _, _, rfl, rfl, hd, _, rfl, t, _, _, _, rfl, rfl, ht.sq, hz, wl, _, _, rfl, rfl, hw2, ?_, ?_⟩
      · rw [List.length_map]
        exact small1000 (by omega)
      · refine ⟨ws ++ [z], _, _, _, rfl, (s1.put (s1.free nT)).put nw, ?_, by rw [List.length_append, hl]; rfl, fun j z' e => ?_⟩
        · rw [upd_same, List.map_append]
          rfl
        · by_cases hj : j < ws.length
          · rw [List.getElem?_append_left hj] at e
            exact hws j z' e
          · rw [List.getElem?_append_right (by omega)] at e
            cases hq : j - ws.length with
            | zero =>
              rw [hq] at e
              cases e
              have : j = i := by omega
              subst this
              exact ⟨w8, h8, hin⟩
            | succ m =>
              rw [hq] at e
              simp at e
    · rintro σ H' ⟨ws, r, v4, v5, rfl, s1, hw, hl, hws⟩
      have hl5 : ws.length = 5 := hl
      match ws, hl5, hw, hws with
      | [a, b, c, d, e], _, hw, hws =>
        obtain ⟨_, e1, ha⟩ := hws 0 a rfl
        obtain ⟨_, e2, hb⟩ := hws 1 b rfl
        obtain ⟨_, e3, hc⟩ := hws 2 c rfl
        obtain ⟨_, e4, hd⟩ := hws 3 d rfl
        obtain ⟨_, e5, he⟩ := hws 4 e rfl
        cases e1
        cases e2
        cases e3
        cases e4
        cases e5
        refine ⟨rfl, ?_⟩
        refine ⟨_, rfl, wl, _, _, _, rfl, rfl, SqL.of hw, at_of (j := 0) rfl rfl, ?_⟩
        refine ⟨_, rfl, wl, _, _, _, rfl, rfl, SqL.of hw, at_of (j := 1) rfl rfl, ?_⟩
        refine ⟨_, rfl, wl, _, _, _, rfl, rfl, SqL.of hw, at_of (j := 2) rfl rfl, ?_⟩
        refine ⟨_, rfl, wl, _, _, _, rfl, rfl, SqL.of hw, at_of (j := 3) rfl rfl, ?_⟩
        refine ⟨_, rfl, wl, _, _, _, rfl, rfl, SqL.of hw, at_of (j := 4) rfl rfl, ?_⟩
        refine ⟨rfl, rfl, fun x dx nx ndx nex => ?_⟩
        have s2 : Same H' (upd (upd H' dx (.own x)) x (.ins C dx [])) := ((Same.refl H').put ndx).put nx
        exact ⟨x, dx, a, b, c, d, e, rfl, upd_same, ha, hb, hc, hd, he, fun H2 hR hk => ⟨rfl, k x H2 (fun b' o h => hk b' o (s2 b' o (s1 b' o h)) (ne_of_none (s1 b' o h) nx)) hR⟩⟩
end
end KW
end

section
set_option Elab.async false
set_option linter.all false
set_option maxRecDepth 100000
set_option maxHeartbeats 4000000
namespace KW
open PySem PySem.Spec PyProof.Rows L2 KR KM RZ
abbrev sSides : Stmt := top 26
abbrev sMended : Stmt := top 27
abbrev nSides : List Str := ["word", "records", "found", "places", "names", "record", "place"]
theorem scSides : FnScope nSides ["word", "records"] (defScope sSides) := ⟨rfl, rfl, rfl, by decide +kernel, rfl, by decide +kernel, by decide +kernel⟩
theorem scMended : FnScope ["word", "records", "rules", "found"] ["word", "records", "rules"] (defScope sMended) := ⟨rfl, rfl, rfl, by decide +kernel, rfl, by decide +kernel, by decide +kernel⟩
/-- the table of the outcomes -/
structure Outs (K : PySem.W.Frag) (w : World) (mg : Str → Option Value) : Prop where
  ex : ∃ oa : Addr, mg "OUTCOMES" = some (.ref oa) ∧ ∀ w8 : W8, ∃ (t : Addr) (ts : List Addr), KDct K w oa (w8s w8) (.ref t) ∧ KTup K t (ts.map V.ref) ∧ ts.length = w8.outs.length ∧
    ∀ (j : Nat) (a : Addr), ts[j]? = some a → ∃ pl, w8.outs[j]? = some pl ∧ KTup K a (vL pl)
/-- the records with the names that an outcome gives them, in any order -/
def PRP (H : Hp) (xs : List V) (r pl : List Nat) : Prop :=
  (∀ v ∈ xs, ∃ (t : Addr) (j x q y : Nat), v = .ref t ∧ r[j]? = some x ∧ pl[j]? = some q ∧ r[q]? = some y ∧ H t = some (.tup [vI x, vI y])) ∧
  ∀ (j x q y : Nat), r[j]? = some x → pl[j]? = some q → r[q]? = some y → ∃ t : Addr, V.ref t ∈ xs ∧ H t = some (.tup [vI x, vI y])
theorem PRP.same {H H' : Hp} {xs : List V} {r pl : List Nat} (h : PRP H xs r pl) (s : Same H H') : PRP H' xs r pl :=
  ⟨fun v hv => let ⟨t, j, x, q, y, h1, h2, h3, h4, h5⟩ := h.1 v hv; ⟨t, j, x, q, y, h1, h2, h3, h4, s _ _ h5⟩, fun j x q y h1 h2 h3 => let ⟨t, h4, h5⟩ := h.2 j x q y h1 h2 h3; ⟨t, h4, s _ _ h5⟩⟩
theorem PRP.but {H H' : Hp} {xs : List V} {r pl : List Nat} {p : Addr} {us : List V} (h : PRP H xs r pl) (hp : H p = some (.lst us)) (s : SameBut p H H') : PRP H' xs r pl :=
  ⟨fun v hv => let ⟨t, j, x, q, y, h1, h2, h3, h4, h5⟩ := h.1 v hv; ⟨t, j, x, q, y, h1, h2, h3, h4, s _ _ (ne_of h5 hp (by intro z; cases z)) h5⟩,
    fun j x q y h1 h2 h3 => let ⟨t, h4, h5⟩ := h.2 j x q y h1 h2 h3; ⟨t, h4, s _ _ (ne_of h5 hp (by intro z; cases z)) h5⟩⟩
theorem PRP.perm {H : Hp} {xs ys : List V} {r pl : List Nat} (h : PRP H xs r pl) (p : ys.Perm xs) : PRP H ys r pl :=
  ⟨fun v hv => h.1 v (p.mem_iff.mp hv), fun j x q y h1 h2 h3 => let ⟨t, h4, h5⟩ := h.2 j x q y h1 h2 h3; ⟨t, p.mem_iff.mpr h4, h5⟩⟩
/-- the outcomes fit the records -/
def Fits (w8 : W8) (r : List Nat) : Prop := r.length ≤ 4 ∧ ∀ pl ∈ w8.outs, pl.length = r.length ∧ ∀ q ∈ pl, q < r.length
/-- the lists of an outcome each -/
def SidesAt (H : Hp) (ls : List Addr) (w8 : W8) (r : List Nat) : Prop := ls.length ≤ w8.outs.length ∧ ∀ (j : Nat) (l : Addr), ls[j]? = some l → ∃ pl xs, w8.outs[j]? = some pl ∧ H l = some (.lst xs) ∧ PRP H xs r pl
def spSides : Sp := fun vs H Q _ => ∃ (w8 : W8) (q : Addr) (r : List Nat), vs = [.str (w8s w8), .ref q] ∧ H q = some (.tup (vL r)) ∧ Fits w8 r ∧
  ∀ H' p ls, Same H H' → H p = none → H' p = some (.lst (ls.map V.ref)) → ls.length = w8.outs.length → (∀ l ∈ ls, H l = none) → SidesAt H' ls w8 r → Q (.ref p) H'
theorem walk_zipT {K : PySem.W.Frag} {a b : Addr} {xs ys : List V} (hn : xs.length = ys.length) : Walk (ItzT K a b) xs.length (fun H => SqT K H a xs ∧ SqT K H b ys) (YPair (fun i => xs[i]?) (fun i => ys[i]?)) := by
  refine ⟨fun i _ hi q => ?_, fun _ q => ⟨xs, ys, q.1, q.2, .inl (Nat.le_refl _)⟩, fun i H v H' _ q y => ?_⟩
  · exact ⟨xs, ys, xs[i], ys[i]'(by omega), q.1, q.2, by simp [hi], List.getElem?_eq_getElem _⟩
  · obtain ⟨T, x, z, h1, h2, h3, h4, h5⟩ := y
    exact ⟨T, x, z, h1, h2, h3, h4 xs q.1, h5 ys q.2⟩
theorem outs_le (w8 : W8) : w8.outs.length ≤ 2 := by cases w8 <;> decide
section
variable {P : Program} {w : World} {K : PySem.W.Frag} {mg : Str → Option Value} {base : Heap}
theorem ok_sides {f : Addr} {fd : FuncData} (F : Fun K "piece_sides" "piece_sides" sSides f fd) (B : Bn mg) (O : Outs K w mg) : FnOk P w K mg base CX0 1 f fd ["word", "records"] spSides := by
  obtain ⟨oa, hoa, hO⟩ := O.ex
  refine F.ok scSides (fun vs H Q E h => ?_) (fun cdv A outer s H vs Q E hr h => ?_)
  · obtain ⟨w8, q, r, rfl, _⟩ := h
    rfl
  · obtain ⟨w8, q, r, rfl, hq, ⟨hr4, hfit⟩, k⟩ := h
    obtain ⟨t, ts, hd, ht, htl, hts⟩ := hO w8
    refine ⟨_, pss_cons (ps_set (i := 2) scSides.nd rfl (.inl rfl) (pe_lst pa_nil))
      (pss_cons (ps_for PassesOwn.never rfl (pi_tup (pe_ix ix_kdict (pe_glob (v := .ref oa) (by rfl) hoa rfl) (pv 0) (fun _ _ => rfl))) (pg_name (i := 3) scSides.nd rfl (.inl rfl))
        (pss_cons (ps_setLc (i := 4) (own := [("record", 5), ("place", 6)]) (g := gTup K 2 (gCons (gName 5) (gCons (gName 6) gNil))) (tt := tYes) (te := tTup (tCons (tVar 5) (tCons (tOp (rIxT K) (tVar 1) (tVar 6)) tNil))) rfl scSides.nd rfl rfl (sw_true rfl rfl rfl (by decide +kernel)) (pi_zipA (by rfl) B.zip (pa_cons (pv 1) (pa_cons (pv 3) pa_nil)))
            (blkOk_by (own := [("record", 5), ("place", 6)]) (N := nSides) (sc := defScope sSides) (by decide +kernel))
            (fun _ _ _ _ _ => pg_tup rfl (pgs_cons (pg_name (i := 5) scSides.nd rfl (Or.inl rfl)) (pgs_cons (pg_name (i := 6) scSides.nd rfl (Or.inl rfl)) pgs_nil))) (fun _ _ _ _ _ => pts_nil)
            (fun _ _ _ _ _ => pe_tup (pa_cons (pv 5) (pa_cons (pe_ix ix_tup (pv 1) (pv 6) (fun _ _ => rfl)) pa_nil))))
        (pss_one (ps_expr (pe_bm PySem.F.plainAttrs_list PySem.F.slot_list_append PySem.F.type_list_append mt_append (pv 2) (pa_cons (pe_callB cr_sortedP (by rfl) B.sorted boot_sorted (pa_cons (pv 4) pa_nil)) pa_nil))))))
      (pss_one (ps_ret (pv 2)))), ?_⟩
    refine ⟨(by show 0 ≤ sizeLine; decide), fun fl nf => ?_⟩
    have s0 : Same H (upd H fl (.lst [])) := same_upd nf
    refine ⟨_, rfl, oa, _, _, rfl, rfl, hd, t, rfl, ⟨_, ht.sq⟩, for_tup (xs := ts.map V.ref) (fun i σ H' => ∃ (ls : List Addr) (v3 v4 : Option V), σ = [some (.str (w8s w8)), some (.ref q), some (.ref fl), v3, v4, none, none] ∧ Same H H' ∧ H' fl = some (.lst (ls.map V.ref)) ∧ ls.length = i ∧ (∀ l ∈ ls, l ≠ fl ∧ H l = none) ∧ SidesAt H' ls w8 r)
      ⟨[], none, none, rfl, s0, upd_same, rfl, (fun l h => by cases h), Nat.zero_le _, fun j l e => by simp at e⟩ (fun i σ H' _ _ => ht.sq) ?_ ?_⟩
    · rintro i x σ H1 hx ⟨ls, v3, v4, rfl, s1, hfl, hll, hlf, hsd⟩
      obtain ⟨ta, hta, rfl⟩ := refs_get hx
      obtain ⟨pl, hpl, htp⟩ := hts i ta hta
      obtain ⟨hpl1, hpl2⟩ := hfit pl (List.mem_of_getElem? hpl)
      have hi : i < w8.outs.length := (List.getElem?_eq_some_iff.mp hpl).1
      have ho2 := outs_le w8
      have hq1 := s1 _ _ hq
      -- names = [(record, records[place]) for record, place in zip(records, places)]
      refine ⟨_, rfl, _, rfl, q, ta, _, _, rfl, .inr ⟨SqT.of hq1, htp.sq, fun D nD => ?_⟩⟩
      refine lc_it (walk_zipT (K := K) (a := q) (b := ta) (xs := vL r) (ys := vL pl) (by rw [vL_length, vL_length, hpl1])) (fun j H2 => Same H1 H2 ∧ ∃ acc : List V, H2 D = some (.lst acc) ∧ acc.length = j ∧
          (∀ v ∈ acc, ∃ (t : Addr) (j x q y : Nat), v = .ref t ∧ r[j]? = some x ∧ pl[j]? = some q ∧ r[q]? = some y ∧ H2 t = some (.tup [vI x, vI y])) ∧
          ∀ (i x q y : Nat), i < j → r[i]? = some x → pl[i]? = some q → r[q]? = some y → ∃ t : Addr, V.ref t ∈ acc ∧ H2 t = some (.tup [vI x, vI y]))
        ⟨same_upd nD, [], upd_same, rfl, (fun v hv => by cases hv), fun i x q y h => absurd h (Nat.not_lt_zero _)⟩ (fun j H2 _ ⟨s2, _⟩ => ⟨SqT.of (s2 _ _ hq1), htp.sq⟩) ?_ ?_
      · rintro j x H2 H3 hj ⟨s2, acc, hD, hal, ha1, ha2⟩ ⟨T, x1, x2, rfl, nT, rfl, e1, e2⟩
        obtain ⟨x0, hx0, rfl⟩ := vL_of e1
        obtain ⟨q0, hq0, rfl⟩ := vL_of e2
        rw [vL_length] at hj
        have hqlt : q0 < r.length := hpl2 q0 (List.mem_of_getElem? hq0)
        have hy0 : r[q0]? = some (r[q0]) := List.getElem?_eq_getElem hqlt
        have s3 : Same H2 (upd H2 T (.tup [vI x0, vI q0])) := same_upd nT
        refine ⟨T, _, rfl, SqT.of upd_same, rfl, _, _, rfl, _, _, rfl, rfl, rfl, ?_⟩
        refine ⟨_, rfl, _, rfl, _, rfl, q, _, _, _, rfl, rfl, SqT.of (s3 _ _ (s2 _ _ hq1)), at_vL hy0, (by show 2 ≤ sizeLine; decide), fun T2 nT2 => ?_⟩
        have s4 : Same H2 (upd (upd H2 T (.tup [vI x0, vI q0])) T2 (.tup [vI x0, vI r[q0]])) := s3.put (s3.free nT2)
        have hD4 := s4 _ _ hD
        have nTD : T2 ≠ D := fun e => by rw [e] at nT2; rw [s3 _ _ hD] at nT2; cases nT2
        have tD : ∀ (t : Addr) (zs : List V), H2 t = some (.tup zs) → t ≠ D := fun t zs h e => by rw [e, hD] at h; cases h
        refine ⟨acc, hD4, small1000 (by omega), (s2.trans s4).put nD, acc ++ [.ref T2], upd_same, by rw [List.length_append, hal]; rfl, fun v hv => ?_, fun i x q y hi h1 h2 h3 => ?_⟩
        · rcases List.mem_append.mp hv with hv | hv
          · obtain ⟨t, j', x', q', y', g1, g2, g3, g4, g5⟩ := ha1 v hv
            exact ⟨t, j', x', q', y', g1, g2, g3, g4, by rw [upd_ne (tD _ _ g5)]; exact s4 _ _ g5⟩
          · rw [List.mem_singleton.mp hv]
            exact ⟨T2, j, x0, q0, _, rfl, hx0, hq0, hy0, by rw [upd_ne nTD, upd_same]⟩
        · rcases Nat.lt_succ_iff_lt_or_eq.mp hi with hi | hi
          · obtain ⟨t, g1, g2⟩ := ha2 i x q y hi h1 h2 h3
            exact ⟨t, List.mem_append_left _ g1, by rw [upd_ne (tD _ _ g2)]; exact s4 _ _ g2⟩
          · subst hi
            rw [hx0] at h1
            cases h1
            rw [hq0] at h2
            cases h2
            rw [hy0] at h3
            cases h3
            exact ⟨T2, by simp, by rw [upd_ne nTD, upd_same]⟩
      · rintro H2 ⟨s2, acc, hD, hal, ha1, ha2⟩
        rw [vL_length] at ha2
        -- found.append(sorted(names))
        refine ⟨_, rfl, .inl ⟨rfl, _, SqL.of (s2 _ _ hfl)⟩, _, rfl, D, acc, rfl, SqL.of hD, fun v hv => ?_, fun ys p2 hperm n2 => ?_⟩
        · obtain ⟨t, j, x, q, y, g1, g2, g3, g4, g5⟩ := ha1 v hv
          exact ⟨t, _, _, g1, g5⟩
        have s5 : Same H1 (upd H2 p2 (.lst ys)) := s2.put (s2.free n2)
        have hfl5 := s5 _ _ hfl
        have npf : p2 ≠ fl := fun e => by rw [e, s2 _ _ hfl] at n2; cases n2
        refine ⟨fl, _, _, rfl, rfl, hfl5, ?_, ?_⟩
        · rw [List.length_map]
          exact small1000 (by omega)
        have prp : PRP (upd H2 p2 (.lst ys)) ys r pl := (PRP.perm (xs := acc) ⟨ha1, fun j x q y h1 => ha2 j x q y (List.getElem?_eq_some_iff.mp h1).1 h1⟩ hperm).same (same_upd n2)
        have sb : SameBut fl (upd H2 p2 (.lst ys)) (upd (upd H2 p2 (.lst ys)) fl (.lst (ls.map V.ref ++ [V.ref p2]))) := SameBut.upd (Same.refl _).but
        refine ⟨ls ++ [p2], _, _, rfl, (s1.trans s5).put nf, ?_, by rw [List.length_append, hll]; rfl, fun l hl => ?_, by rw [List.length_append, hll]; exact hi, fun j l e => ?_⟩
        · rw [upd_same, List.map_append]
          rfl
        · rcases List.mem_append.mp hl with hl | hl
          · exact hlf l hl
          · rw [List.mem_singleton.mp hl]; exact ⟨npf, s1.free (s2.free n2)⟩
        · by_cases hj : j < ls.length
          · rw [List.getElem?_append_left hj] at e
            obtain ⟨pl', xs', g1, g2, g3⟩ := hsd.2 j l e
            have nlf : l ≠ fl := (hlf l (List.mem_of_getElem? e)).1
            exact ⟨pl', xs', g1, sb _ _ nlf (s5 _ _ g2), (g3.same s5).but hfl5 sb⟩
          · rw [List.getElem?_append_right (by omega)] at e
            cases hz : j - ls.length with
            | zero =>
              rw [hz] at e
              cases e
              have : j = i := by omega
              subst this
              exact ⟨pl, ys, hpl, by rw [upd_ne npf, upd_same], prp.but hfl5 sb⟩
            | succ m =>
              rw [hz] at e
              simp at e
    · rintro σ H' ⟨ls, v3, v4, rfl, s1, hfl, hll, hlf, hsd⟩
      rw [List.length_map, htl] at hll
      exact ⟨_, rfl, k H' fl ls s1 nf hfl hll (fun l h => (hlf l h).2) hsd⟩
end
end KW
end

section
set_option Elab.async false
set_option linter.all false
set_option maxRecDepth 100000
set_option maxHeartbeats 4000000
namespace KW
open PySem PySem.Spec PyProof.Rows L2 KR KM RZ
abbrev sRepaired : Stmt := top 28
abbrev sRepair : Stmt := top 29
abbrev nRepaired : List Str := ["image", "rules", "chosen", "state", "word", "records", "record", "name"]
theorem scRepaired : FnScope nRepaired ["image", "rules"] (defScope sRepaired) := ⟨rfl, rfl, rfl, by decide +kernel, rfl, by decide +kernel, by decide +kernel⟩
theorem scRepair : FnScope ["image", "rules"] ["image", "rules"] (defScope sRepair) := ⟨rfl, rfl, rfl, by decide +kernel, rfl, by decide +kernel, by decide +kernel⟩
def spMended (C : Addr) : Sp := fun vs H Q _ => ∃ (w8 : W8) (q rp : Addr) (r : List Nat), vs = [.str (w8s w8), .ref q, .ref rp] ∧ H q = some (.tup (vL r)) ∧ Fits w8 r ∧ RulesAt C H rp ∧
  ∀ H' l pl xs, Same H H' → pl ∈ w8.outs → H' l = some (.lst xs) → H l = none → PRP H' xs r pl → Q (.ref l) H'
theorem two_of {w8 : W8} (h : w8.outs.length = 2) : isTwo w8 = true := by
  cases w8 <;> first | rfl | cases h
theorem outs_pos (w8 : W8) : 0 < w8.outs.length := by cases w8 <;> decide
/-- what calls the method choice -/
structure ChM (P : Program) (w : World) (K : PySem.W.Frag) (mg : Str → Option Value) (base : Heap) (C : Addr) : Prop where
  ex : ∃ (f : Addr) (fd : FuncData), Meth K C "choice" f ∧ FnOk P w K mg base CX0 1 f fd ["self", "name"] (spChoice C) ∧ Binds K fd ["self", "name"] []
theorem rfs_choice (a b c d e : Str) : (rfs a b c d e).lookup ("choice" : Str) = none := by
  unfold rfs
  rw [lookup_putF, if_neg (by decide +kernel), lookup_putF, if_neg (by decide +kernel), lookup_putF, if_neg (by decide +kernel), lookup_putF, if_neg (by decide +kernel), lookup_putF, if_neg (by decide +kernel)]
  rfl
section
variable {P : Program} {w : World} {K : PySem.W.Frag} {mg : Str → Option Value} {base : Heap}
theorem ok_mended {f C : Addr} {fd : FuncData} (F : Fun K "mended_piece" "mended_piece" sMended f fd) (B : Bn mg) (C1 : Cal P w K mg base 1 "piece_sides" ["word", "records"] spSides) (C2 : Cal P w K mg base 6 "standard" ["rules"] (spStandard C)) (T : RTxt K C) (M : ChM P w K mg base C) (S : Chs K w mg) :
    FnOk P w K mg base CX0 7 f fd ["word", "records", "rules"] (spMended C) := by
  obtain ⟨f1, fd1, G1, hm1, kp1, b1⟩ := C1
  obtain ⟨f2, fd2, G2, hm2, kp2, b2⟩ := C2
  obtain ⟨f3, fd3, mt3, G3, b3⟩ := M.ex
  obtain ⟨ch, hch, hS⟩ := S.ex
  refine F.ok scMended (fun vs H Q E h => ?_) (fun cdv A outer s H vs Q E hr h => ?_)
  · obtain ⟨w8, q, rp, r, rfl, _⟩ := h
    rfl
  · obtain ⟨w8, q, rp, r, rfl, hq, hf, hR, k⟩ := h
    have hr1 : Room 1 _ := hr.mono (by decide)
    refine ⟨_, pss_cons (ps_set (i := 3) scMended.nd rfl (.inl rfl) (pe_call G1 hr1 rfl hm1 kp1 b1 .nil pass0 (pa_cons (pv 0) (pa_cons (pv 1) pa_nil))))
      (pss_cons (ps_if (PW.pt (pw_and (pt_cmpR op_eq (pe_callB call_len_seq (by rfl) B.len PySem.boot_len (pa_cons (pv 3) pa_nil)) pe_int (nomark _))
          (pw_and1 (pt_cmpR op_eq (pe_meth (pe_call G2 hr rfl hm2 kp2 b2 .nil pass0 (pa_cons (pv 2) pa_nil)) T.cl mt3 G3 hr1 b3 .nil pass0 (pa_cons (pv 0) pa_nil))
            (pe_ix ix_tup (pe_ix ix_kdict (pe_glob (v := .ref ch) (by rfl) hch rfl) (pv 0) (fun _ _ => rfl)) pe_int (fun _ _ => rfl)) (nomark _)))))
        (pss_one (ps_ret (pe_ix ix_list (pv 3) pe_int (fun _ _ => rfl)))) pss_nil)
      (pss_one (ps_ret (pe_ix ix_list (pv 3) pe_int (fun _ _ => rfl))))), ?_⟩
    refine ⟨_, rfl, _, rfl, w8, q, r, rfl, hq, hf, fun H1 p ls s1 np hp hl hnl hsd => ?_⟩
    have first : ∀ H2, Same H1 H2 → ∃ l xs pl, atI (ls.map V.ref) 0 = some (.ref l) ∧ pl ∈ w8.outs ∧ H2 l = some (.lst xs) ∧ H l = none ∧ PRP H2 xs r pl := fun H2 s2 => by
      have h0 : 0 < ls.length := by rw [hl]; exact outs_pos w8
      obtain ⟨pl, xs, g1, g2, g3⟩ := hsd.2 0 ls[0] (List.getElem?_eq_getElem h0)
      refine ⟨ls[0], xs, pl, at_of (j := 0) rfl (by rw [List.getElem?_map, List.getElem?_eq_getElem h0]; rfl), List.mem_of_getElem? g1, s2 _ _ g2, hnl _ (List.getElem_mem h0), g3.same s2⟩
    refine ⟨_, rfl, p, _, rfl, .inl (SqL.of hp), rfl, _, rfl, ?_⟩
    refine ite2 (fun c1 => ?_) (fun c1 => ?_)
    · have hl2 : w8.outs.length = 2 := by
        have e := of_decide_eq_true c1
        injection e with e
        rw [List.length_map, hl] at e
        omega
      have h2 := two_of hl2
      obtain ⟨t, hd, ht⟩ := hS w8 h2
      refine ⟨_, rfl, .ref rp, rfl, .inr ⟨rp, rfl, hR.same s1⟩, fun p2 H2 s2 hR2 => ?_⟩
      obtain ⟨dx, a, b, c, d, e, hp2⟩ := id hR2
      refine ⟨p2, dx, _, rfl, hp2, rfs_choice a b c d e, _, rfl, p2, w8, rfl, h2, hR2, fun z => ?_⟩
      refine ⟨_, rfl, ch, _, _, rfl, rfl, hd, t, _, _, _, rfl, rfl, ht.sq, at_of (j := 1) rfl rfl, rfl, _, rfl, ?_⟩
      refine ite2 (fun c2 => ?_) (fun c2 => ?_)
      · obtain ⟨l, xs, pl, g0, g1, g2, g3, g4⟩ : ∃ l xs pl, atI (ls.map V.ref) 1 = some (.ref l) ∧ pl ∈ w8.outs ∧ H2 l = some (.lst xs) ∧ H l = none ∧ PRP H2 xs r pl := by
          have h0 : 1 < ls.length := by rw [hl]; omega
          obtain ⟨pl, xs, g1, g2, g3⟩ := hsd.2 1 ls[1] (List.getElem?_eq_getElem h0)
          refine ⟨ls[1], xs, pl, at_of (j := 1) rfl (by rw [List.getElem?_map, List.getElem?_eq_getElem h0]; rfl), List.mem_of_getElem? g1, s2 _ _ g2, hnl _ (List.getElem_mem h0), g3.same s2⟩
        exact ⟨_, rfl, p, _, _, _, rfl, rfl, SqL.of (s2 _ _ hp), g0, k H2 l pl xs (s1.trans s2) g1 g2 g3 g4⟩
      · obtain ⟨l, xs, pl, g0, g1, g2, g3, g4⟩ := first H2 s2
        exact ⟨_, rfl, p, _, _, _, rfl, rfl, SqL.of (s2 _ _ hp), g0, k H2 l pl xs (s1.trans s2) g1 g2 g3 g4⟩
    · obtain ⟨l, xs, pl, g0, g1, g2, g3, g4⟩ := first H1 (Same.refl _)
      exact ⟨_, rfl, p, _, _, _, rfl, rfl, SqL.of hp, g0, k H1 l pl xs s1 g1 g2 g3 g4⟩
/-- the i first groups have the names of an outcome each -/
def Done (im : List Nat) (gs : List (List Nat)) (st : List Nat) (i : Nat) : Prop :=
  ∀ (j : Nat) (g : List Nat), j < i → gs[j]? = some g → ∃ sh r w8 pl, formOf (fnm im) g = some (sh, r) ∧ wordOf sh = some w8 ∧ r.Perm g ∧ pl ∈ w8.outs ∧ ∀ (k x : Nat), r[k]? = some x → fnm st x = r.getD (pl.getD k 0) 0
def spRepaired (K : PySem.W.Frag) (C : Addr) : Sp := fun vs H Q _ => ∃ (a : Addr) (v : V) (im : List Nat), vs = [.ref a, v] ∧ SqL K H a (vL im) ∧ GoodIm im ∧ (v = .non ∨ ∃ p, v = .ref p ∧ RulesAt C H p) ∧
  ∀ H' p st, Same H H' → H p = none → H' p = some (.lst (vL st)) → st.length = im.length → ToldOf im.length (fnm im) (fnm st) → Q (.ref p) H'
theorem fits_of {sh : List Nat} {w8 : W8} (h : wordOf sh = some w8) : ∀ pl ∈ w8.outs, pl.length = sh.length ∧ ∀ q ∈ pl, q < sh.length := by
  unfold wordOf at h
  split at h <;> first | (cases h; decide) | cases h
theorem form_len {f : Nat → Nat} {g sh r : List Nat} (h : formOf f g = some (sh, r)) : sh.length = r.length := by
  unfold formOf at h
  split at h
  · cases h
  · have e := Option.some.inj h
    have e1 := congrArg Prod.fst e
    have e2 := congrArg Prod.snd e
    simp only at e1 e2
    rw [← e1, ← e2]
    unfold shapeOf
    rw [List.length_map]
theorem fnm_set {st : List Nat} {x y z : Nat} (h : x < st.length) : fnm (st.set x y) z = if z = x then y else fnm st z := by
  show (st.set x y).getD z 0 = _
  rw [List.getD_eq_getElem?_getD]
  by_cases e : z = x
  · rw [if_pos e, e, List.getElem?_set_self h]
    rfl
  · rw [if_neg e, List.getElem?_set_ne (Ne.symm e)]
    show _ = st.getD z 0
    rw [List.getD_eq_getElem?_getD]
theorem ixN_at {n j : Nat} (hj : j < n) : ixN n (j : Int) = some j := by
  unfold ixN
  rw [if_pos (by omega), if_pos (by omega)]
  simp
theorem ok_repaired {f C : Addr} {fd : FuncData} (F : Fun K "repaired" "repaired" sRepaired f fd) (B : Bn mg) (C1 : Cal P w K mg base 3 "pieces" ["image"] (spPieces K)) (C2 : Cal P w K mg base 6 "standard" ["rules"] (spStandard C)) (C3 : Cal P w K mg base 7 "mended_piece" ["word", "records", "rules"] (spMended C)) :
    FnOk P w K mg base CX0 8 f fd ["image", "rules"] (spRepaired K C) := by
  obtain ⟨f1, fd1, G1, hm1, kp1, b1⟩ := C1
  obtain ⟨f2, fd2, G2, hm2, kp2, b2⟩ := C2
  obtain ⟨f3, fd3, G3, hm3, kp3, b3⟩ := C3
  refine F.ok scRepaired (fun vs H Q E h => ?_) (fun cdv A outer s H vs Q E hr h => ?_)
  · obtain ⟨a, v, im, rfl, _⟩ := h
    rfl
  · obtain ⟨a, v, im, rfl, hS, hG, hv, k⟩ := h
    have hr3 : Room 3 _ := hr.mono (by decide)
    have hr6 : Room 6 _ := hr.mono (by decide)
    refine ⟨_, pss_cons (ps_set (i := 2) scRepaired.nd rfl (.inl rfl) (pe_call G2 hr6 rfl hm2 kp2 b2 .nil pass0 (pa_cons (pv 1) pa_nil)))
      (pss_cons (ps_set (i := 3) scRepaired.nd rfl (.inl rfl) (pe_callTy call_list_of (by rfl) B.list (by decide +kernel) (pa_cons (pv 0) pa_nil)))
      (pss_cons (ps_for PassesOwn.never rfl (pi_list (pe_call G1 hr3 rfl hm1 kp1 b1 .nil pass0 (pa_cons (pv 0) pa_nil))) (pg_tup rfl (pgs_cons (pg_name (i := 4) scRepaired.nd rfl (.inl rfl)) (pgs_cons (pg_name (i := 5) scRepaired.nd rfl (.inl rfl)) pgs_nil)))
        (pss_one (ps_for PassesOwn.never rfl (pi_list (pe_call G3 hr rfl hm3 kp3 b3 .nil pass0 (pa_cons (pv 4) (pa_cons (pv 5) (pa_cons (pv 2) pa_nil))))) (pg_tup rfl (pgs_cons (pg_name (i := 6) scRepaired.nd rfl (.inl rfl)) (pgs_cons (pg_name (i := 7) scRepaired.nd rfl (.inl rfl)) pgs_nil)))
          (pss_one (ps_asg (pv 7) (pg_sub (pv 3) (pv 6) set_list))))))
      (pss_one (ps_ret (pv 3))))), ?_⟩
    refine ⟨_, rfl, v, rfl, hv, fun rp H1 s1 hR => ?_⟩
    refine ⟨_, rfl, a, _, rfl, .inl (s1.seq hS), fun sp nsp => ?_⟩
    have s2 : Same H (upd H1 sp (.lst (vL im))) := s1.put (s1.free nsp)
    have hsp0 : (upd H1 sp (.lst (vL im))) sp = some (.lst (vL im)) := upd_same
    have hR2 : RulesAt C (upd H1 sp (.lst (vL im))) rp := hR.same (same_upd nsp)
    have nsp0 := s1.free nsp
    generalize upd H1 sp (.lst (vL im)) = H2 at s2 hsp0 hR2
    refine ⟨_, rfl, a, im, rfl, s2.seq hS, hG, fun gs bs p H3 GO s3 np hp hbl hgl hpl => ?_⟩
    have hsp3 := s3 _ _ hsp0
    have nps : p ≠ sp := (ne_of_none hsp0 np).symm
    have hR3 := hR2.same s3
    refine ⟨p, rfl, ⟨_, SqL.of hp⟩, for_list (xs := bs.map V.ref) (fun i σ H' => ∃ (st : List Nat) (v4 v5 v6 v7 : Option V), σ = [some (.ref a), some v, some (.ref rp), some (.ref sp), v4, v5, v6, v7] ∧ SameBut sp H3 H' ∧ H' sp = some (.lst (vL st)) ∧ st.length = im.length ∧ Done im gs st i)
      ⟨im, none, none, none, none, rfl, (Same.refl _).but, hsp3, rfl, fun j g h => absurd h (Nat.not_lt_zero _)⟩ (fun i σ H' _ ⟨_, _, _, _, _, _, s4, _⟩ => SqL.of (s4 _ _ nps hp)) ?_ ?_⟩
    · rintro i x σ H4 hx ⟨st, v4, v5, v6, v7, rfl, s4, hsp4, hst, hD⟩
      obtain ⟨b, hb, rfl⟩ := refs_get hx
      obtain ⟨g, sh, r, w8, q, h1, h2, h3, h4, h5, h6, h7⟩ := (hpl.but hsp3 s4) i b hb
      have hgm := List.mem_of_getElem? h1
      have hfit : Fits w8 r := ⟨by rw [h4.length_eq]; exact h5, by rw [← form_len h2]; exact fits_of h3⟩
      have rnd : r.Nodup := h4.nodup_iff.mpr (GO.gnd hgm)
      have rlt : ∀ x ∈ r, x < im.length := fun x hx => GO.lt hgm (h4.mem_iff.mp hx)
      have hR4 : RulesAt C H4 rp := by
        obtain ⟨dx, a1, a2, a3, a4, a5, e⟩ := hR3
        exact ⟨dx, a1, a2, a3, a4, a5, s4 _ _ (ne_of e hsp3 (by intro z; cases z)) e⟩
      refine ⟨b, _, rfl, SqT.of h6, rfl, _, _, rfl, _, _, rfl, rfl, ?_⟩
      refine ⟨_, rfl, _, rfl, _, rfl, w8, q, rp, r, rfl, h7, hfit, hR4, fun H5 l pl xs s5 hpl5 hl5 nl hprp => ?_⟩
      have nls : l ≠ sp := (ne_of_none hsp4 nl).symm
      have hsp5 := s5 _ _ hsp4
      obtain ⟨hpl1, hpl2⟩ := hfit.2 pl hpl5
      refine ⟨l, rfl, ⟨_, SqL.of hl5⟩, for_list (xs := xs) (fun m σ H' => ∃ (st2 : List Nat) (v6 v7 : Option V), σ = [some (.ref a), some v, some (.ref rp), some (.ref sp), some (.str (w8s w8)), some (.ref q), v6, v7] ∧ SameBut sp H5 H' ∧ H' sp = some (.lst (vL st2)) ∧ st2.length = im.length ∧
          (∀ x, x ∉ r → fnm st2 x = fnm st x) ∧ ∀ (m' : Nat) (t : Addr) (x y : Nat), m' < m → xs[m']? = some (.ref t) → H5 t = some (.tup [vI x, vI y]) → fnm st2 x = y)
        ⟨st, _, _, rfl, (Same.refl _).but, hsp5, hst, fun _ _ => rfl, fun m' t x y h => absurd h (Nat.not_lt_zero _)⟩ (fun m σ H' _ ⟨_, _, _, _, s6, _⟩ => SqL.of (s6 _ _ nls hl5)) ?_ ?_⟩
      · rintro m x σ H6 hx ⟨st2, v6', v7', rfl, s6, hsp6, hst2, hout, hin⟩
        obtain ⟨t, j, x0, q0, y0, rfl, g2, g3, g4, g5⟩ := hprp.1 x (List.mem_of_getElem? hx)
        have nts : t ≠ sp := ne_of g5 hsp5 (by intro z; cases z)
        have hxr : x0 ∈ r := List.mem_of_getElem? g2
        have hxl : x0 < st2.length := by rw [hst2]; exact rlt x0 hxr
        refine ⟨t, _, rfl, SqT.of (s6 _ _ nts g5), rfl, _, _, rfl, _, _, rfl, rfl, ?_⟩
        refine ⟨_, rfl, _, rfl, _, rfl, sp, _, _, x0, rfl, rfl, hsp6, by rw [vL_length]; exact ixN_at hxl, ?_⟩
        refine ⟨st2.set x0 y0, _, _, rfl, s6.upd, by rw [upd_same, vL_set], by rw [List.length_set]; exact hst2, fun z hz => ?_, fun m' t' x y hm ht' h5' => ?_⟩
        · rw [fnm_set hxl, if_neg (fun e => hz (by rw [e]; exact hxr))]
          exact hout z hz
        · rw [fnm_set hxl]
          -- the pair of t'
          have pair : x = x0 → y = y0 := fun e => by
            obtain ⟨t2, j2, x2, q2, y2, k1, k2, k3, k4, k5⟩ := hprp.1 _ (List.mem_of_getElem? ht')
            cases k1
            rw [h5'] at k5
            have e5 := Option.some.inj k5
            injection e5 with e5
            injection e5 with e51 e52
            injection e52 with e52 _
            have ex : x = x2 := vI_inj e51
            have ey : y = y2 := vI_inj e52
            subst ex
            subst ey
            subst e
            have ej : j2 = j := by
              obtain ⟨a1, c1⟩ := List.getElem?_eq_some_iff.mp k2
              obtain ⟨a2, c2⟩ := List.getElem?_eq_some_iff.mp g2
              exact (List.getElem_inj rnd).mp (c1.trans c2.symm)
            subst ej
            rw [g3] at k3
            cases k3
            rw [g4] at k4
            exact (Option.some.inj k4).symm
          by_cases e : x = x0
          · rw [if_pos e, pair e]
          · rw [if_neg e]
            rcases Nat.lt_succ_iff_lt_or_eq.mp hm with hm | hm
            · exact hin m' t' x y hm ht' h5'
            · exfalso
              subst hm
              rw [hx] at ht'
              cases ht'
              rw [g5] at h5'
              have e5 := Option.some.inj h5'
              injection e5 with e5
              injection e5 with e51 e52
              exact e (vI_inj e51).symm
      · rintro σ H6 ⟨st2, v6', v7', rfl, s6, hsp6, hst2, hout, hin⟩
        have hH : SameBut sp H3 H6 := (s4.trans s5.but).trans s6
        refine ⟨st2, _, _, _, _, rfl, hH, hsp6, hst2, fun j g' hj hg' => ?_⟩
        rcases Nat.lt_succ_iff_lt_or_eq.mp hj with hj | hj
        · obtain ⟨sh', r', w', pl', d1, d2, d3, d4, d5⟩ := hD j g' hj hg'
          refine ⟨sh', r', w', pl', d1, d2, d3, d4, fun kk x hx => ?_⟩
          rw [hout x fun hxr => ?_]
          · exact d5 kk x hx
          · -- x in both groups
            have e1 : x ∈ g' := d3.mem_iff.mp (List.mem_of_getElem? hx)
            have e2 : x ∈ g := h4.mem_iff.mp hxr
            have e3 := GO.one (List.mem_of_getElem? hg') hgm e1 e2
            subst e3
            have gnd := flat_ndl id GO.nd GO.ne
            obtain ⟨a1, c1⟩ := List.getElem?_eq_some_iff.mp hg'
            obtain ⟨a2, c2⟩ := List.getElem?_eq_some_iff.mp h1
            have := (List.getElem_inj gnd).mp (c1.trans c2.symm)
            omega
        · subst hj
          rw [h1] at hg'
          cases hg'
          refine ⟨sh, r, w8, pl, h2, h3, h4, hpl5, fun kk x hx => ?_⟩
          have hkl : kk < pl.length := by rw [hpl1]; exact (List.getElem?_eq_some_iff.mp hx).1
          have hq2 := hpl2 pl[kk] (List.getElem_mem hkl)
          obtain ⟨t, g1, g2⟩ := hprp.2 kk x pl[kk] r[pl[kk]] hx (List.getElem?_eq_getElem hkl) (List.getElem?_eq_getElem hq2)
          obtain ⟨m', hm'⟩ := List.mem_iff_getElem?.mp g1
          have hml : m' < xs.length := (List.getElem?_eq_some_iff.mp hm').1
          rw [hin m' t x _ hml hm' g2]
          rw [List.getD_eq_getElem?_getD, List.getD_eq_getElem?_getD, List.getElem?_eq_getElem hkl]
          show r[pl[kk]] = (r[pl[kk]]?).getD 0
          rw [List.getElem?_eq_getElem hq2]
          rfl
    · rintro σ H4 ⟨st, v4, v5, v6, v7, rfl, s4, hsp4, hst, hD⟩
      rw [List.length_map, hbl] at hD
      refine ⟨_, rfl, k H4 sp st (((s2.trans s3).but.trans s4).same nsp0) nsp0 hsp4 hst ⟨gs, GO, fun g hg => ?_⟩⟩
      obtain ⟨j, hj⟩ := List.mem_iff_getElem?.mp hg
      obtain ⟨sh, r, w8, pl, d1, d2, d3, d4, d5⟩ := hD j g (List.getElem?_eq_some_iff.mp hj).1 hj
      exact ⟨sh, r, w8, pl, d1, d2, d4, d5⟩
theorem ok_repair {f C : Addr} {fd : FuncData} (F : FunD K "repair" "repair" (defArgs sRepair) (defBody sRepair) (defScope sRepair) [.non] [] f fd) (C1 : Cal P w K mg base 8 "repaired" ["image", "rules"] (spRepaired K C)) : FnOk P w K mg base CX0 9 f fd ["image", "rules"] (spRepaired K C) := by
  obtain ⟨f1, fd1, G1, hm1, kp1, b1⟩ := C1
  refine F.ok scRepair (fun vs H Q E h => ?_) (fun cdv A outer s H vs Q E hr h => ?_)
  · obtain ⟨a, v, im, rfl, _⟩ := h
    rfl
  · obtain ⟨a, v, im, rfl, hS, hG, hv, k⟩ := h
    refine ⟨_, PSs.nox (pss_one (ps_ret (pe_call G1 hr rfl hm1 kp1 b1 .nil pass0 (pa_cons (pv 0) (pa_cons (pv 1) pa_nil))))), ?_⟩
    exact ⟨_, rfl, _, rfl, a, v, im, rfl, hS, hG, hv, k⟩
end
end KW
end

section
set_option Elab.async false
set_option linter.all false
set_option maxRecDepth 100000
set_option maxHeartbeats 4000000
namespace KW
open PySem PySem.Spec PyProof.Rows L2 KR KM
abbrev sInteger : Stmt := top 31
abbrev sCell : Stmt := top 32
abbrev sStream : Stmt := top 33
abbrev sDraw : Stmt := top 34
abbrev sSize : Stmt := top 35
abbrev sOrder : Stmt := top 36
abbrev sLength : Stmt := top 37
abbrev sLSides : Stmt := top 38
abbrev nCell : List Str := ["_law_script", "_law_k", "_law_spare", "_law_cell_here"]
abbrev nStream : List Str := ["_law_script", "_law_k", "_law_cell_here", "_law_rest"]
abbrev nDraw : List Str := ["_law_stream_here", "_law_size_here", "_law_digit", "_law_first", "_law_second"]
abbrev nOrder : List Str := ["_law_stream_here", "_law_size_here", "_law_order_here", "_law_k", "_law_at", "_law_record"]
theorem scInteger : FnScope ["_law_value"] ["_law_value"] (defScope sInteger) := ⟨rfl, rfl, rfl, by decide +kernel, rfl, by decide +kernel, by decide +kernel⟩
theorem scCell : FnScope nCell ["_law_script", "_law_k"] (defScope sCell) := ⟨rfl, rfl, rfl, by decide +kernel, rfl, by decide +kernel, by decide +kernel⟩
theorem scStream : FnScope nStream ["_law_script", "_law_k"] (defScope sStream) := ⟨rfl, rfl, rfl, by decide +kernel, rfl, by decide +kernel, by decide +kernel⟩
theorem scDraw : FnScope nDraw ["_law_stream_here", "_law_size_here"] (defScope sDraw) := ⟨rfl, rfl, rfl, by decide +kernel, rfl, by decide +kernel, by decide +kernel⟩
theorem scSize : FnScope ["_law_stream_here", "_law_way"] ["_law_stream_here"] (defScope sSize) := ⟨rfl, rfl, rfl, by decide +kernel, rfl, by decide +kernel, by decide +kernel⟩
theorem scOrder : FnScope nOrder ["_law_stream_here", "_law_size_here"] (defScope sOrder) := ⟨rfl, rfl, rfl, by decide +kernel, rfl, by decide +kernel, by decide +kernel⟩
theorem scLength : FnScope ["_law_word"] ["_law_word"] (defScope sLength) := ⟨rfl, rfl, rfl, by decide +kernel, rfl, by decide +kernel, by decide +kernel⟩
theorem scLSides : FnScope ["_law_word", "_law_p"] ["_law_word", "_law_p"] (defScope sLSides) := ⟨rfl, rfl, rfl, by decide +kernel, rfl, by decide +kernel, by decide +kernel⟩
def spInteger : Sp := fun vs H Q _ => ∃ i : Int, vs = [.int i] ∧ Q (.bl true) H
def spCell (K : PySem.W.Frag) : Sp := fun vs H Q _ => ∃ (a : Addr) (ns : List Int) (k : Nat), vs = [.ref a, .int k] ∧ SqL K H a (ns.map V.int) ∧ ∀ i, Q (.int i) H
def StreamAt (H : Hp) (p : Addr) : Prop := ∃ r s c : Int, H p = some (.lst [.int r, .int s, .int c])
theorem StreamAt.same {H H' : Hp} {p : Addr} (h : StreamAt H p) (s : Same H H') : StreamAt H' p := let ⟨r, t, c, h⟩ := h; ⟨r, t, c, s _ _ h⟩
def spStream (K : PySem.W.Frag) : Sp := fun vs H Q _ => ∃ (a : Addr) (ns : List Int) (k : Nat), vs = [.ref a, .int k] ∧ SqL K H a (ns.map V.int) ∧ ∀ p H', Same H H' → H p = none → StreamAt H' p → Q (.ref p) H'
def spDraw : Sp := fun vs H Q _ => ∃ (p : Addr) (n : Int), vs = [.ref p, .int n] ∧ StreamAt H p ∧ 0 < n ∧ n < 1073741824 ∧ ∀ (d : Nat) H', (d : Int) < n → StreamAt H' p → SameBut p H H' → Q (.int (d : Nat)) H'
def spSize : Sp := fun vs H Q _ => ∃ p : Addr, vs = [.ref p] ∧ StreamAt H p ∧ ∀ (n : Nat) H', n ≤ 64 → StreamAt H' p → SameBut p H H' → Q (.int (n : Nat)) H'
def spOrder : Sp := fun vs H Q _ => ∃ (p : Addr) (n : Nat), vs = [.ref p, .int (n : Nat)] ∧ StreamAt H p ∧ n ≤ 64 ∧ ∀ (q : Addr) (ord : List Nat) H', ord.Perm (List.range n) → H q = none → q ≠ p → H' q = some (.lst (vL ord)) → StreamAt H' p → SameBut p H H' → Q (.ref q) H'
def bws : BW → Str
  | .free => "free"
  | .pair => "pair"
  | .tie => "tie"
  | .move => "move"
  | .cross => "cross"
def spLength : Sp := fun vs H Q _ => ∃ b : BW, vs = [.str (bws b)] ∧ ∀ H', Same H H' → Q (.int (b.len : Nat)) H'
def spLSides (K : PySem.W.Frag) : Sp := fun vs H Q _ => ∃ (b : BW) (a : Addr) (p : List Nat), vs = [.str (bws b), .ref a] ∧ SqL K H a (vL p) ∧ p.length = b.len ∧
  ∀ q l0 l1 H', Same H H' → H' q = some (.lst [.ref l0, .ref l1]) → H' l0 = some (.lst (vL ((b.side false).map (fnm p)))) → H' l1 = some (.lst (vL ((b.side true).map (fnm p)))) → H l0 = none → H l1 = none → H q = none → Q (.ref q) H'
theorem int_get {ns : List Int} {i : Nat} {v : V} (h : (ns.map V.int)[i]? = some v) : ∃ z, v = .int z := by
  rw [List.getElem?_map] at h
  cases e : ns[i]? with
  | none => rw [e] at h; cases h
  | some z => rw [e] at h; exact ⟨z, (Option.some.inj h).symm⟩
section
variable {P : Program} {w : World} {K : PySem.W.Frag} {mg : Str → Option Value} {base : Heap}
theorem ok_integer {f : Addr} {fd : FuncData} (F : Fun K "_law_integer" "_law_integer" sInteger f fd) (B : Bn mg) : FnOk P w K mg base CX0 1 f fd ["_law_value"] spInteger := by
  refine F.ok scInteger (fun vs H Q E h => ?_) (fun cdv A outer s H vs Q E hr h => ?_)
  · obtain ⟨i, rfl, _⟩ := h
    rfl
  · obtain ⟨i, rfl, k⟩ := h
    refine ⟨_, pss_one (ps_ret (pe_and (pe_callB call_isi (by rfl) B.isinstance boot_isinstance (pa_cons (pv 0) (pa_cons (pe_bltn (v := .ty "int") (by rfl) B.int boot_int rfl) pa_nil)))
      (pe_one (pe_not (pe_callB call_isi (by rfl) B.isinstance boot_isinstance (pa_cons (pv 0) (pa_cons (pe_bltn (v := .ty "bool") (by rfl) B.bool boot_bool rfl) pa_nil))))))), ?_⟩
    refine ⟨_, rfl, _, _, _, _, true, rfl, ClsV.ty _, .base (.int i), kit_ty (by decide +kernel), true, rfl, iteT ?_⟩
    exact ⟨_, rfl, _, _, _, _, false, rfl, ClsV.ty _, .base (.int i), kit_ty (by decide +kernel), false, rfl, k⟩
theorem ok_cell {f : Addr} {fd : FuncData} (F : Fun K "_law_cell" "_law_cell" sCell f fd) (B : Bn mg) : FnOk P w K mg base CX0 1 f fd ["_law_script", "_law_k"] (spCell K) := by
  refine F.ok scCell (fun vs H Q E h => ?_) (fun cdv A outer s H vs Q E hr h => ?_)
  · obtain ⟨a, ns, kk, rfl, _⟩ := h
    rfl
  · obtain ⟨a, ns, kk, rfl, hS, k⟩ := h
    refine ⟨_, pss_cons (ps_if (pt_cmpR op_lt (pv 1) (pe_callB call_len_seq (by rfl) B.len PySem.boot_len (pa_cons (pv 0) pa_nil)) (nomark _)) (pss_one (ps_ret (pe_callTy call_int1 (by rfl) B.int boot_int (pa_cons (pe_ix ix_list (pv 0) (pv 1) (fun _ _ => rfl)) pa_nil)))) pss_nil)
      (pss_cons (ps_set (i := 2) scCell.nd rfl (.inl rfl) pe_int)
      (pss_cons (ps_for PassesOwn.never rfl (pi_list (pv 0)) (pg_name (i := 3) scCell.nd rfl (.inl rfl))
        (pss_one (ps_set (i := 2) scCell.nd rfl (.inl rfl) (pe_op op_mod (pe_callTy call_int1 (by rfl) B.int boot_int (pa_cons (pe_op op_add (pe_op op_mul (pv 2) pe_int) (pe_callTy call_int1 (by rfl) B.int boot_int (pa_cons (pv 3) pa_nil))) pa_nil)) pe_int))))
      (pss_one (ps_ret (pe_op op_add (pe_op op_add (pe_op op_mul (pv 2) pe_int) (pe_op op_mul (pv 1) pe_int)) pe_int))))), ?_⟩
    refine ⟨_, rfl, _, rfl, a, _, rfl, .inl hS, _, _, rfl, rfl, _, rfl, ?_⟩
    refine ite2 (fun c => ?_) (fun c => ?_)
    · have hk : kk < (ns.map V.int).length := by
        have := of_decide_eq_true c
        omega
      obtain ⟨z, hz⟩ := int_get (List.getElem?_eq_getElem hk)
      exact ⟨_, rfl, _, rfl, a, _, _, _, rfl, rfl, hS, atI_nat (List.getElem?_eq_getElem hk), .inl ⟨z, by rw [hz], k z⟩⟩
    · refine ⟨_, rfl, a, rfl, ⟨_, hS⟩, for_list (xs := ns.map V.int) (fun i σ H' => ∃ (sp : Int) (v3 : Option V), σ = [some (.ref a), some (.int kk), some (.int sp), v3] ∧ H' = H) ⟨0, none, rfl, rfl⟩ (fun i σ H' _ ⟨_, _, _, e⟩ => by rw [e]; exact hS) ?_ ?_⟩
      · rintro i x σ H' hx ⟨sp, v3, rfl, rfl⟩
        obtain ⟨z, rfl⟩ := int_get hx
        refine ⟨_, rfl, _, _, rfl, rfl, .inr ⟨by decide, by decide⟩, _, rfl, .inl ⟨_, rfl, _, _, rfl, rfl, .inl ⟨_, rfl, _, _, rfl, rfl, (by show (0 : Int) < 1000003; decide), ?_⟩⟩⟩
        exact ⟨_, _, rfl, rfl⟩
      · rintro σ H' ⟨sp, v3, rfl, rfl⟩
        exact ⟨_, rfl, _, _, rfl, rfl, .inr ⟨by decide, by decide⟩, _, rfl, _, _, rfl, rfl, .inr ⟨by decide, by decide⟩, _, _, rfl, rfl, _, _, rfl, rfl, k _⟩
theorem ok_stream {f : Addr} {fd : FuncData} (F : Fun K "_law_stream" "_law_stream" sStream f fd) (B : Bn mg) (C1 : Cal P w K mg base 1 "_law_cell" ["_law_script", "_law_k"] (spCell K)) : FnOk P w K mg base CX0 2 f fd ["_law_script", "_law_k"] (spStream K) := by
  obtain ⟨f1, fd1, G1, hm1, kp1, b1⟩ := C1
  refine F.ok scStream (fun vs H Q E h => ?_) (fun cdv A outer s H vs Q E hr h => ?_)
  · obtain ⟨a, ns, kk, rfl, _⟩ := h
    rfl
  · obtain ⟨a, ns, kk, rfl, hS, k⟩ := h
    refine ⟨_, pss_cons (ps_set (i := 2) scStream.nd rfl (.inl rfl) (pe_call G1 hr rfl hm1 kp1 b1 .nil pass0 (pa_cons (pv 0) (pa_cons (pv 1) pa_nil))))
      (pss_cons (ps_set (i := 3) scStream.nd rfl (.inl rfl) pe_int)
      (pss_cons (ps_if (pt_cmpR op_ge (pv 2) (pe_op op_pow pe_int pe_int) (nomark _)) (pss_one (ps_set (i := 3) scStream.nd rfl (.inl rfl) (pv 2))) pss_nil)
      (pss_one (ps_ret (pe_lst (pa_cons (pv 3) (pa_cons (pe_op op_mod (pe_callTy call_int1 (by rfl) B.int boot_int (pa_cons (pv 2) pa_nil)) pe_int) (pa_cons pe_int pa_nil)))))))), ?_⟩
    refine ⟨_, rfl, _, rfl, a, ns, kk, rfl, hS, fun z => ?_⟩
    refine ⟨_, rfl, _, _, rfl, rfl, ⟨by decide, by decide, by decide⟩, _, _, rfl, rfl, _, rfl, ?_⟩
    refine ite2 (fun c => ?_) (fun c => ?_)
    · exact ⟨_, rfl, _, rfl, _, rfl, .inl ⟨_, rfl, _, _, rfl, rfl, (by show (0 : Int) < 2147483647; decide), (by show 3 ≤ sizeLine; decide), fun p np => k p _ (same_upd np) np ⟨_, _, _, upd_same⟩⟩⟩
    · exact ⟨_, rfl, _, rfl, .inl ⟨_, rfl, _, _, rfl, rfl, (by show (0 : Int) < 2147483647; decide), (by show 3 ≤ sizeLine; decide), fun p np => k p _ (same_upd np) np ⟨_, _, _, upd_same⟩⟩⟩
theorem ok_draw {f : Addr} {fd : FuncData} (F : Fun K "_law_draw" "_law_draw" sDraw f fd) (B : Bn mg) : FnOk P w K mg base CX0 1 f fd ["_law_stream_here", "_law_size_here"] spDraw := by
  refine F.ok scDraw (fun vs H Q E h => ?_) (fun cdv A outer s H vs Q E hr h => ?_)
  · obtain ⟨p, n, rfl, _⟩ := h
    rfl
  · obtain ⟨p, n, rfl, ⟨r, sd, c, hp⟩, h0, hn, k⟩ := h
    refine ⟨_, pss_cons (ps_if (pt_cmpR op_gt (pe_ix ix_list (pv 0) pe_int (fun _ _ => rfl)) pe_int (nomark _))
        (pss_cons (ps_set (i := 2) scDraw.nd rfl (.inl rfl) (pe_op op_mod (pe_callTy call_int1 (by rfl) B.int boot_int (pa_cons (pe_ix ix_list (pv 0) pe_int (fun _ _ => rfl)) pa_nil)) (pv 1)))
        (pss_cons (ps_asg (pe_op op_fdiv (pe_callTy call_int1 (by rfl) B.int boot_int (pa_cons (pe_ix ix_list (pv 0) pe_int (fun _ _ => rfl)) pa_nil)) (pv 1)) (pg_sub (pv 0) pe_int set_list))
        (pss_one (ps_ret (pv 2))))) pss_nil)
      (pss_cons (ps_asg (pe_op op_add (pe_ix ix_list (pv 0) pe_int (fun _ _ => rfl)) pe_int) (pg_sub (pv 0) pe_int set_list))
      (pss_cons (ps_set (i := 3) scDraw.nd rfl (.inl rfl) (pe_op op_mod (pe_callTy call_int1 (by rfl) B.int boot_int (pa_cons (pe_op op_add (pe_op op_add (pe_op op_mul (pe_ix ix_list (pv 0) pe_int (fun _ _ => rfl)) pe_int) (pe_op op_mul (pe_ix ix_list (pv 0) pe_int (fun _ _ => rfl)) pe_int)) pe_int) pa_nil)) pe_int))
      (pss_cons (ps_set (i := 4) scDraw.nd rfl (.inl rfl) (pe_op op_mod (pe_callTy call_int1 (by rfl) B.int boot_int (pa_cons (pe_op op_add (pe_op op_add (pe_op op_mul (pv 3) (pv 3)) (pe_op op_mul (pe_ix ix_list (pv 0) pe_int (fun _ _ => rfl)) pe_int)) (pe_op op_fdiv (pv 3) pe_int)) pa_nil)) pe_int))
      (pss_one (ps_ret (pe_op op_mod (pe_callTy call_int1 (by rfl) B.int boot_int (pa_cons (pe_op op_fdiv (pv 4) pe_int) pa_nil)) (pv 1))))))), ?_⟩
    have fin : ∀ (z : Int) (H' : Hp), StreamAt H' p → SameBut p H H' → Q (.int (z % n)) H' := fun z H' hs sb => by
      have h1 : 0 ≤ z % n := Int.emod_nonneg _ (by omega)
      have h2 : z % n < n := Int.emod_lt_of_pos _ h0
      have := k (z % n).toNat H' (by omega) hs sb
      rwa [Int.toNat_of_nonneg h1] at this
    refine ⟨_, rfl, p, _, _, _, rfl, rfl, SqL.of hp, at_of (j := 0) rfl rfl, _, _, rfl, rfl, _, rfl, ?_⟩
    refine ite2 (fun c1 => ?_) (fun c1 => ?_)
    · refine ⟨_, rfl, p, _, _, _, rfl, rfl, SqL.of hp, at_of (j := 0) rfl rfl, .inl ⟨_, rfl, _, rfl, _, _, rfl, rfl, h0, ?_⟩⟩
      refine ⟨_, rfl, p, _, _, _, rfl, rfl, SqL.of hp, at_of (j := 0) rfl rfl, .inl ⟨_, rfl, _, rfl, _, _, rfl, rfl, ⟨h0, hn⟩, ?_⟩⟩
      refine ⟨_, rfl, p, _, _, 0, rfl, rfl, hp, rfl, ?_⟩
      exact ⟨_, rfl, fin _ _ ⟨_, _, _, upd_same⟩ (SameBut.upd (Same.refl H).but)⟩
    · refine ⟨_, rfl, p, _, _, _, rfl, rfl, SqL.of hp, at_of (j := 2) rfl rfl, _, _, rfl, rfl, ?_⟩
      refine ⟨_, rfl, p, _, _, 2, rfl, rfl, hp, rfl, ?_⟩
      have hp2 : (upd H p (.lst ([V.int r, V.int sd, V.int c].set 2 (V.int (c + 1))))) p = some (.lst [V.int r, V.int sd, V.int (c + 1)]) := upd_same
      have sb : SameBut p H (upd H p (.lst ([V.int r, V.int sd, V.int c].set 2 (V.int (c + 1))))) := SameBut.upd (Same.refl H).but
      generalize upd H p (.lst ([V.int r, V.int sd, V.int c].set 2 (V.int (c + 1)))) = H2 at hp2 sb
      -- first
      refine ⟨_, rfl, p, _, _, _, rfl, rfl, SqL.of hp2, at_of (j := 1) rfl rfl, _, _, rfl, rfl, .inr ⟨by decide, by decide⟩, ?_⟩
      refine ⟨_, rfl, p, _, _, _, rfl, rfl, SqL.of hp2, at_of (j := 2) rfl rfl, _, _, rfl, rfl, .inr ⟨by decide, by decide⟩, _, _, rfl, rfl, _, _, rfl, rfl, .inl ⟨_, rfl, _, _, rfl, rfl, (by show (0 : Int) < 2147483647; decide), ?_⟩⟩
      generalize sd * 48271 + (c + 1) * 69621 + 12345 = z1
      have b1 : 0 ≤ z1 % 2147483647 := Int.emod_nonneg _ (by decide)
      have b2 : z1 % 2147483647 < 2147483647 := Int.emod_lt_of_pos _ (by decide)
      generalize z1 % 2147483647 = z2 at b1 b2
      -- second
      refine ⟨_, rfl, _, rfl, _, _, rfl, rfl, .inl ⟨by omega, by omega⟩, ?_⟩
      refine ⟨_, rfl, p, _, _, _, rfl, rfl, SqL.of hp2, at_of (j := 2) rfl rfl, _, _, rfl, rfl, .inr ⟨by decide, by decide⟩, _, _, rfl, rfl, ?_⟩
      refine ⟨_, rfl, _, _, rfl, rfl, ⟨by decide, by decide⟩, _, _, rfl, rfl, .inl ⟨_, rfl, _, _, rfl, rfl, (by show (0 : Int) < 2147483629; decide), ?_⟩⟩
      refine ⟨_, rfl, _, _, rfl, rfl, ⟨by decide, by decide⟩, .inl ⟨_, rfl, _, rfl, _, _, rfl, rfl, h0, ?_⟩⟩
      exact fin _ _ ⟨_, _, _, hp2⟩ sb
theorem ok_size {f : Addr} {fd : FuncData} (F : Fun K "_law_size" "_law_size" sSize f fd) (C1 : Cal P w K mg base 1 "_law_draw" ["_law_stream_here", "_law_size_here"] spDraw) : FnOk P w K mg base CX0 2 f fd ["_law_stream_here"] spSize := by
  obtain ⟨f1, fd1, G1, hm1, kp1, b1⟩ := C1
  refine F.ok scSize (fun vs H Q E h => ?_) (fun cdv A outer s H vs Q E hr h => ?_)
  · obtain ⟨p, rfl, _⟩ := h
    rfl
  · obtain ⟨p, rfl, hp, k⟩ := h
    refine ⟨_, pss_cons (ps_set (i := 1) scSize.nd rfl (.inl rfl) (pe_call G1 hr rfl hm1 kp1 b1 .nil pass0 (pa_cons (pv 0) (pa_cons pe_int pa_nil))))
      (pss_cons (ps_if (pt_cmpR op_eq (pv 1) pe_int (nomark _)) (pss_one (ps_ret (pe_op op_add pe_int (pe_call G1 hr rfl hm1 kp1 b1 .nil pass0 (pa_cons (pv 0) (pa_cons pe_int pa_nil)))))) pss_nil)
      (pss_cons (ps_if (pt_cmpR op_eq (pv 1) pe_int (nomark _)) (pss_one (ps_ret (pe_call G1 hr rfl hm1 kp1 b1 .nil pass0 (pa_cons (pv 0) (pa_cons pe_int pa_nil))))) pss_nil)
      (pss_one (ps_ret (pe_op op_add pe_int (pe_call G1 hr rfl hm1 kp1 b1 .nil pass0 (pa_cons (pv 0) (pa_cons pe_int pa_nil)))))))), ?_⟩
    refine ⟨_, rfl, p, _, rfl, hp, by decide, by decide, fun d H1 _ hp1 s1 => ?_⟩
    refine ⟨_, rfl, rfl, _, rfl, ite2 (fun _ => ?_) (fun _ => ?_)⟩
    · refine ⟨_, rfl, p, _, rfl, hp1, by decide, by decide, fun d2 H2 hd hp2 s2 => ?_⟩
      refine ⟨_, _, rfl, rfl, ?_⟩
      exact k (13 + d2) H2 (by omega) hp2 (s1.trans s2)
    refine ⟨_, rfl, rfl, _, rfl, ite2 (fun _ => ?_) (fun _ => ?_)⟩
    · exact ⟨_, rfl, p, _, rfl, hp1, by decide, by decide, fun d2 H2 hd hp2 s2 => k d2 H2 (by omega) hp2 (s1.trans s2)⟩
    · refine ⟨_, rfl, p, _, rfl, hp1, by decide, by decide, fun d2 H2 hd hp2 s2 => ?_⟩
      refine ⟨_, _, rfl, rfl, ?_⟩
      exact k (3 + d2) H2 (by omega) hp2 (s1.trans s2)
end
end KW
end

section
set_option Elab.async false
set_option linter.all false
set_option maxRecDepth 100000
set_option maxHeartbeats 4000000
namespace KW
open PySem PySem.Spec PyProof.Rows L2 KR KM
theorem SameBut.put {p q : Addr} {H H' : Hp} {o : HO} (h : SameBut p H H') (n : H q = none) : SameBut p H (L2.upd H' q o) := fun b x nb e => by
  rw [L2.upd_ne (ne_of_none e n)]
  exact h b x nb e
theorem ixN_nat' {n j : Nat} (hj : j < n) : ixN n (j : Int) = some j := by
  unfold ixN
  rw [if_pos (by omega), if_pos (by omega)]
  simp
theorem rgV_range (n : Nat) : rgV 0 ((n : Nat) : Int) = vL (List.range n) := by
  unfold rgV vL
  rw [show (((n : Nat) : Int) - 0).toNat = n by omega]
  refine List.map_congr_left fun i _ => ?_
  show V.int (0 + (i : Nat)) = V.int (i : Nat)
  rw [Int.zero_add]
section
variable {P : Program} {w : World} {K : PySem.W.Frag} {mg : Str → Option Value} {base : Heap}
theorem ok_order {f : Addr} {fd : FuncData} (F : Fun K "_law_order" "_law_order" sOrder f fd) (B : Bn mg) (C1 : Cal P w K mg base 1 "_law_draw" ["_law_stream_here", "_law_size_here"] spDraw) : FnOk P w K mg base CX0 2 f fd ["_law_stream_here", "_law_size_here"] spOrder := by
  obtain ⟨f1, fd1, G1, hm1, kp1, b1⟩ := C1
  refine F.ok scOrder (fun vs H Q E h => ?_) (fun cdv A outer s H vs Q E hr h => ?_)
  · obtain ⟨p, n, rfl, _⟩ := h
    rfl
  · obtain ⟨p, n, rfl, hp, hn, k⟩ := h
    refine ⟨_, pss_cons (ps_set (i := 2) scOrder.nd rfl (.inl rfl) (pe_listRg rfl (by rfl) B.list (prg_1 (by rfl) B.range (pv 1))))
      (pss_cons (ps_for PassesOwn.never rfl (pi_range1 (by rfl) B.range (pa_cons (pe_op op_sub (pv 1) pe_int) pa_nil)) (pg_name (i := 3) scOrder.nd rfl (.inl rfl))
        (pss_cons (ps_set (i := 4) scOrder.nd rfl (.inl rfl) (pe_op op_add (pv 3) (pe_call G1 hr rfl hm1 kp1 b1 .nil pass0 (pa_cons (pv 0) (pa_cons (pe_op op_sub (pv 1) (pv 3)) pa_nil)))))
        (pss_cons (ps_set (i := 5) scOrder.nd rfl (.inl rfl) (pe_ix ix_list (pv 2) (pv 3) (fun _ _ => rfl)))
        (pss_cons (ps_asg (pe_ix ix_list (pv 2) (pv 4) (fun _ _ => rfl)) (pg_sub (pv 2) (pv 3) set_list))
        (pss_one (ps_asg (pv 5) (pg_sub (pv 2) (pv 4) set_list)))))))
      (pss_one (ps_ret (pv 2)))), ?_⟩
    refine ⟨_, rfl, _, rfl, RgOk.of_le (by omega) (by omega) (by omega) (by omega), fun q nq => ?_⟩
    have hqp : q ≠ p := by
      obtain ⟨r, t, c, h⟩ := hp
      exact (ne_of_none h nq).symm
    rw [rgV_range]
    refine ⟨_, rfl, _, _, rfl, rfl, _, rfl, by omega, by omega, for_range (fun i σ H' => ∃ (ord : List Nat) (v3 v4 v5 : Option V), σ = [some (.ref p), some (.int (n : Nat)), some (.ref q), v3, v4, v5] ∧ SameBut p H H' ∧ H' q = some (.lst (vL ord)) ∧ ord.Perm (List.range n) ∧ StreamAt H' p)
      ⟨_, none, none, none, rfl, (Same.refl H).but.put nq, upd_same, List.Perm.refl _, hp.same (same_upd nq)⟩ ?_ ?_⟩
    · rintro i σ H1 hi ⟨ord, v3, v4, v5, rfl, s1, hq, hperm, hp1⟩
      have hol : ord.length = n := by rw [hperm.length_eq, List.length_range]
      have hin : i < n := by omega
      refine ⟨_, rfl, _, rfl, _, rfl, _, rfl, _, _, rfl, rfl, p, _, rfl, hp1, by omega, by omega, fun d H2 hd hp2 s2 => ?_⟩
      have hq2 := s2 _ _ hqp hq
      rw [Int.zero_add] at hd
      have hat : i + d < ord.length := by omega
      have hii : i < ord.length := by omega
      have ei : (0 : Int) + ((i : Nat) : Int) = ((i : Nat) : Int) := Int.zero_add _
      refine ⟨_, _, rfl, rfl, ?_⟩
      refine ⟨_, rfl, _, rfl, q, _, _, _, rfl, rfl, SqL.of hq2, at_of ei (vL_get (List.getElem?_eq_getElem hii)), ?_⟩
      have ea : (0 : Int) + ((i : Nat) : Int) + ((d : Nat) : Int) = ((i + d : Nat) : Int) := by omega
      refine ⟨_, rfl, _, rfl, q, _, _, _, rfl, rfl, SqL.of hq2, at_of ea (vL_get (List.getElem?_eq_getElem hat)), ?_⟩
      refine ⟨_, rfl, _, rfl, q, _, _, i, rfl, rfl, hq2, by rw [ei, vL_length]; exact ixN_nat' hii, ?_⟩
      refine ⟨_, rfl, _, rfl, _, rfl, q, _, _, i + d, rfl, rfl, upd_same, by rw [ea, List.length_set, vL_length]; exact ixN_nat' hat, ?_⟩
      refine ⟨(ord.set i ord[i + d]).set (i + d) ord[i], _, _, _, rfl, ((s1.trans s2).put nq).put nq, ?_, ?_, ?_⟩
      · rw [upd_same, vL_set, vL_set]
      · exact (List.set_set_perm hii hat).trans hperm
      · obtain ⟨r, t, c, h⟩ := hp2
        exact ⟨r, t, c, by rw [upd_ne hqp.symm, upd_ne hqp.symm]; exact h⟩
    · rintro σ H1 ⟨ord, v3, v4, v5, rfl, s1, hq, hperm, hp1⟩
      exact ⟨_, rfl, k q ord H1 hperm nq hqp hq hp1 s1⟩
theorem bw_free {b : BW} (c : decide (V.str (bws b) = V.str ("free" : Str)) = true) : b = .free := by cases b <;> first | rfl | exact absurd c (by decide +kernel)
theorem bw_two {b : BW} (c : inV (.str (bws b)) [.str ("pair" : Str), .str ("tie" : Str)] = true) : b = .pair ∨ b = .tie := by cases b <;> first | exact .inl rfl | exact .inr rfl | exact absurd c (by decide +kernel)
theorem bw_move {b : BW} (c : decide (V.str (bws b) = V.str ("move" : Str)) = true) : b = .move := by cases b <;> first | rfl | exact absurd c (by decide +kernel)
theorem ok_length {f : Addr} {fd : FuncData} (F : Fun K "_law_length" "_law_length" sLength f fd) : FnOk P w K mg base CX0 1 f fd ["_law_word"] spLength := by
  refine F.ok scLength (fun vs H Q E h => ?_) (fun cdv A outer s H vs Q E hr h => ?_)
  · obtain ⟨b, rfl, _⟩ := h
    rfl
  · obtain ⟨b, rfl, k⟩ := h
    refine ⟨_, pss_cons (ps_if (pt_cmpR op_eq (pv 0) pe_str (nomark _)) (pss_one (ps_ret pe_int)) pss_nil)
      (pss_cons (ps_if (pt_cmpR op_in_seq (pv 0) (pe_tup (pa_cons pe_str (pa_cons pe_str pa_nil))) (by rfl)) (pss_one (ps_ret pe_int)) pss_nil)
      (pss_cons (ps_if (pt_cmpR op_eq (pv 0) pe_str (nomark _)) (pss_one (ps_ret pe_int)) pss_nil)
      (pss_one (ps_ret pe_int)))), ?_⟩
    refine ⟨_, rfl, rfl, _, rfl, ite2 (fun c => ?_) (fun c1 => ?_)⟩
    · rw [bw_free c] at k
      exact k H (Same.refl H)
    refine ⟨_, rfl, (by show 2 ≤ sizeLine; decide), fun T nT => ?_⟩
    refine ⟨T, _, rfl, .inr (SqT.of upd_same), rfl, rfl, _, rfl, ite2 (fun c => ?_) (fun c2 => ?_)⟩
    · rcases bw_two (b := b) c with e | e
      · rw [e] at k
        exact k _ (same_upd nT)
      · rw [e] at k
        exact k _ (same_upd nT)
    refine ⟨_, rfl, rfl, _, rfl, ite2 (fun c => ?_) (fun c3 => ?_)⟩
    · rw [bw_move c] at k
      exact k _ (same_upd nT)
    · have : b = .cross := by
        cases b with
        | free => exact absurd (decide_eq_true rfl) c1
        | pair => exact absurd (by decide +kernel : inV (.str (bws .pair)) [.str ("pair" : Str), .str ("tie" : Str)] = true) c2
        | tie => exact absurd (by decide +kernel : inV (.str (bws .tie)) [.str ("pair" : Str), .str ("tie" : Str)] = true) c2
        | move => exact absurd (decide_eq_true rfl) c3
        | cross => rfl
      rw [this] at k
      exact k _ (same_upd nT)
theorem ok_lsides {f : Addr} {fd : FuncData} (F : Fun K "_law_sides" "_law_sides" sLSides f fd) : FnOk P w K mg base CX0 1 f fd ["_law_word", "_law_p"] (spLSides K) := by
  refine F.ok scLSides (fun vs H Q E h => ?_) (fun cdv A outer s H vs Q E hr h => ?_)
  · obtain ⟨b, a, p, rfl, _⟩ := h
    rfl
  · obtain ⟨b, a, p, rfl, hS, hl, k⟩ := h
    refine ⟨_, pss_cons (ps_if (pt_cmpR op_eq (pv 0) pe_str (nomark _)) (pss_one (ps_ret (pe_lst (pa_cons (pe_lst (pa_cons (pe_ix ix_list (pv 1) pe_int (fun _ _ => rfl)) pa_nil)) (pa_cons (pe_lst (pa_cons (pe_ix ix_list (pv 1) pe_int (fun _ _ => rfl)) pa_nil)) pa_nil))))) pss_nil)
      (pss_cons (ps_if (pt_cmpR op_eq (pv 0) pe_str (nomark _)) (pss_one (ps_ret (pe_lst (pa_cons (pe_lst (pa_cons (pe_ix ix_list (pv 1) pe_int (fun _ _ => rfl)) (pa_cons (pe_ix ix_list (pv 1) pe_int (fun _ _ => rfl)) pa_nil))) (pa_cons (pe_lst (pa_cons (pe_ix ix_list (pv 1) pe_int (fun _ _ => rfl)) (pa_cons (pe_ix ix_list (pv 1) pe_int (fun _ _ => rfl)) pa_nil))) pa_nil))))) pss_nil)
      (pss_cons (ps_if (pt_cmpR op_eq (pv 0) pe_str (nomark _)) (pss_one (ps_ret (pe_lst (pa_cons (pe_lst (pa_cons (pe_ix ix_list (pv 1) pe_int (fun _ _ => rfl)) (pa_cons (pe_ix ix_list (pv 1) pe_int (fun _ _ => rfl)) pa_nil))) (pa_cons (pe_lst (pa_cons (pe_ix ix_list (pv 1) pe_int (fun _ _ => rfl)) (pa_cons (pe_ix ix_list (pv 1) pe_int (fun _ _ => rfl)) pa_nil))) pa_nil))))) pss_nil)
      (pss_cons (ps_if (pt_cmpR op_eq (pv 0) pe_str (nomark _)) (pss_one (ps_ret (pe_lst (pa_cons (pe_lst (pa_cons (pe_ix ix_list (pv 1) pe_int (fun _ _ => rfl)) (pa_cons (pe_ix ix_list (pv 1) pe_int (fun _ _ => rfl)) (pa_cons (pe_ix ix_list (pv 1) pe_int (fun _ _ => rfl)) pa_nil)))) (pa_cons (pe_lst (pa_cons (pe_ix ix_list (pv 1) pe_int (fun _ _ => rfl)) (pa_cons (pe_ix ix_list (pv 1) pe_int (fun _ _ => rfl)) (pa_cons (pe_ix ix_list (pv 1) pe_int (fun _ _ => rfl)) pa_nil)))) pa_nil))))) pss_nil)
      ((pss_one (ps_ret (pe_lst (pa_cons (pe_lst (pa_cons (pe_ix ix_list (pv 1) pe_int (fun _ _ => rfl)) (pa_cons (pe_ix ix_list (pv 1) pe_int (fun _ _ => rfl)) (pa_cons (pe_ix ix_list (pv 1) pe_int (fun _ _ => rfl)) (pa_cons (pe_ix ix_list (pv 1) pe_int (fun _ _ => rfl)) pa_nil))))) (pa_cons (pe_lst (pa_cons (pe_ix ix_list (pv 1) pe_int (fun _ _ => rfl)) (pa_cons (pe_ix ix_list (pv 1) pe_int (fun _ _ => rfl)) (pa_cons (pe_ix ix_list (pv 1) pe_int (fun _ _ => rfl)) (pa_cons (pe_ix ix_list (pv 1) pe_int (fun _ _ => rfl)) pa_nil))))) pa_nil))))))))), ?_⟩
    cases b with
    | free =>
      match p, hl, hS, k with
      | [p0], _, hS, k =>
        refine ⟨_, rfl, rfl, _, rfl, iteT ?_⟩
        refine ⟨_, rfl, a, _, _, _, rfl, rfl, hS, at_of (j := 0) rfl rfl, (by show 1 ≤ sizeLine; decide), fun l0 n0 => ?_⟩
        have s0 := same_upd (o := .lst (vL ((BW.side .free false).map (fnm [p0])))) n0
        refine ⟨_, rfl, a, _, _, _, rfl, rfl, (s0.seq hS), at_of (j := 0) rfl rfl, (by show 1 ≤ sizeLine; decide), fun l1 n1 => ?_⟩
        have s1 := same_upd (o := .lst (vL ((BW.side .free true).map (fnm [p0])))) n1
        refine ⟨(by show 2 ≤ sizeLine; decide), fun q nq => ?_⟩
        refine k q l0 l1 _ ((s0.trans s1).put ((s0.trans s1).free nq)) upd_same ?_ ?_ n0 (s0.free n1) ((s0.trans s1).free nq)
        · rw [upd_ne (ne_of_none (s1 _ _ upd_same) nq)]
          exact s1 _ _ upd_same
        · rw [upd_ne (ne_of_none upd_same nq)]
          exact upd_same
    | pair =>
      match p, hl, hS, k with
      | [p0, p1], _, hS, k =>
        refine ⟨_, rfl, rfl, _, rfl, ?_⟩
        rw [show decide (V.str (bws .pair) = V.str ("free" : Str)) = false from by decide +kernel]
        refine iteF ?_
        refine ⟨_, rfl, rfl, _, rfl, iteT ?_⟩
        refine ⟨_, rfl, a, _, _, _, rfl, rfl, hS, at_of (j := 1) rfl rfl, _, rfl, a, _, _, _, rfl, rfl, hS, at_of (j := 0) rfl rfl, (by show 2 ≤ sizeLine; decide), fun l0 n0 => ?_⟩
        have s0 := same_upd (o := .lst (vL ((BW.side .pair false).map (fnm [p0, p1])))) n0
        refine ⟨_, rfl, a, _, _, _, rfl, rfl, (s0.seq hS), at_of (j := 1) rfl rfl, _, rfl, a, _, _, _, rfl, rfl, (s0.seq hS), at_of (j := 0) rfl rfl, (by show 2 ≤ sizeLine; decide), fun l1 n1 => ?_⟩
        have s1 := same_upd (o := .lst (vL ((BW.side .pair true).map (fnm [p0, p1])))) n1
        refine ⟨(by show 2 ≤ sizeLine; decide), fun q nq => ?_⟩
        refine k q l0 l1 _ ((s0.trans s1).put ((s0.trans s1).free nq)) upd_same ?_ ?_ n0 (s0.free n1) ((s0.trans s1).free nq)
        · rw [upd_ne (ne_of_none (s1 _ _ upd_same) nq)]
          exact s1 _ _ upd_same
        · rw [upd_ne (ne_of_none upd_same nq)]
          exact upd_same
    | tie =>
      match p, hl, hS, k with
      | [p0, p1], _, hS, k =>
        refine ⟨_, rfl, rfl, _, rfl, ?_⟩
        rw [show decide (V.str (bws .tie) = V.str ("free" : Str)) = false from by decide +kernel]
        refine iteF ?_
        refine ⟨_, rfl, rfl, _, rfl, ?_⟩
        rw [show decide (V.str (bws .tie) = V.str ("pair" : Str)) = false from by decide +kernel]
        refine iteF ?_
        refine ⟨_, rfl, rfl, _, rfl, iteT ?_⟩
        refine ⟨_, rfl, a, _, _, _, rfl, rfl, hS, at_of (j := 0) rfl rfl, _, rfl, a, _, _, _, rfl, rfl, hS, at_of (j := 1) rfl rfl, (by show 2 ≤ sizeLine; decide), fun l0 n0 => ?_⟩
        have s0 := same_upd (o := .lst (vL ((BW.side .tie false).map (fnm [p0, p1])))) n0
        refine ⟨_, rfl, a, _, _, _, rfl, rfl, (s0.seq hS), at_of (j := 1) rfl rfl, _, rfl, a, _, _, _, rfl, rfl, (s0.seq hS), at_of (j := 0) rfl rfl, (by show 2 ≤ sizeLine; decide), fun l1 n1 => ?_⟩
        have s1 := same_upd (o := .lst (vL ((BW.side .tie true).map (fnm [p0, p1])))) n1
        refine ⟨(by show 2 ≤ sizeLine; decide), fun q nq => ?_⟩
        refine k q l0 l1 _ ((s0.trans s1).put ((s0.trans s1).free nq)) upd_same ?_ ?_ n0 (s0.free n1) ((s0.trans s1).free nq)
        · rw [upd_ne (ne_of_none (s1 _ _ upd_same) nq)]
          exact s1 _ _ upd_same
        · rw [upd_ne (ne_of_none upd_same nq)]
          exact upd_same
    | move =>
      match p, hl, hS, k with
      | [p0, p1, p2], _, hS, k =>
        refine ⟨_, rfl, rfl, _, rfl, ?_⟩
        rw [show decide (V.str (bws .move) = V.str ("free" : Str)) = false from by decide +kernel]
        refine iteF ?_
        refine ⟨_, rfl, rfl, _, rfl, ?_⟩
        rw [show decide (V.str (bws .move) = V.str ("pair" : Str)) = false from by decide +kernel]
        refine iteF ?_
        refine ⟨_, rfl, rfl, _, rfl, ?_⟩
        rw [show decide (V.str (bws .move) = V.str ("tie" : Str)) = false from by decide +kernel]
        refine iteF ?_
        refine ⟨_, rfl, rfl, _, rfl, iteT ?_⟩
        refine ⟨_, rfl, a, _, _, _, rfl, rfl, hS, at_of (j := 1) rfl rfl, _, rfl, a, _, _, _, rfl, rfl, hS, at_of (j := 0) rfl rfl, _, rfl, a, _, _, _, rfl, rfl, hS, at_of (j := 2) rfl rfl, (by show 3 ≤ sizeLine; decide), fun l0 n0 => ?_⟩
        have s0 := same_upd (o := .lst (vL ((BW.side .move false).map (fnm [p0, p1, p2])))) n0
        refine ⟨_, rfl, a, _, _, _, rfl, rfl, (s0.seq hS), at_of (j := 2) rfl rfl, _, rfl, a, _, _, _, rfl, rfl, (s0.seq hS), at_of (j := 1) rfl rfl, _, rfl, a, _, _, _, rfl, rfl, (s0.seq hS), at_of (j := 0) rfl rfl, (by show 3 ≤ sizeLine; decide), fun l1 n1 => ?_⟩
        have s1 := same_upd (o := .lst (vL ((BW.side .move true).map (fnm [p0, p1, p2])))) n1
        refine ⟨(by show 2 ≤ sizeLine; decide), fun q nq => ?_⟩
        refine k q l0 l1 _ ((s0.trans s1).put ((s0.trans s1).free nq)) upd_same ?_ ?_ n0 (s0.free n1) ((s0.trans s1).free nq)
        · rw [upd_ne (ne_of_none (s1 _ _ upd_same) nq)]
          exact s1 _ _ upd_same
        · rw [upd_ne (ne_of_none upd_same nq)]
          exact upd_same
    | cross =>
      match p, hl, hS, k with
      | [p0, p1, p2, p3], _, hS, k =>
        refine ⟨_, rfl, rfl, _, rfl, ?_⟩
        rw [show decide (V.str (bws .cross) = V.str ("free" : Str)) = false from by decide +kernel]
        refine iteF ?_
        refine ⟨_, rfl, rfl, _, rfl, ?_⟩
        rw [show decide (V.str (bws .cross) = V.str ("pair" : Str)) = false from by decide +kernel]
        refine iteF ?_
        refine ⟨_, rfl, rfl, _, rfl, ?_⟩
        rw [show decide (V.str (bws .cross) = V.str ("tie" : Str)) = false from by decide +kernel]
        refine iteF ?_
        refine ⟨_, rfl, rfl, _, rfl, ?_⟩
        rw [show decide (V.str (bws .cross) = V.str ("move" : Str)) = false from by decide +kernel]
        refine iteF ?_
        refine ⟨_, rfl, a, _, _, _, rfl, rfl, hS, at_of (j := 1) rfl rfl, _, rfl, a, _, _, _, rfl, rfl, hS, at_of (j := 0) rfl rfl, _, rfl, a, _, _, _, rfl, rfl, hS, at_of (j := 3) rfl rfl, _, rfl, a, _, _, _, rfl, rfl, hS, at_of (j := 2) rfl rfl, (by show 4 ≤ sizeLine; decide), fun l0 n0 => ?_⟩
        have s0 := same_upd (o := .lst (vL ((BW.side .cross false).map (fnm [p0, p1, p2, p3])))) n0
        refine ⟨_, rfl, a, _, _, _, rfl, rfl, (s0.seq hS), at_of (j := 3) rfl rfl, _, rfl, a, _, _, _, rfl, rfl, (s0.seq hS), at_of (j := 2) rfl rfl, _, rfl, a, _, _, _, rfl, rfl, (s0.seq hS), at_of (j := 1) rfl rfl, _, rfl, a, _, _, _, rfl, rfl, (s0.seq hS), at_of (j := 0) rfl rfl, (by show 4 ≤ sizeLine; decide), fun l1 n1 => ?_⟩
        have s1 := same_upd (o := .lst (vL ((BW.side .cross true).map (fnm [p0, p1, p2, p3])))) n1
        refine ⟨(by show 2 ≤ sizeLine; decide), fun q nq => ?_⟩
        refine k q l0 l1 _ ((s0.trans s1).put ((s0.trans s1).free nq)) upd_same ?_ ?_ n0 (s0.free n1) ((s0.trans s1).free nq)
        · rw [upd_ne (ne_of_none (s1 _ _ upd_same) nq)]
          exact s1 _ _ upd_same
        · rw [upd_ne (ne_of_none upd_same nq)]
          exact upd_same
end
end KW
end

section
/-! KWorldM: the world's blocks as they are laid, one after another. -/
set_option linter.all false
namespace KM
structure WInv (ord : List Nat) (at_ : Nat) (bs : List Blk) (Lb La : List Nat) : Prop where
  parts : (bs.map (·.p)).flatten = ord.take at_
  len : ∀ b ∈ bs, b.p.length = b.w.len
  bef : ∀ b ∈ bs, ∀ i, i < b.w.len → Lb.getD (b.p.getD i 0) 0 = b.p.getD ((b.w.side b.s).getD i 0) 0
  aft : ∀ b ∈ bs, ∀ i, i < b.w.len → La.getD (b.p.getD i 0) 0 = b.p.getD ((b.w.side !b.s).getD i 0) 0
theorem wstart (ord Lb La : List Nat) : WInv ord 0 [] Lb La := ⟨by simp, (fun b h => by cases h), (fun b h => by cases h), (fun b h => by cases h)⟩
theorem getD_mem {l : List Nat} {i : Nat} (h : i < l.length) : l.getD i 0 ∈ l := by
  rw [List.getD_eq_getElem?_getD, List.getElem?_eq_getElem h]
  exact List.getElem_mem h
theorem wstep {ord : List Nat} {at_ : Nat} {bs : List Blk} {Lb La Lb' La' : List Nat} (W : WInv ord at_ bs Lb La) (hn : ord.Nodup) (w : BW) (s : Bool) (part : List Nat) (hp : part = (ord.drop at_).take w.len) (hl : part.length = w.len)
    (ob : ∀ x, x ∉ part → Lb'.getD x 0 = Lb.getD x 0) (oa : ∀ x, x ∉ part → La'.getD x 0 = La.getD x 0)
    (nb : ∀ i, i < w.len → Lb'.getD (part.getD i 0) 0 = part.getD ((w.side s).getD i 0) 0) (na : ∀ i, i < w.len → La'.getD (part.getD i 0) 0 = part.getD ((w.side !s).getD i 0) 0) :
    WInv ord (at_ + w.len) (bs ++ [⟨w, s, part⟩]) Lb' La' := by
  have out : ∀ b ∈ bs, ∀ i, i < b.w.len → b.p.getD i 0 ∉ part := fun b hb i hi hm => by
    have h1 : b.p.getD i 0 ∈ ord.take at_ := by
      rw [← W.parts]
      exact List.mem_flatten.mpr ⟨b.p, List.mem_map_of_mem hb, getD_mem (by rw [W.len b hb]; exact hi)⟩
    have h2 : b.p.getD i 0 ∈ ord.drop at_ := by
      rw [hp] at hm
      exact List.mem_of_mem_take hm
    have h3 : (ord.take at_ ++ ord.drop at_).Nodup := by rw [List.take_append_drop]; exact hn
    exact (List.nodup_append.mp h3).2.2 _ h1 _ h2 rfl
  refine ⟨?_, fun b hb => ?_, fun b hb i hi => ?_, fun b hb i hi => ?_⟩
  · rw [List.map_append, List.flatten_append, W.parts]
    show ord.take at_ ++ ([part].flatten) = _
    rw [List.take_add, hp]
    simp
  · rcases List.mem_append.mp hb with hb | hb
    · exact W.len b hb
    · rw [List.mem_singleton.mp hb]; exact hl
  · rcases List.mem_append.mp hb with hb | hb
    · rw [ob _ (out b hb i hi)]; exact W.bef b hb i hi
    · rw [List.mem_singleton.mp hb] at hi ⊢; exact nb i hi
  · rcases List.mem_append.mp hb with hb | hb
    · rw [oa _ (out b hb i hi)]; exact W.aft b hb i hi
    · rw [List.mem_singleton.mp hb] at hi ⊢; exact na i hi
theorem wend {n : Nat} {ord : List Nat} {bs : List Blk} {Lb La : List Nat} (W : WInv ord n bs Lb La) (hp : ord.Perm (List.range n)) : WorldOk n bs (fun x => Lb.getD x 0) (fun x => La.getD x 0) where
  perm := by
    rw [W.parts, List.take_of_length_le (by rw [hp.length_eq, List.length_range]; exact Nat.le_refl _)]
    exact hp
  len := W.len
  bef := W.bef
  aft := W.aft
end KM
end

section
set_option Elab.async false
set_option linter.all false
set_option maxRecDepth 100000
set_option maxHeartbeats 8000000
namespace KW
open PySem PySem.Spec PyProof.Rows L2 KR KM
abbrev sWorld : Stmt := top 39
abbrev nWorld : List Str := ["_law_stream_here", "_law_size_here", "_law_order_here", "_law_before", "_law_after", "_law_writers", "_law_at", "_law_turn", "_law_words", "_law_word", "_law_side", "_law_part", "_law_names", "_law_k"]
theorem scWorld : FnScope nWorld ["_law_stream_here", "_law_size_here"] (defScope sWorld) := ⟨rfl, rfl, rfl, by decide +kernel, rfl, by decide +kernel, by decide +kernel⟩
def eight : List BW := [.free, .pair, .tie, .tie, .move, .move, .cross, .cross]
/-- what was is as it was, but at S -/
def Keep (S : List Addr) (H H' : Hp) : Prop := ∀ b o, b ∉ S → H b = some o → H' b = some o
theorem Keep.refl (S : List Addr) (H : Hp) : Keep S H H := fun _ _ _ e => e
theorem Keep.trans {S : List Addr} {H H1 H2 : Hp} (a : Keep S H H1) (b : Keep S H1 H2) : Keep S H H2 := fun c o n e => b c o n (a c o n e)
theorem Keep.same {S : List Addr} {H H' : Hp} (s : Same H H') : Keep S H H' := fun b o _ e => s b o e
theorem Keep.but {S : List Addr} {H H' : Hp} {p : Addr} (s : SameBut p H H') (h : p ∈ S) : Keep S H H' := fun b o n e => s b o (fun (z : b = p) => n (z ▸ h)) e
theorem Keep.upd {S : List Addr} {H H' : Hp} {p : Addr} {o : HO} (s : Keep S H H') (h : p ∈ S) : Keep S H (L2.upd H' p o) := fun b x n e => by
  rw [L2.upd_ne (fun (z : b = p) => n (z ▸ h))]
  exact s b x n e
theorem cut_part {ord : List Nat} {at_ len : Nat} (h : at_ + len ≤ ord.length) : cutV (vL ord) (some ((at_ : Nat) : Int)) (some (((at_ : Nat) : Int) + ((len : Nat) : Int))) = vL ((ord.drop at_).take len) := by
  unfold cutV
  rw [show ((at_ : Nat) : Int) + ((len : Nat) : Int) = ((at_ + len : Nat) : Int) by omega, HT.sIx_nat, HT.sIx_nat, vL_length, Nat.min_eq_left h, Nat.min_eq_left (show at_ ≤ ord.length by omega)]
  unfold vL
  rw [← List.map_drop, ← List.map_take, show at_ + len - at_ = len by omega]
/-- the writers' lists: the parts of the changes -/
def chg (bs : List Blk) : List (List Nat) := (bs.filter fun b => b.w.isChange).map (·.p)
structure WHeap (p q bq aq wq : Addr) (n : Nat) (H1 H' : Hp) (ord : List Nat) (at_ : Nat) (bs : List Blk) (Lb La : List Nat) (was : List Addr) : Prop where
  st : StreamAt H' p
  q : H' q = some (.lst (vL ord))
  b : H' bq = some (.lst (vL Lb))
  a : H' aq = some (.lst (vL La))
  w : H' wq = some (.lst (was.map V.ref))
  kp : Keep [p, bq, aq, wq] H1 H'
  bl : Lb.length = n
  al : La.length = n
  wi : WInv ord at_ bs Lb La
  ll : LL H' was (chg bs)
  fr : ∀ x ∈ was, H1 x = none
  wl : was.length ≤ at_
structure WDist (p q bq aq wq : Addr) (HC : Hp) : Prop where
  qp : q ≠ p
  bp : bq ≠ p
  ap : aq ≠ p
  wp : wq ≠ p
  qb : q ≠ bq
  qa : q ≠ aq
  qw : q ≠ wq
  ba : bq ≠ aq
  bw : bq ≠ wq
  aw : aq ≠ wq
  tp : ∃ o, HC p = some o
  tq : ∃ o, HC q = some o
  tb : ∃ o, HC bq = some o
  ta : ∃ o, HC aq = some o
  tw : ∃ o, HC wq = some o
theorem ne_new {H : Hp} {a x : Addr} (t : ∃ o, H a = some o) (n : H x = none) : x ≠ a := fun e => by
  obtain ⟨o, t⟩ := t
  rw [e, t] at n
  cases n
section
variable {p q bq aq wq : Addr} {n : Nat} {HC H' H2 : Hp} {ord : List Nat} {at_ : Nat} {bs : List Blk} {Lb La : List Nat} {was : List Addr}
theorem WHeap.same (W : WHeap p q bq aq wq n HC H' ord at_ bs Lb La was) (s : Same H' H2) : WHeap p q bq aq wq n HC H2 ord at_ bs Lb La was :=
  ⟨W.st.same s, s _ _ W.q, s _ _ W.b, s _ _ W.a, s _ _ W.w, W.kp.trans (Keep.same s), W.bl, W.al, W.wi, W.ll.same s, W.fr, W.wl⟩
theorem WHeap.draw (D : WDist p q bq aq wq HC) (W : WHeap p q bq aq wq n HC H' ord at_ bs Lb La was) (s : SameBut p H' H2) (hs : StreamAt H2 p) : WHeap p q bq aq wq n HC H2 ord at_ bs Lb La was :=
  ⟨hs, s _ _ D.qp W.q, s _ _ D.bp W.b, s _ _ D.ap W.a, s _ _ D.wp W.w, W.kp.trans (Keep.but s (by simp)), W.bl, W.al, W.wi, ⟨W.ll.1, fun j a e => by
    obtain ⟨g, h1, h2⟩ := W.ll.2 j a e
    exact ⟨g, h1, s _ _ (ne_new D.tp (W.fr a (List.mem_of_getElem? e))) h2⟩⟩, W.fr, W.wl⟩
/-- a new address -/
theorem WHeap.new (D : WDist p q bq aq wq HC) (W : WHeap p q bq aq wq n HC H' ord at_ bs Lb La was) {x : Addr} (h : H' x = none) : x ∉ [p, bq, aq, wq] ∧ HC x = none ∧ x ≠ q := by
  have n1 : x ≠ p := by
    obtain ⟨r, t, c, e⟩ := W.st
    exact (ne_of_none e h).symm
  have n2 : x ≠ bq := (ne_of_none W.b h).symm
  have n3 : x ≠ aq := (ne_of_none W.a h).symm
  have n4 : x ≠ wq := (ne_of_none W.w h).symm
  have nm : x ∉ [p, bq, aq, wq] := by simp [n1, n2, n3, n4]
  refine ⟨nm, ?_, (ne_of_none W.q h).symm⟩
  cases e : HC x with
  | none => rfl
  | some o =>
    rw [W.kp x o nm e] at h
    cases h
end
theorem side_len (b : BW) (s : Bool) : (b.side s).length = b.len := by cases b <;> cases s <;> rfl
theorem getD_set {l : List Nat} {x y z : Nat} (h : x < l.length) : (l.set x y).getD z 0 = if z = x then y else l.getD z 0 := by
  rw [List.getD_eq_getElem?_getD]
  by_cases e : z = x
  · rw [if_pos e, e, List.getElem?_set_self h]
    rfl
  · rw [if_neg e, List.getElem?_set_ne (Ne.symm e), List.getD_eq_getElem?_getD]
theorem side_at {b : BW} {s : Bool} {p : List Nat} {i : Nat} (h : i < b.len) : (vL ((b.side s).map (fnm p)))[i]? = some (vI (fnm p ((b.side s).getD i 0))) := by
  refine vL_get ?_
  have hl : i < (b.side s).length := by rw [side_len]; exact h
  rw [List.getElem?_map, List.getD_eq_getElem?_getD, List.getElem?_eq_getElem hl]
  rfl
def spWorld : Sp := fun vs H Q _ => ∃ (p : Addr) (n : Nat), vs = [.ref p, .int (n : Nat)] ∧ StreamAt H p ∧ n ≤ 64 ∧ ∀ (r b a wr : Addr) (was : List Addr) (Lb La : List Nat) (bs : List Blk) H',
  SameBut p H H' → StreamAt H' p → H' r = some (.lst [.ref b, .ref a, .ref wr]) → H' b = some (.lst (vL Lb)) → H' a = some (.lst (vL La)) → H' wr = some (.lst (was.map V.ref)) → LL H' was (chg bs) → Lb.length = n → La.length = n → was.length ≤ 64 →
  WorldOk n bs (fnm Lb) (fnm La) → Q (.ref r) H'
theorem whole_bw (b : BW) : inV (.str (bws b)) [.str ("free" : Str), .str ("pair" : Str)] = !b.isChange := by
  cases b <;> decide +kernel
section
variable {P : Program} {w : World} {K : PySem.W.Frag} {mg : Str → Option Value} {base : Heap}
theorem ok_world {f : Addr} {fd : FuncData} (F : Fun K "_law_world" "_law_world" sWorld f fd) (B : Bn mg) (C1 : Cal P w K mg base 1 "_law_draw" ["_law_stream_here", "_law_size_here"] spDraw) (C2 : Cal P w K mg base 2 "_law_order" ["_law_stream_here", "_law_size_here"] spOrder)
    (C3 : Cal P w K mg base 1 "_law_length" ["_law_word"] spLength) (C4 : Cal P w K mg base 1 "_law_sides" ["_law_word", "_law_p"] (spLSides K)) : FnOk P w K mg base CX0 3 f fd ["_law_stream_here", "_law_size_here"] spWorld := by
  obtain ⟨f1, fd1, G1, hm1, kp1, b1⟩ := C1
  obtain ⟨f2, fd2, G2, hm2, kp2, b2⟩ := C2
  obtain ⟨f3, fd3, G3, hm3, kp3, b3⟩ := C3
  obtain ⟨f4, fd4, G4, hm4, kp4, b4⟩ := C4
  refine F.ok scWorld (fun vs H Q E h => ?_) (fun cdv A outer s H vs Q E hr h => ?_)
  · obtain ⟨p, n, rfl, _⟩ := h
    rfl
  · obtain ⟨p, n, rfl, hp, hn, k⟩ := h
    have hr1 : Room 1 _ := hr.mono (by decide)
    refine ⟨_, pss_cons (ps_set (i := 2) scWorld.nd rfl (.inl rfl) (pe_call G2 hr rfl hm2 kp2 b2 .nil pass0 (pa_cons (pv 0) (pa_cons (pv 1) pa_nil)))) (pss_cons (ps_set (i := 3) scWorld.nd rfl (.inl rfl) (pe_listRg rfl (by rfl) B.list (prg_1 (by rfl) B.range (pv 1)))) (pss_cons (ps_set (i := 4) scWorld.nd rfl (.inl rfl) (pe_listRg rfl (by rfl) B.list (prg_1 (by rfl) B.range (pv 1)))) (pss_cons (ps_set (i := 5) scWorld.nd rfl (.inl rfl) (pe_lst pa_nil)) (pss_cons (ps_set (i := 6) scWorld.nd rfl (.inr rfl) (pe_int)) (pss_cons (ps_for PassesOwn.never rfl (pi_range1 (by rfl) B.range (pa_cons (pv 1) pa_nil)) (pg_name (i := 7) scWorld.nd rfl (.inl rfl)) (pss_one (ps_if (pt_cmpR op_lt (pv 6) (pv 1) (nomark _)) (pss_cons (ps_set (i := 8) scWorld.nd rfl (.inl rfl) (pe_lst (pa_cons (pe_str) (pa_cons (pe_str) (pa_cons (pe_str) (pa_cons (pe_str) (pa_cons (pe_str) (pa_cons (pe_str) (pa_cons (pe_str) (pa_cons (pe_str) pa_nil)))))))))) (pss_cons (ps_setLc (i := 8) (own := [("_law_word", 9)]) (g := gName 9) rfl scWorld.nd rfl rfl (sw_true rfl rfl rfl (by decide +kernel)) (pi_list (pv 8)) (blkOk_by (own := [("_law_word", 9)]) (N := nWorld) (sc := defScope sWorld) (by decide +kernel)) (fun _ _ _ _ _ => pg_name (i := 9) scWorld.nd rfl (Or.inl rfl)) (fun _ _ _ _ _ => pts_one (pt_cmpR op_le (pe_call G3 hr1 rfl hm3 kp3 b3 .nil pass0 (pa_cons (pv 9) pa_nil)) (pe_op op_sub (pv 1) (pv 6)) (nomark _))) (fun _ _ _ _ _ => pv 9)) (pss_cons (ps_set (i := 9) scWorld.nd rfl (.inl rfl) (pe_ix ix_list (pv 8) (pe_call G1 hr1 rfl hm1 kp1 b1 .nil pass0 (pa_cons (pv 0) (pa_cons (pe_callB call_len_seq (by rfl) B.len PySem.boot_len (pa_cons (pv 8) pa_nil)) pa_nil))) (fun _ _ => rfl))) (pss_cons (ps_set (i := 10) scWorld.nd rfl (.inl rfl) (pe_call G1 hr1 rfl hm1 kp1 b1 .nil pass0 (pa_cons (pv 0) (pa_cons (pe_int) pa_nil)))) (pss_cons (ps_set (i := 11) scWorld.nd rfl (.inl rfl) (pe_slice sl_list (pv 2) (po_some (pv 6)) (po_some (pe_op op_add (pv 6) (pe_call G3 hr1 rfl hm3 kp3 b3 .nil pass0 (pa_cons (pv 9) pa_nil)))))) (pss_cons (ps_set (i := 12) scWorld.nd rfl (.inl rfl) (pe_call G4 hr1 rfl hm4 kp4 b4 .nil pass0 (pa_cons (pv 9) (pa_cons (pv 11) pa_nil)))) (pss_cons (ps_for PassesOwn.never rfl (pi_range1 (by rfl) B.range (pa_cons (pe_callB call_len_seq (by rfl) B.len PySem.boot_len (pa_cons (pv 11) pa_nil)) pa_nil)) (pg_name (i := 13) scWorld.nd rfl (.inl rfl)) (pss_cons (ps_asg (pe_ix ix_list (pe_ix ix_list (pv 12) (pv 10) (fun _ _ => rfl)) (pv 13) (fun _ _ => rfl)) (pg_sub (pv 3) (pe_ix ix_list (pv 11) (pv 13) (fun _ _ => rfl)) set_list)) (pss_one (ps_asg (pe_ix ix_list (pe_ix ix_list (pv 12) (pe_op op_sub pe_int (pv 10)) (fun _ _ => rfl)) (pv 13) (fun _ _ => rfl)) (pg_sub (pv 4) (pe_ix ix_list (pv 11) (pv 13) (fun _ _ => rfl)) set_list))))) (pss_cons (ps_if (pt_cmpR op_notIn_seq (pv 9) (pe_tup (pa_cons (pe_str) (pa_cons (pe_str) pa_nil))) (by rfl)) (pss_one (ps_expr (pe_bm PySem.F.plainAttrs_list PySem.F.slot_list_append PySem.F.type_list_append mt_append (pv 5) (pa_cons (pv 11) pa_nil)))) (pss_nil)) (pss_one (ps_set (i := 6) scWorld.nd rfl (.inr rfl) (pe_op op_add (pv 6) (pe_callB call_len_seq (by rfl) B.len PySem.boot_len (pa_cons (pv 11) pa_nil))))))))))))) (pss_nil)))) (pss_one (ps_ret (pe_lst (pa_cons (pv 3) (pa_cons (pv 4) (pa_cons (pv 5) pa_nil))))))))))), ?_⟩
    refine ⟨_, rfl, _, rfl, p, n, rfl, hp, hn, fun q ord H1 hperm nq hqp hq hp1 s1 => ?_⟩
    have hol : ord.length = n := by rw [hperm.length_eq, List.length_range]
    have hond : ord.Nodup := hperm.nodup_iff.mpr List.nodup_range
    refine ⟨_, rfl, _, rfl, RgOk.of_le (by omega) (by omega) (by omega) (by omega), fun bq nb => ?_⟩
    rw [rgV_range]
    refine ⟨_, rfl, _, rfl, RgOk.of_le (by omega) (by omega) (by omega) (by omega), fun aq na => ?_⟩
    rw [rgV_range]
    refine ⟨(by show 0 ≤ sizeLine; decide), fun wq nw => ?_⟩
    have sb := same_upd (o := .lst (vL (List.range n))) nb
    have sa := same_upd (o := .lst (vL (List.range n))) na
    have sw := same_upd (o := .lst []) nw
    have tp1 : ∃ o, H1 p = some o := let ⟨r, t, c, e⟩ := hp1; ⟨_, e⟩
    obtain ⟨op, tp1⟩ := tp1
    have hb0 := sw _ _ (sa _ _ (upd_same (H := H1) (a := bq) (o := .lst (vL (List.range n)))))
    have ha0 := sw _ _ (upd_same (H := upd H1 bq (.lst (vL (List.range n)))) (a := aq) (o := .lst (vL (List.range n))))
    have hw0 : (upd (upd (upd H1 bq (.lst (vL (List.range n)))) aq (.lst (vL (List.range n)))) wq (.lst [])) wq = some (.lst []) := upd_same
    have hq0 := sw _ _ (sa _ _ (sb _ _ hq))
    have hst0 := ((hp1.same sb).same sa).same sw
    have tp0 := sw _ _ (sa _ _ (sb _ _ tp1))
    have fr : ∀ x, H1 x = none → H x = none := fun x hx => by
      cases e : H x with
      | none => rfl
      | some o =>
        have : x ≠ p := fun z => by rw [z, tp1] at hx; cases hx
        rw [s1 x o this e] at hx
        cases hx
    have sC : SameBut p H (upd (upd (upd H1 bq (.lst (vL (List.range n)))) aq (.lst (vL (List.range n)))) wq (.lst [])) := ((s1.put (fr _ nb)).put (fr _ (sb.free na))).put (fr _ (sb.free (sa.free nw)))
    have frb := fr _ nb
    have fra := fr _ (sb.free na)
    have frw := fr _ (sb.free (sa.free nw))
    have D : WDist p q bq aq wq (upd (upd (upd H1 bq (.lst (vL (List.range n)))) aq (.lst (vL (List.range n)))) wq (.lst [])) :=
      ⟨hqp, (ne_of_none tp1 nb).symm, (ne_of_none (sb _ _ tp1) na).symm, (ne_of_none (sa _ _ (sb _ _ tp1)) nw).symm, ne_of_none hq nb, ne_of_none (sb _ _ hq) na, ne_of_none (sa _ _ (sb _ _ hq)) nw,
        ne_of_none upd_same na, ne_of_none (sa _ _ upd_same) nw, ne_of_none upd_same nw, ⟨_, tp0⟩, ⟨_, hq0⟩, ⟨_, hb0⟩, ⟨_, ha0⟩, ⟨_, hw0⟩⟩
    generalize (upd (upd (upd H1 bq (.lst (vL (List.range n)))) aq (.lst (vL (List.range n)))) wq (.lst [])) = HC at hb0 ha0 hw0 hq0 hst0 sC D
    have W0 : WHeap p q bq aq wq n HC HC ord 0 [] (List.range n) (List.range n) [] :=
      ⟨hst0, hq0, hb0, ha0, hw0, Keep.refl _ _, List.length_range, List.length_range, wstart _ _ _, ⟨rfl, fun j a e => by simp at e⟩, (fun x h => by cases h), Nat.zero_le _⟩
    refine ⟨_, rfl, _, rfl, by omega, by omega, for_range (fun t σ H' => ∃ (at_ : Nat) (bs : List Blk) (Lb La : List Nat) (was : List Addr) (v7 v8 v9 v10 v11 v12 v13 : Option V),
        σ = [some (.ref p), some (.int (n : Nat)), some (.ref q), some (.ref bq), some (.ref aq), some (.ref wq), some (.int (at_ : Nat)), v7, v8, v9, v10, v11, v12, v13] ∧ WHeap p q bq aq wq n HC H' ord at_ bs Lb La was ∧ at_ ≤ n ∧ (t ≤ at_ ∨ at_ = n))
      ⟨0, [], _, _, [], none, none, none, none, none, none, none, rfl, W0, Nat.zero_le _, .inl (Nat.le_refl _)⟩ ?_ ?_⟩
    · rintro t σ Hx ht ⟨at_, bs, Lb, La, was, v7, v8, v9, v10, v11, v12, v13, rfl, W, hat, hpr⟩
      refine ⟨_, rfl, _, rfl, _, _, rfl, rfl, _, rfl, ite2 (fun c => ?_) (fun c => ?_)⟩
      · have c1 : at_ < n := by
          have := of_decide_eq_true c
          omega
        -- words
        refine ⟨(by show 8 ≤ sizeLine; decide), fun w1 n1 => ?_⟩
        have sy := same_upd (o := .lst (eight.map fun b => V.str (bws b))) n1
        have ey : (upd Hx w1 (.lst (eight.map fun b => V.str (bws b)))) w1 = some (.lst (eight.map fun b => V.str (bws b))) := upd_same
        have Wy := W.same sy
        refine ⟨_, rfl, w1, rfl, ⟨_, SqL.of ey⟩, fun Dw nD => lc_list (xs := eight.map fun b => V.str (bws b)) (CPv (upd Hx w1 (.lst (eight.map fun b => V.str (bws b)))) Dw eight (fun b => decide (b.len ≤ n - at_)) (fun b => V.str (bws b))) (cpv_start nD) (fun i H' _ cc => SqL.of (cc.1 _ _ ey)) ?_ ?_⟩
        · rintro i x H' hx cc
          obtain ⟨b, hb, rfl⟩ : ∃ b, eight[i]? = some b ∧ x = V.str (bws b) := by
            rw [List.getElem?_map] at hx
            cases e : eight[i]? with
            | none => rw [e] at hx; cases hx
            | some b => rw [e] at hx; exact ⟨b, rfl, (Option.some.inj hx).symm⟩
          refine ⟨rfl, ?_⟩
          refine ⟨_, rfl, b, rfl, fun H3 s3 => ?_⟩
          refine ⟨_, rfl, _, rfl, _, _, rfl, rfl, _, _, rfl, rfl, _, rfl, ite2 (fun c2 => ?_) (fun c2 => ?_)⟩
          · have c3 := of_decide_eq_true c2
            exact ⟨_, rfl, cpv_yes nD (by decide) ⟨cc.1.trans s3, s3 _ _ cc.2⟩ hb (decide_eq_true (by omega)) rfl⟩
          · have c3 : ¬ ((b.len : Nat) : Int) ≤ (n : Int) - (at_ : Int) := fun z => c2 (decide_eq_true z)
            exact cpv_no ⟨cc.1.trans s3, s3 _ _ cc.2⟩ hb (decide_eq_false (by omega))
        rintro H2 c2
        obtain ⟨s2, e2⟩ := cpv_end c2
        clear c2
        have W2 := Wy.same s2
        have hfree : BW.free ∈ eight.filter (fun b => decide (b.len ≤ n - at_)) := List.mem_filter.mpr ⟨by simp [eight], decide_eq_true (by show 1 ≤ n - at_; omega)⟩
        have hfl : 0 < (eight.filter (fun b => decide (b.len ≤ n - at_))).length := List.length_pos_of_mem hfree
        have hfl8 : (eight.filter (fun b => decide (b.len ≤ n - at_))).length ≤ 8 := List.length_filter_le _ _
        have hfw : ∀ b ∈ eight.filter (fun b => decide (b.len ≤ n - at_)), b.len ≤ n - at_ := fun b hb => of_decide_eq_true (List.mem_filter.mp hb).2
        generalize eight.filter (fun b => decide (b.len ≤ n - at_)) = fw at e2 hfl hfl8 hfw
        have nDp : Dw ≠ p := fun e => by
          have := (Wy.new D nD).1
          rw [e] at this
          simp at this
        -- word
        refine ⟨_, rfl, _, rfl, _, rfl, Dw, _, rfl, .inl (SqL.of e2), p, _, rfl, W2.st, by rw [List.length_map]; omega, by rw [List.length_map]; omega, fun d H3 hd hst3 s3 => ?_⟩
        rw [List.length_map] at hd
        have hdl : d < fw.length := by omega
        have e3 := s3 _ _ nDp e2
        have W3 := W2.draw D s3 hst3
        obtain ⟨b, hb⟩ : ∃ b, fw[d]? = some b := ⟨_, List.getElem?_eq_getElem hdl⟩
        have hbl := hfw b (List.mem_of_getElem? hb)
        have atw : atI (fw.map fun b => V.str (bws b)) ((d : Nat) : Int) = some (.str (bws b)) := atI_nat (by rw [List.getElem?_map, hb]; rfl)
        refine ⟨Dw, _, _, _, rfl, rfl, SqL.of e3, atw, ?_⟩
        -- side
        refine ⟨_, rfl, p, _, rfl, hst3, by decide, by decide, fun sd H4 hsd hst4 s4 => ?_⟩
        have W4 := W3.draw D s4 hst4
        -- part
        refine ⟨_, rfl, _, rfl, _, rfl, _, rfl, _, rfl, b, rfl, fun H5 s5 => ?_⟩
        have W5 := W4.same s5
        refine ⟨_, _, rfl, rfl, _, rfl, q, _, rfl, SqL.of W5.q, fun pa npa => ?_⟩
        rw [cut_part (by omega)]
        have hpl : ((ord.drop at_).take b.len).length = b.len := by rw [List.length_take, List.length_drop]; omega
        obtain ⟨part, hpart⟩ : ∃ part, part = (ord.drop at_).take b.len := ⟨_, rfl⟩
        rw [← hpart] at hpl ⊢
        have pnd : part.Nodup := by
          rw [hpart]
          exact (List.Nodup.sublist ((List.take_sublist _ _).trans (List.drop_sublist _ _)) hond)
        have plt : ∀ x ∈ part, x < n := fun x hx => by
          rw [hpart] at hx
          exact List.mem_range.mp (hperm.mem_iff.mp (List.mem_of_mem_drop (List.mem_of_mem_take hx)))
        have s6 := same_upd (o := .lst (vL part)) npa
        have W6 := W5.same s6
        have e6 : (upd H5 pa (.lst (vL part))) pa = some (.lst (vL part)) := upd_same
        generalize upd H5 pa (.lst (vL part)) = H6 at s6 W6 e6
        have hpaN := W5.new D npa
        -- names
        refine ⟨_, rfl, _, rfl, b, pa, part, rfl, SqL.of e6, hpl, fun na7 l0 l1 H7 s7 en e0 e1 nl0 nl1 nn7 => ?_⟩
        have W7 := W6.same s7
        have e7 := s7 _ _ e6
        obtain ⟨sde, lA, lB, atA, atB, eA, eB, nA, nB⟩ : ∃ (sde : Bool) (lA lB : Addr), atI [V.ref l0, V.ref l1] ((sd : Nat) : Int) = some (.ref lA) ∧ atI [V.ref l0, V.ref l1] (1 - ((sd : Nat) : Int)) = some (.ref lB) ∧
            H7 lA = some (.lst (vL ((b.side sde).map (fnm part)))) ∧ H7 lB = some (.lst (vL ((b.side !sde).map (fnm part)))) ∧ H6 lA = none ∧ H6 lB = none := by
          rcases (show sd = 0 ∨ sd = 1 by omega) with e | e
          · subst e
            exact ⟨false, l0, l1, rfl, rfl, e0, e1, nl0, nl1⟩
          · subst e
            exact ⟨true, l1, l0, rfl, rfl, e1, e0, nl1, nl0⟩
        have hAN := W6.new D nA
        have hBN := W6.new D nB
        have hNN := W6.new D nn7
        have sub : ∀ x, x ∉ [p, bq, aq, wq] → x ∉ [bq, aq] := fun x h => by
          simp at h ⊢
          exact ⟨h.2.1, h.2.2.1⟩
        have psub : p ∉ [bq, aq] := by simp [D.bp.symm, D.ap.symm]
        have qsub : q ∉ [bq, aq] := by simp [D.qb, D.qa]
        have wsub : wq ∉ [bq, aq] := by simp [D.bw.symm, D.aw.symm]
        -- the block's names
        refine ⟨_, rfl, pa, _, rfl, .inl (SqL.of e7), _, rfl, (by rw [vL_length]; omega), (by rw [vL_length]; omega), for_range (fun i σ H' => ∃ (Lb' La' : List Nat) (v13 : Option V), σ = [some (.ref p), some (.int (n : Nat)), some (.ref q), some (.ref bq), some (.ref aq), some (.ref wq), some (.int (at_ : Nat)), some (.int (0 + (t : Nat))), some (.ref Dw), some (.str (bws b)), some (.int (sd : Nat)), some (.ref pa), some (.ref na7), v13] ∧
            Keep [bq, aq] H7 H' ∧ H' bq = some (.lst (vL Lb')) ∧ H' aq = some (.lst (vL La')) ∧ Lb'.length = n ∧ La'.length = n ∧ (∀ x, x ∉ part → Lb'.getD x 0 = Lb.getD x 0) ∧ (∀ x, x ∉ part → La'.getD x 0 = La.getD x 0) ∧
            (∀ j, j < i → Lb'.getD (part.getD j 0) 0 = part.getD ((b.side sde).getD j 0) 0) ∧ ∀ j, j < i → La'.getD (part.getD j 0) 0 = part.getD ((b.side !sde).getD j 0) 0)
          ⟨Lb, La, _, rfl, Keep.refl _ _, W7.b, W7.a, W7.bl, W7.al, fun _ _ => rfl, fun _ _ => rfl, fun j h => absurd h (Nat.not_lt_zero j), fun j h => absurd h (Nat.not_lt_zero j)⟩ ?_ ?_⟩
        · rintro i σ H8 hi ⟨Lb', La', v13', rfl, kk, hb8, ha8, lb8, la8, ob, oa, nb', na'⟩
          have hi' : i < b.len := by
            rw [vL_length, Int.toNat_natCast] at hi
            omega
          have hil : i < part.length := by omega
          have ei : (0 : Int) + ((i : Nat) : Int) = ((i : Nat) : Int) := Int.zero_add _
          have hpi : part[i]? = some (fnm part i) := get_fnm hil
          have hx : fnm part i < n := plt _ (List.mem_of_getElem? hpi)
          have hpm : fnm part i ∈ part := List.mem_of_getElem? hpi
          have dif : ∀ j, j < i → part.getD j 0 ≠ fnm part i := fun j hj e => by
            have h1 : part[j]? = some (fnm part j) := get_fnm (by omega)
            have h2 : j = i := nd_ix pnd h1 (by rw [show fnm part j = fnm part i from e]; exact hpi)
            omega
          have en8 := kk _ _ (sub _ hNN.1) en
          have eA8 := kk _ _ (sub _ hAN.1) eA
          have ep8 := kk _ _ (sub _ hpaN.1) e7
          refine ⟨_, rfl, _, rfl, na7, _, _, _, rfl, rfl, SqL.of en8, atA, _, rfl, lA, _, _, _, rfl, rfl, SqL.of eA8, at_of ei (side_at hi'), ?_⟩
          refine ⟨_, rfl, _, rfl, _, rfl, pa, _, _, _, rfl, rfl, SqL.of ep8, at_of ei (vL_get hpi), bq, _, _, fnm part i, rfl, rfl, hb8, by rw [vL_length]; exact ixN_nat' (by omega), ?_⟩
          rw [vL_set]
          have kk9 : Keep [bq, aq] H7 (upd H8 bq (.lst (vL (Lb'.set (fnm part i) (fnm part ((b.side sde).getD i 0)))))) := kk.upd (by simp)
          have ha9 : (upd H8 bq (.lst (vL (Lb'.set (fnm part i) (fnm part ((b.side sde).getD i 0)))))) aq = some (.lst (vL La')) := by
            rw [upd_ne D.ba.symm]
            exact ha8
          have hb9 : (upd H8 bq (.lst (vL (Lb'.set (fnm part i) (fnm part ((b.side sde).getD i 0)))))) bq = some (.lst (vL (Lb'.set (fnm part i) (fnm part ((b.side sde).getD i 0))))) := upd_same
          generalize upd H8 bq (.lst (vL (Lb'.set (fnm part i) (fnm part ((b.side sde).getD i 0))))) = H9 at kk9 ha9 hb9
          have en9 := kk9 _ _ (sub _ hNN.1) en
          have eB9 := kk9 _ _ (sub _ hBN.1) eB
          have ep9 := kk9 _ _ (sub _ hpaN.1) e7
          refine ⟨_, rfl, _, rfl, _, _, rfl, rfl, na7, _, _, _, rfl, rfl, SqL.of en9, atB, _, rfl, lB, _, _, _, rfl, rfl, SqL.of eB9, at_of ei (side_at hi'), ?_⟩
          refine ⟨_, rfl, _, rfl, _, rfl, pa, _, _, _, rfl, rfl, SqL.of ep9, at_of ei (vL_get hpi), aq, _, _, fnm part i, rfl, rfl, ha9, by rw [vL_length]; exact ixN_nat' (by omega), ?_⟩
          rw [vL_set]
          refine ⟨Lb'.set (fnm part i) (fnm part ((b.side sde).getD i 0)), La'.set (fnm part i) (fnm part ((b.side !sde).getD i 0)), _, rfl, kk9.upd (by simp), by rw [upd_ne D.ba]; exact hb9, upd_same, by rw [List.length_set]; exact lb8, by rw [List.length_set]; exact la8, fun x hx' => ?_, fun x hx' => ?_, fun j hj => ?_, fun j hj => ?_⟩
          · rw [getD_set (by omega), if_neg (fun (e : x = fnm part i) => hx' (by rw [e]; exact hpm))]
            exact ob x hx'
          · rw [getD_set (by omega), if_neg (fun (e : x = fnm part i) => hx' (by rw [e]; exact hpm))]
            exact oa x hx'
          · rw [getD_set (by omega)]
            rcases Nat.lt_succ_iff_lt_or_eq.mp hj with hj | hj
            · rw [if_neg (dif j hj)]
              exact nb' j hj
            · rw [hj, if_pos rfl]
          · rw [getD_set (by omega)]
            rcases Nat.lt_succ_iff_lt_or_eq.mp hj with hj | hj
            · rw [if_neg (dif j hj)]
              exact na' j hj
            · rw [hj, if_pos rfl]
        · rintro σ H8 ⟨Lb', La', v13', rfl, kk, hb8, ha8, lb8, la8, ob, oa, nb', na'⟩
          rw [vL_length, Int.toNat_natCast, hpl] at nb' na'
          have wi' := wstep W7.wi hond b sde part hpart hpl ob oa nb' na'
          have eat : ((at_ : Nat) : Int) + (((vL part).length : Nat) : Int) = ((at_ + b.len : Nat) : Int) := by
            rw [vL_length]
            omega
          have hblp := b.len_pos
          have ep8 := kk _ _ (sub _ hpaN.1) e7
          have hst8 : StreamAt H8 p := let ⟨r, t, c, e⟩ := W7.st; ⟨r, t, c, kk _ _ psub e⟩
          have hq8 := kk _ _ qsub W7.q
          have hw8 := kk _ _ wsub W7.w
          have kp8 : Keep [p, bq, aq, wq] HC H8 := W7.kp.trans fun x o hx e => kk x o (sub x hx) e
          have ll8 : LL H8 was (chg bs) := ⟨W7.ll.1, fun j a e => by
            obtain ⟨g, h1, h2⟩ := W7.ll.2 j a e
            have hn := W7.fr a (List.mem_of_getElem? e)
            exact ⟨g, h1, kk a _ (by simp [ne_new D.tb hn, ne_new D.ta hn]) h2⟩⟩
          -- if word not in ("free", "pair")
          refine ⟨_, rfl, (by show 2 ≤ sizeLine; decide), fun T nT => ?_⟩
          have s9 := same_upd (o := .tup [V.str ("free" : Str), V.str ("pair" : Str)]) nT
          have eT : (upd H8 T (.tup [V.str ("free" : Str), V.str ("pair" : Str)])) T = some (.tup [V.str ("free" : Str), V.str ("pair" : Str)]) := upd_same
          refine ⟨T, _, rfl, .inr (SqT.of upd_same), rfl, rfl, _, rfl, ite2 (fun c2 => ?_) (fun c2 => ?_)⟩
          · have hch : b.isChange = true := by
              rw [if_pos rfl, whole_bw, Bool.not_not] at c2
              exact c2
            have hw9 := s9 _ _ hw8
            have hpw : pa ≠ wq := fun e => by
              have := hpaN.1
              rw [e] at this
              simp at this
            refine ⟨_, rfl, .inl ⟨rfl, _, SqL.of hw9⟩, _, rfl, wq, _, _, rfl, rfl, hw9, ?_, ?_⟩
            · rw [List.length_map]
              have := W7.wl
              exact small1000 (by omega)
            have ep10 : (upd (upd H8 T (.tup [V.str ("free" : Str), V.str ("pair" : Str)])) wq (.lst (was.map V.ref ++ [V.ref pa]))) pa = some (.lst (vL part)) := by
              rw [upd_ne hpw]
              exact s9 _ _ ep8
            refine ⟨_, rfl, _, rfl, pa, _, rfl, .inl (SqL.of ep10), _, _, rfl, rfl, ?_⟩
            have hc : chg (bs ++ [⟨b, sde, part⟩]) = chg bs ++ [part] := by
              unfold chg
              rw [List.filter_append, List.map_append]
              simp [hch]
            refine ⟨at_ + b.len, bs ++ [⟨b, sde, part⟩], Lb', La', was ++ [pa], _, _, _, _, _, _, _, (by rw [← eat]; rfl), ⟨?_, ?_, ?_, ?_, ?_, ?_, lb8, la8, wi', ?_, ?_, ?_⟩, by omega, ?_⟩
            · obtain ⟨r, t', c', e⟩ := hst8
              exact ⟨r, t', c', by rw [upd_ne D.wp.symm]; exact s9 _ _ e⟩
            · rw [upd_ne D.qw]
              exact s9 _ _ hq8
            · rw [upd_ne D.bw]
              exact s9 _ _ hb8
            · rw [upd_ne D.aw]
              exact s9 _ _ ha8
            · rw [upd_same, List.map_append]
              rfl
            · exact (kp8.trans (Keep.same s9)).upd (by simp)
            · rw [hc]
              refine ⟨by rw [List.length_append, List.length_append, ll8.1]; rfl, fun j a e => ?_⟩
              have hl := ll8.1
              by_cases hj : j < was.length
              · rw [List.getElem?_append_left hj] at e
                obtain ⟨g, h1, h2⟩ := ll8.2 j a e
                have hn := W7.fr a (List.mem_of_getElem? e)
                refine ⟨g, by rw [List.getElem?_append_left (by omega)]; exact h1, ?_⟩
                rw [upd_ne (ne_new D.tw hn)]
                exact s9 _ _ h2
              · rw [List.getElem?_append_right (by omega)] at e
                cases hz : j - was.length with
                | zero =>
                  rw [hz] at e
                  cases e
                  exact ⟨part, by rw [List.getElem?_append_right (by omega), ← hl, hz]; rfl, ep10⟩
                | succ m =>
                  rw [hz] at e
                  simp at e
            · intro x hx
              rcases List.mem_append.mp hx with hx | hx
              · exact W7.fr x hx
              · rw [List.mem_singleton.mp hx]
                exact hpaN.2.1
            · rw [List.length_append]
              have := W7.wl
              show was.length + 1 ≤ _
              omega
            · rcases hpr with h | h
              · exact .inl (by omega)
              · omega
          · have hch : b.isChange = false := by
              rw [if_pos rfl, whole_bw, Bool.not_not] at c2
              simpa using c2
            refine ⟨_, rfl, _, rfl, pa, _, rfl, .inl (SqL.of (s9 _ _ ep8)), _, _, rfl, rfl, ?_⟩
            have hc : chg (bs ++ [⟨b, sde, part⟩]) = chg bs := by
              unfold chg
              rw [List.filter_append, List.map_append]
              simp [hch]
            refine ⟨at_ + b.len, bs ++ [⟨b, sde, part⟩], Lb', La', was, _, _, _, _, _, _, _, (by rw [← eat]; rfl), ⟨hst8.same s9, s9 _ _ hq8, s9 _ _ hb8, s9 _ _ ha8, s9 _ _ hw8, kp8.trans (Keep.same s9), lb8, la8, wi', ?_, W7.fr, ?_⟩, by omega, ?_⟩
            · rw [hc]
              exact ll8.same s9
            · have := W7.wl
              omega
            · rcases hpr with h | h
              · exact .inl (by omega)
              · omega
      · exact ⟨at_, bs, Lb, La, was, _, _, _, _, _, _, _, rfl, W, hat, .inr (by
          have : ¬ ((at_ : Nat) : Int) < ((n : Nat) : Int) := fun z => c (decide_eq_true z)
          omega)⟩
    · rintro σ H' ⟨at_, bs, Lb, La, was, v7, v8, v9, v10, v11, v12, v13, rfl, W, hat, hpr⟩
      rw [Int.toNat_natCast] at hpr
      have hn2 : at_ = n := by omega
      subst hn2
      refine ⟨_, rfl, _, rfl, _, rfl, (by show 3 ≤ sizeLine; decide), fun r nr => ?_⟩
      have sr := same_upd (o := .lst [V.ref bq, V.ref aq, V.ref wq]) nr
      have W' := W.same sr
      refine k r bq aq wq was Lb La bs _ ?_ W'.st upd_same W'.b W'.a W'.w W'.ll W'.bl W'.al (Nat.le_trans W'.wl hn) (wend W'.wi hperm)
      intro x o nx e
      have hx : x ∉ [p, bq, aq, wq] := by
        have h2 := ne_of_none e frb
        have h3 := ne_of_none e fra
        have h4 := ne_of_none e frw
        simp [nx, h2, h3, h4]
      exact W'.kp x o hx (sC x o nx e)
end
end KW
end

section
set_option Elab.async false
set_option linter.all false
set_option maxRecDepth 100000
set_option maxHeartbeats 8000000
namespace KW
open PySem PySem.Spec PyProof.Rows L2 KR KM
abbrev sWritten : Stmt := top 40
abbrev nWritten : List Str := ["_law_stream_here", "_law_part", "_law_way", "_law_at", "_law_done", "_law_k", "_law_bit"]
theorem scWritten : FnScope nWritten ["_law_stream_here", "_law_part"] (defScope sWritten) := ⟨rfl, rfl, rfl, by decide +kernel, rfl, by decide +kernel, by decide +kernel⟩
def spWritten (K : PySem.W.Frag) : Sp := fun vs H Q _ => ∃ (p a : Addr) (part : List Nat), vs = [.ref p, .ref a] ∧ StreamAt H p ∧ H a = some (.lst (vL part)) ∧ a ≠ p ∧ 0 < part.length ∧ part.length ≤ 64 ∧
  ∀ (q : Addr) (dn : List Nat) H', SameBut p H H' → H q = none → H' q = some (.lst (vL dn)) → (∀ x ∈ dn, x ∈ part) → Q (.ref q) H'
section
variable {P : Program} {w : World} {K : PySem.W.Frag} {mg : Str → Option Value} {base : Heap}
theorem ok_written {f : Addr} {fd : FuncData} (F : Fun K "_law_written" "_law_written" sWritten f fd) (B : Bn mg) (C1 : Cal P w K mg base 1 "_law_draw" ["_law_stream_here", "_law_size_here"] spDraw) : FnOk P w K mg base CX0 2 f fd ["_law_stream_here", "_law_part"] (spWritten K) := by
  obtain ⟨f1, fd1, G1, hm1, kp1, b1⟩ := C1
  refine F.ok scWritten (fun vs H Q E h => ?_) (fun cdv A outer s H vs Q E hr h => ?_)
  · obtain ⟨p, a, part, rfl, _⟩ := h
    rfl
  · obtain ⟨p, a, part, rfl, hp, ha, nap, hpos, h64, k⟩ := h
    refine ⟨_, pss_cons (ps_set (i := 2) scWritten.nd rfl (.inl rfl) (pe_call G1 hr rfl hm1 kp1 b1 .nil pass0 (pa_cons (pv 0) (pa_cons (pe_int) pa_nil)))) (pss_cons (ps_set (i := 3) scWritten.nd rfl (.inl rfl) (pe_call G1 hr rfl hm1 kp1 b1 .nil pass0 (pa_cons (pv 0) (pa_cons (pe_callB call_len_seq (by rfl) B.len PySem.boot_len (pa_cons (pv 1) pa_nil)) pa_nil)))) (pss_cons (ps_set (i := 4) scWritten.nd rfl (.inl rfl) (pe_lst pa_nil)) (pss_cons (ps_for PassesOwn.never rfl (pi_range1 (by rfl) B.range (pa_cons (pe_callB call_len_seq (by rfl) B.len PySem.boot_len (pa_cons (pv 1) pa_nil)) pa_nil)) (pg_name (i := 5) scWritten.nd rfl (.inl rfl)) (pss_cons (ps_set (i := 6) scWritten.nd rfl (.inl rfl) (pe_call G1 hr rfl hm1 kp1 b1 .nil pass0 (pa_cons (pv 0) (pa_cons (pe_int) pa_nil)))) (pss_cons (ps_if (PW.pt (pw_and (pt_cmpR op_gt (pv 2) (pe_int) (nomark _)) (pw_and1 (pt_cmpR op_eq (pv 5) (pv 3) (nomark _))))) (pss_one (ps_set (i := 6) scWritten.nd rfl (.inl rfl) (pe_int))) (pss_nil)) (pss_cons (ps_if (PW.pt (pw_and (pt_cmpR op_gt (pv 2) (pe_int) (nomark _)) (pw_and1 (pt_cmpR op_eq (pv 5) (pe_op op_mod (pe_callTy call_int1 (by rfl) B.int boot_int (pa_cons (pe_op op_add (pv 3) pe_int) pa_nil)) (pe_callB call_len_seq (by rfl) B.len PySem.boot_len (pa_cons (pv 1) pa_nil))) (nomark _))))) (pss_one (ps_set (i := 6) scWritten.nd rfl (.inl rfl) (pe_int))) (pss_nil)) (pss_one (ps_if (PW.pt (pw_or (pt_cmpR op_eq (pv 2) (pe_int) (nomark _)) (pw_or1 (PW.pt (pw_and (pt_cmpR op_gt (pv 2) (pe_int) (nomark _)) (pw_and1 (pt_cmpR op_eq (pv 6) (pe_int) (nomark _)))))))) (pss_one (ps_expr (pe_bm PySem.F.plainAttrs_list PySem.F.slot_list_append PySem.F.type_list_append mt_append (pv 4) (pa_cons (pe_ix ix_list (pv 1) (pv 5) (fun _ _ => rfl)) pa_nil)))) (pss_nil))))))) (pss_one (ps_ret (pv 4)))))), ?_⟩
    refine ⟨_, rfl, p, _, rfl, hp, by decide, by decide, fun wy H1 _ hp1 s1 => ?_⟩
    have ha1 := s1 _ _ nap ha
    refine ⟨_, rfl, _, rfl, a, _, rfl, .inl (SqL.of ha1), p, _, rfl, hp1, by rw [vL_length]; omega, by rw [vL_length]; omega, fun at_ H2 _ hp2 s2 => ?_⟩
    have ha2 := s2 _ _ nap ha1
    refine ⟨(by show 0 ≤ sizeLine; decide), fun q nq => ?_⟩
    have s12 := s1.trans s2
    have nqp : q ≠ p := by
      obtain ⟨r, t, c, e⟩ := hp2
      exact (ne_of_none e nq).symm
    have nq0 : H q = none := by
      cases e : H q with
      | none => rfl
      | some o => rw [s12 q o nqp e] at nq; cases nq
    have naq : a ≠ q := ne_of_none ha2 nq
    refine ⟨_, rfl, a, _, rfl, .inl (SqL.of (same_upd nq _ _ ha2)), _, rfl, (by rw [vL_length]; omega), (by rw [vL_length]; omega), for_range (fun i σ H' => ∃ (dn : List Nat) (v5 v6 : Option V), σ = [some (.ref p), some (.ref a), some (.int (wy : Nat)), some (.int (at_ : Nat)), some (.ref q), v5, v6] ∧
        SameBut p H H' ∧ StreamAt H' p ∧ H' a = some (.lst (vL part)) ∧ H' q = some (.lst (vL dn)) ∧ (∀ x ∈ dn, x ∈ part) ∧ dn.length ≤ i)
      ⟨[], none, none, rfl, s12.put nq0, hp2.same (same_upd nq), same_upd nq _ _ ha2, upd_same, (fun x h => by cases h), Nat.le_refl _⟩ ?_ ?_⟩
    · rintro i σ H3 hi ⟨dn, v5, v6, rfl, s3, hp3, ha3, hq3, hdn, hdl⟩
      have hil : i < part.length := by
        rw [vL_length, Int.toNat_natCast] at hi
        exact hi
      refine ⟨_, rfl, p, _, rfl, hp3, by decide, by decide, fun bt H4 _ hp4 s4 => ?_⟩
      have ha4 := s4 _ _ nap ha3
      have hq4 := s4 _ _ nqp hq3
      have ei : (0 : Int) + ((i : Nat) : Int) = ((i : Nat) : Int) := Int.zero_add _
      have hpi : part[i]? = some (fnm part i) := get_fnm hil
      have hq5 : StreamAt (upd H4 q (.lst (vL (dn ++ [fnm part i])))) p := let ⟨r, t, c, e⟩ := hp4; ⟨r, t, c, by rw [upd_ne nqp.symm]; exact e⟩
      have ha5 : (upd H4 q (.lst (vL (dn ++ [fnm part i])))) a = some (.lst (vL part)) := by rw [upd_ne naq]; exact ha4
      have hmem : ∀ x ∈ dn ++ [fnm part i], x ∈ part := fun x hx => by
        rcases List.mem_append.mp hx with hx | hx
        · exact hdn x hx
        · rw [List.mem_singleton.mp hx]; exact List.mem_of_getElem? hpi
      have hdl2 : (dn ++ [fnm part i]).length ≤ i + 1 := by
        rw [List.length_append]
        show dn.length + 1 ≤ _
        omega
      have hsz : (vL dn).length < sizeLine := small_vL (n := 64) (by omega)
      refine ⟨_, rfl, _, _, rfl, rfl, _, rfl, ite2 (fun _ => ⟨_, rfl, _, rfl, rfl, _, rfl, ite2 (fun _ => ?_) (fun _ => ?_)⟩) (fun _ => iteF ?_)⟩
      all_goals
        refine ⟨_, rfl, _, _, rfl, rfl, _, rfl, ite2 (fun _ => ⟨_, rfl, _, rfl, _, _, rfl, rfl, .inl ⟨_, rfl, _, rfl, a, _, rfl, .inl (SqL.of ha4), _, _, rfl, rfl, (by show (0 : Int) < (((vL part).length : Nat) : Int); rw [vL_length]; omega), rfl, _, rfl, ite2 (fun _ => ?_) (fun _ => ?_)⟩⟩) (fun _ => iteF ?_)⟩
        all_goals
          refine ⟨_, rfl, rfl, _, rfl, ite2 (fun _ => iteT ?_) (fun _ => ⟨_, rfl, _, _, rfl, rfl, _, rfl, ite2 (fun _ => ⟨_, rfl, rfl, _, rfl, ite2 (fun _ => ?_) (fun _ => ?_)⟩) (fun _ => iteF ?_)⟩)⟩
          all_goals first
            | exact ⟨dn, _, _, rfl, s3.trans s4, hp4, ha4, hq4, hdn, Nat.le_succ_of_le hdl⟩
            | (refine ⟨_, rfl, .inl ⟨rfl, _, SqL.of hq4⟩, _, rfl, _, rfl, a, _, _, _, rfl, rfl, SqL.of ha4, at_of ei (vL_get hpi), q, _, _, rfl, rfl, hq4, hsz, ?_⟩
               rw [vL_app]
               exact ⟨dn ++ [fnm part i], _, _, rfl, (s3.trans s4).put nq0, hq5, ha5, upd_same, hmem, hdl2⟩)
    · rintro σ H3 ⟨dn, v5, v6, rfl, s3, hp3, ha3, hq3, hdn, hdl⟩
      exact ⟨_, rfl, k q dn H3 s3 nq0 hq3 hdn⟩
end
end KW
end

section
set_option Elab.async false
set_option linter.all false
set_option maxRecDepth 100000
set_option maxHeartbeats 8000000
namespace KW
open PySem PySem.Spec PyProof.Rows L2 KR KM
abbrev sRow : Stmt := top 41
abbrev sKept : Stmt := top 42
abbrev sLTorn : Stmt := top 43
abbrev nRow : List Str := ["_law_told", "_law_size_here", "_law_name"]
abbrev nKept : List Str := ["_law_told", "_law_before", "_law_after", "_law_image", "_law_writers", "_law_size_here", "_law_inside", "_law_part", "_law_record", "_law_many", "_law_olds", "_law_news", "_law_done", "_law_x"]
abbrev nLTorn : List Str := ["_law_after", "_law_image", "_law_writers", "_law_torn_here", "_law_part", "_law_done", "_law_x"]
theorem scRow : FnScope nRow ["_law_told", "_law_size_here"] (defScope sRow) := ⟨rfl, rfl, rfl, by decide +kernel, rfl, by decide +kernel, by decide +kernel⟩
theorem scKept : FnScope nKept ["_law_told", "_law_before", "_law_after", "_law_image", "_law_writers"] (defScope sKept) := ⟨rfl, rfl, rfl, by decide +kernel, rfl, by decide +kernel, by decide +kernel⟩
theorem scLTorn : FnScope nLTorn ["_law_after", "_law_image", "_law_writers"] (defScope sLTorn) := ⟨rfl, rfl, rfl, by decide +kernel, rfl, by decide +kernel, by decide +kernel⟩
def spRow : Sp := fun vs H Q _ => ∃ (a : Addr) (st : List Nat), vs = [.ref a, .int (st.length : Nat)] ∧ H a = some (.lst (vL st)) ∧ st.length ≤ 64 ∧ ∀ H', Same H H' → Q (.bl true) H'
/-- how many records of a part are written -/
def doneN (im after : Nat → Nat) (p : List Nat) : Nat := (p.filter fun x => decide (im x = after x)).length
def tornN (im after : Nat → Nat) (ps : List (List Nat)) : Nat := (ps.filter fun p => decide (0 < doneN im after p) && decide (doneN im after p < p.length)).length
def spLTorn (K : PySem.W.Frag) : Sp := fun vs H Q _ => ∃ (a b wr : Addr) (La im : List Nat) (was : List Addr) (ps : List (List Nat)), vs = [.ref a, .ref b, .ref wr] ∧ H a = some (.lst (vL La)) ∧ H b = some (.lst (vL im)) ∧ H wr = some (.lst (was.map V.ref)) ∧ LL H was ps ∧
  La.length = im.length ∧ im.length ≤ 64 ∧ (∀ p ∈ ps, p.length ≤ 64 ∧ ∀ x ∈ p, x < im.length) ∧ ∀ H', Same H H' → Q (.int (tornN (fnm im) (fnm La) ps : Nat)) H'
theorem dec_vI (a b : Nat) : decide (vI a = vI b) = decide (a = b) := decide_eq_decide.mpr ⟨vI_inj, fun e => by rw [e]⟩
theorem nil_eq : PyData.eqv (.list []) (.list []) = true := by decide
theorem nil_shaped : SeqAt.shaped (.list []) = true := by decide
theorem nil_dp {K : PySem.W.Frag} {H : Hp} {a : Addr} (h : H a = some (.lst [])) : Dp K H (.ref a) (.list []) := .lst (SqL.of h) .nil
section
variable {P : Program} {w : World} {K : PySem.W.Frag} {mg : Str → Option Value} {base : Heap}
theorem ok_row {f : Addr} {fd : FuncData} (F : Fun K "_law_row" "_law_row" sRow f fd) (B : Bn mg) (C1 : Cal P w K mg base 1 "_law_integer" ["_law_value"] spInteger) : FnOk P w K mg base CX0 2 f fd ["_law_told", "_law_size_here"] spRow := by
  obtain ⟨f1, fd1, G1, hm1, kp1, b1⟩ := C1
  refine F.ok scRow (fun vs H Q E h => ?_) (fun cdv A outer s H vs Q E hr h => ?_)
  · obtain ⟨a, st, rfl, _⟩ := h
    rfl
  · obtain ⟨a, st, rfl, ha, hl, k⟩ := h
    refine ⟨_, pss_cons (ps_if (PW.pt (pw_or (pt_not (pt_val (pe_callB call_isi (by rfl) B.isinstance boot_isinstance (pa_cons (pv 0) (pa_cons (pe_bltn (v := .ty "list") (by rfl) B.list boot_list rfl) pa_nil))))) (pw_or1 (pt_cmpR op_ne (pe_callB call_len_seq (by rfl) B.len PySem.boot_len (pa_cons (pv 0) pa_nil)) (pv 1) (nomark _))))) (pss_never) (pss_nil)) (pss_one (ps_ret (pe_cmpR (op_eqD hr.units) (pe_lc (own := [("_law_name", 2)]) (g := gName 2) (tt := tNot (tB (tCall spInteger [] E0 (tCons (tVar 2) tNil)))) rfl scRow.nd (pi_list (pv 0)) (blkOk_by (own := [("_law_name", 2)]) (N := nRow) (sc := defScope sRow) (by decide +kernel)) (fun _ _ _ _ _ => pg_name (i := 2) scRow.nd rfl (Or.inl rfl)) (fun _ _ _ _ _ => pts_one (pt_not (pt_val (pe_call G1 hr rfl hm1 kp1 b1 .nil pass0 (pa_cons (pv 2) pa_nil))))) (fun _ _ _ _ _ => pv 2)) (pe_lst pa_nil) (nomark _)))), ?_⟩
    refine ⟨_, rfl, _, _, _, _, true, rfl, ClsV.ty _, .base (.lst ha), kit_ty (by decide +kernel), true, rfl, iteF ?_⟩
    refine ⟨_, rfl, a, _, rfl, .inl (SqL.of ha), _, rfl, rfl, _, rfl, ?_⟩
    rw [vL_length, decide_eq_true (rfl : V.int (st.length : Nat) = V.int (st.length : Nat))]
    refine iteF ?_
    refine ⟨_, rfl, a, rfl, ⟨_, SqL.of ha⟩, fun D nD => lc_list (xs := vL st) (fun i H' => Same H H' ∧ H' D = some (.lst [])) ⟨same_upd nD, upd_same⟩ (fun i H' _ c => SqL.of (c.1 _ _ ha)) ?_ ?_⟩
    · rintro i x H' hx ⟨s1, hD⟩
      obtain ⟨z, hz, rfl⟩ := vL_of hx
      refine ⟨rfl, ?_⟩
      exact ⟨_, rfl, _, rfl, true, rfl, iteF ⟨s1, hD⟩⟩
    · rintro H' ⟨s1, hD⟩
      refine ⟨(by show 0 ≤ sizeLine; decide), fun E2 nE => ?_⟩
      refine ⟨_, _, nil_dp (same_upd nE _ _ hD), nil_dp upd_same, nil_shaped, nil_shaped, ?_⟩
      rw [nil_eq]
      exact k _ (s1.put (s1.free nE))
theorem ok_ltorn {f : Addr} {fd : FuncData} (F : Fun K "_law_torn" "_law_torn" sLTorn f fd) (B : Bn mg) : FnOk P w K mg base CX0 1 f fd ["_law_after", "_law_image", "_law_writers"] (spLTorn K) := by
  refine F.ok scLTorn (fun vs H Q E h => ?_) (fun cdv A outer s H vs Q E hr h => ?_)
  · obtain ⟨a, b, wr, La, im, was, ps, rfl, _⟩ := h
    rfl
  · obtain ⟨a, b, wr, La, im, was, ps, rfl, ha, hb, hw, hll, hl, h64, hps, k⟩ := h
    refine ⟨_, pss_cons (ps_set (i := 3) scLTorn.nd rfl (.inl rfl) (pe_int)) (pss_cons (ps_for PassesOwn.never rfl (pi_list (pv 2)) (pg_name (i := 4) scLTorn.nd rfl (.inl rfl)) (pss_cons (ps_set (i := 5) scLTorn.nd rfl (.inl rfl) (pe_callB call_len_seq (by rfl) B.len PySem.boot_len (pa_cons (pe_lc (own := [("_law_x", 6)]) (g := gName 6) (tt := tTest (tOp rEq (tOp (rIxL K) (tVar 1) (tVar 6)) (tOp (rIxL K) (tVar 0) (tVar 6)))) rfl scLTorn.nd (pi_list (pv 4)) (blkOk_by (own := [("_law_x", 6)]) (N := nLTorn) (sc := defScope sLTorn) (by decide +kernel)) (fun _ _ _ _ _ => pg_name (i := 6) scLTorn.nd rfl (Or.inl rfl)) (fun _ _ _ _ _ => pts_one (pt_cmpR op_eq (pe_ix ix_list (pv 1) (pv 6) (fun _ _ => rfl)) (pe_ix ix_list (pv 0) (pv 6) (fun _ _ => rfl)) (nomark _))) (fun _ _ _ _ _ => pv 6)) pa_nil))) (pss_one (ps_if (PW.pt (pw_and (pt_cmpR op_lt (pe_int) (pv 5) (nomark _)) (pw_and1 (pt_cmpR op_lt (pv 5) (pe_callB call_len_seq (by rfl) B.len PySem.boot_len (pa_cons (pv 4) pa_nil)) (nomark _))))) (pss_one (ps_set (i := 3) scLTorn.nd rfl (.inl rfl) (pe_op op_add (pv 3) pe_int))) (pss_nil))))) (pss_one (ps_ret (pv 3)))), ?_⟩
    refine ⟨_, rfl, wr, rfl, ⟨_, SqL.of hw⟩, for_list (xs := was.map V.ref) (fun i σ H' => ∃ (v4 v5 : Option V), σ = [some (.ref a), some (.ref b), some (.ref wr), some (.int (tornN (fnm im) (fnm La) (ps.take i) : Nat)), v4, v5, none] ∧ Same H H')
      ⟨none, none, rfl, Same.refl _⟩ (fun i σ H' _ ⟨_, _, _, s1⟩ => SqL.of (s1 _ _ hw)) ?_ ?_⟩
    · rintro i x σ H1 hx ⟨v4, v5, rfl, s1⟩
      obtain ⟨pa, hpa, rfl⟩ := refs_get hx
      obtain ⟨part, hpt, hpl⟩ := hll.2 i pa hpa
      obtain ⟨hp64, hplt⟩ := hps part (List.mem_of_getElem? hpt)
      refine ⟨_, rfl, pa, rfl, ⟨_, SqL.of (s1 _ _ hpl)⟩, fun D nD => lc_list (xs := vL part) (CPv H1 D part (fun x => decide (fnm im x = fnm La x)) vI) (cpv_start nD) (fun i H' _ c => SqL.of (c.1 _ _ (s1 _ _ hpl))) ?_ ?_⟩
      · rintro j x H2 hx c
        obtain ⟨z, hz, rfl⟩ := vL_of hx
        have hzl := hplt z (List.mem_of_getElem? hz)
        have s2 := s1.trans c.1
        refine ⟨rfl, ?_⟩
        refine ⟨_, rfl, _, rfl, b, _, _, _, rfl, rfl, SqL.of (s2 _ _ hb), at_vL (get_fnm hzl), _, rfl, _, rfl, a, _, _, _, rfl, rfl, SqL.of (s2 _ _ ha), at_vL (get_fnm (by rw [hl]; exact hzl)), rfl, _, rfl, ?_⟩
        rw [dec_vI]
        refine ite2 (fun c2 => ?_) (fun c2 => ?_)
        · exact ⟨_, rfl, cpv_yes nD (by omega) c hz c2 rfl⟩
        · exact cpv_no c hz (by simpa using c2)
      · rintro H2 c
        obtain ⟨s2, e2⟩ := cpv_end (by rw [← vL_length]; exact c)
        refine ⟨D, _, rfl, .inl (SqL.of e2), ?_⟩
        have eD : (((part.filter fun x => decide (fnm im x = fnm La x)).map vI).length) = doneN (fnm im) (fnm La) part := by
          rw [List.length_map]
          rfl
        rw [eD]
        have hstep : tornN (fnm im) (fnm La) (ps.take (i + 1)) = tornN (fnm im) (fnm La) (ps.take i) + (if (decide (0 < doneN (fnm im) (fnm La) part) && decide (doneN (fnm im) (fnm La) part < part.length)) = true then 1 else 0) := by
          unfold tornN
          rw [List.take_add_one, hpt, List.filter_append, List.length_append]
          congr 1
          show (List.filter _ [part]).length = _
          rw [List.filter_cons]
          split <;> rfl
        have s12 := s1.trans s2
        refine ⟨_, rfl, _, _, rfl, rfl, _, rfl, ite2 (fun c1 => ⟨_, rfl, _, rfl, pa, _, rfl, .inl (SqL.of (s12 _ _ hpl)), _, _, rfl, rfl, _, rfl, ite2 (fun c2 => ?_) (fun c2 => ?_)⟩) (fun c1 => iteF ?_)⟩
        · have d1 := of_decide_eq_true c1
          have d2 := of_decide_eq_true c2
          rw [vL_length] at d2
          rw [if_pos (by rw [decide_eq_true (show 0 < doneN (fnm im) (fnm La) part by omega), decide_eq_true (show doneN (fnm im) (fnm La) part < part.length by omega)]; rfl)] at hstep
          exact ⟨_, rfl, _, _, rfl, rfl, some (.ref pa), some (.int (doneN (fnm im) (fnm La) part : Nat)), by rw [hstep]; rfl, s12⟩
        · have d2 : ¬ doneN (fnm im) (fnm La) part < part.length := fun z => c2 (decide_eq_true (by rw [vL_length]; omega))
          rw [if_neg (by rw [decide_eq_false d2, Bool.and_false]; decide)] at hstep
          exact ⟨some (.ref pa), some (.int (doneN (fnm im) (fnm La) part : Nat)), by rw [hstep]; rfl, s12⟩
        · have d1 : ¬ 0 < doneN (fnm im) (fnm La) part := fun z => c1 (decide_eq_true (by omega))
          rw [if_neg (by rw [decide_eq_false d1, Bool.false_and]; decide)] at hstep
          exact ⟨some (.ref pa), some (.int (doneN (fnm im) (fnm La) part : Nat)), by rw [hstep]; rfl, s12⟩
    · rintro σ H1 ⟨v4, v5, rfl, s1⟩
      have e : ps.take (was.map V.ref).length = ps := List.take_of_length_le (by rw [List.length_map, hll.1]; exact Nat.le_refl _)
      rw [e]
      exact ⟨_, rfl, k H1 s1⟩
end
end KW
end

section
set_option Elab.async false
set_option linter.all false
set_option maxRecDepth 100000
set_option maxHeartbeats 8000000
namespace KW
open PySem PySem.Spec PyProof.Rows L2 KR KM
def spKept (K : PySem.W.Frag) : Sp := fun vs H Q _ => ∃ (t b a m wr : Addr) (st Lb La im : List Nat) (was : List Addr) (ps : List (List Nat)), vs = [.ref t, .ref b, .ref a, .ref m, .ref wr] ∧ H t = some (.lst (vL st)) ∧ H b = some (.lst (vL Lb)) ∧ H a = some (.lst (vL La)) ∧ H m = some (.lst (vL im)) ∧
  H wr = some (.lst (was.map V.ref)) ∧ LL H was ps ∧ st.length = Lb.length ∧ La.length = Lb.length ∧ im.length = Lb.length ∧ Lb.length ≤ 64 ∧ (∀ p ∈ ps, p.length ≤ 64 ∧ ∀ x ∈ p, x < Lb.length) ∧
  (∀ p ∈ ps, (doneN (fnm st) (fnm Lb) p = p.length ∨ doneN (fnm st) (fnm La) p = p.length) ∧ (doneN (fnm im) (fnm La) p = 0 → doneN (fnm st) (fnm Lb) p = p.length) ∧ (doneN (fnm im) (fnm La) p = p.length → doneN (fnm st) (fnm La) p = p.length)) ∧
  (∀ x, x < Lb.length → (∀ p ∈ ps, x ∉ p) → fnm st x = fnm Lb x) ∧ ∀ H', Same H H' → Q (.bl true) H'
theorem ne_dec {a b : Nat} (c : (!decide (V.int ((a : Nat) : Int) = V.int ((b : Nat) : Int))) = true) : a ≠ b := fun e => by
  rw [e] at c
  rw [decide_eq_true rfl] at c
  cases c
theorem eq_dec {a b : Nat} (c : decide (V.int ((a : Nat) : Int) = V.int ((b : Nat) : Int)) = true) : a = b := vI_inj (of_decide_eq_true c)
section
variable {P : Program} {w : World} {K : PySem.W.Frag} {mg : Str → Option Value} {base : Heap}
theorem ok_kept {f : Addr} {fd : FuncData} (F : Fun K "_law_kept" "_law_kept" sKept f fd) (B : Bn mg) : FnOk P w K mg base CX0 1 f fd ["_law_told", "_law_before", "_law_after", "_law_image", "_law_writers"] (spKept K) := by
  refine F.ok scKept (fun vs H Q E h => ?_) (fun cdv A outer s H vs Q E hr h => ?_)
  · obtain ⟨t, b, a, m, wr, st, Lb, La, im, was, ps, rfl, _⟩ := h
    rfl
  · obtain ⟨t, b, a, m, wr, st, Lb, La, im, was, ps, rfl, ht, hb, ha, hm, hw, hll, l1, l2, l3, h64, hps, hK, hout, k⟩ := h
    refine ⟨_, pss_cons (ps_set (i := 5) scKept.nd rfl (.inl rfl) (pe_callB call_len_seq (by rfl) B.len PySem.boot_len (pa_cons (pv 1) pa_nil))) (pss_cons (ps_set (i := 6) scKept.nd rfl (.inr rfl) (pe_op op_rep (pe_lst (pa_cons pe_bl pa_nil)) (pv 5))) (pss_cons (ps_for PassesOwn.never rfl (pi_list (pv 4)) (pg_name (i := 7) scKept.nd rfl (.inl rfl)) (pss_cons (ps_for PassesOwn.never rfl (pi_list (pv 7)) (pg_name (i := 8) scKept.nd rfl (.inl rfl)) (pss_one (ps_asg pe_bl (pg_sub (pv 6) (pv 8) set_list)))) (pss_cons (ps_set (i := 9) scKept.nd rfl (.inl rfl) (pe_callB call_len_seq (by rfl) B.len PySem.boot_len (pa_cons (pv 7) pa_nil))) (pss_cons (ps_set (i := 10) scKept.nd rfl (.inl rfl) (pe_callB call_len_seq (by rfl) B.len PySem.boot_len (pa_cons (pe_lc (own := [("_law_x", 13)]) (g := gName 13) (tt := tTest (tOp rEq (tOp (rIxL K) (tVar 0) (tVar 13)) (tOp (rIxL K) (tVar 1) (tVar 13)))) rfl scKept.nd (pi_list (pv 7)) (blkOk_by (own := [("_law_x", 13)]) (N := nKept) (sc := defScope sKept) (by decide +kernel)) (fun _ _ _ _ _ => pg_name (i := 13) scKept.nd rfl (Or.inl rfl)) (fun _ _ _ _ _ => pts_one (pt_cmpR op_eq (pe_ix ix_list (pv 0) (pv 13) (fun _ _ => rfl)) (pe_ix ix_list (pv 1) (pv 13) (fun _ _ => rfl)) (nomark _))) (fun _ _ _ _ _ => pv 13)) pa_nil))) (pss_cons (ps_set (i := 11) scKept.nd rfl (.inl rfl) (pe_callB call_len_seq (by rfl) B.len PySem.boot_len (pa_cons (pe_lc (own := [("_law_x", 13)]) (g := gName 13) (tt := tTest (tOp rEq (tOp (rIxL K) (tVar 0) (tVar 13)) (tOp (rIxL K) (tVar 2) (tVar 13)))) rfl scKept.nd (pi_list (pv 7)) (blkOk_by (own := [("_law_x", 13)]) (N := nKept) (sc := defScope sKept) (by decide +kernel)) (fun _ _ _ _ _ => pg_name (i := 13) scKept.nd rfl (Or.inl rfl)) (fun _ _ _ _ _ => pts_one (pt_cmpR op_eq (pe_ix ix_list (pv 0) (pv 13) (fun _ _ => rfl)) (pe_ix ix_list (pv 2) (pv 13) (fun _ _ => rfl)) (nomark _))) (fun _ _ _ _ _ => pv 13)) pa_nil))) (pss_cons (ps_set (i := 12) scKept.nd rfl (.inl rfl) (pe_callB call_len_seq (by rfl) B.len PySem.boot_len (pa_cons (pe_lc (own := [("_law_x", 13)]) (g := gName 13) (tt := tTest (tOp rEq (tOp (rIxL K) (tVar 3) (tVar 13)) (tOp (rIxL K) (tVar 2) (tVar 13)))) rfl scKept.nd (pi_list (pv 7)) (blkOk_by (own := [("_law_x", 13)]) (N := nKept) (sc := defScope sKept) (by decide +kernel)) (fun _ _ _ _ _ => pg_name (i := 13) scKept.nd rfl (Or.inl rfl)) (fun _ _ _ _ _ => pts_one (pt_cmpR op_eq (pe_ix ix_list (pv 3) (pv 13) (fun _ _ => rfl)) (pe_ix ix_list (pv 2) (pv 13) (fun _ _ => rfl)) (nomark _))) (fun _ _ _ _ _ => pv 13)) pa_nil))) (pss_cons (ps_if (PW.pt (pw_and (pt_cmpR op_ne (pv 10) (pv 9) (nomark _)) (pw_and1 (pt_cmpR op_ne (pv 11) (pv 9) (nomark _))))) (pss_never) (pss_nil)) (pss_one (ps_if (PW.pt (pw_or (PW.pt (pw_and (pt_cmpR op_eq (pv 12) (pe_int) (nomark _)) (pw_and1 (pt_cmpR op_ne (pv 10) (pv 9) (nomark _))))) (pw_or1 (PW.pt (pw_and (pt_cmpR op_eq (pv 12) (pv 9) (nomark _)) (pw_and1 (pt_cmpR op_ne (pv 11) (pv 9) (nomark _)))))))) (pss_never) (pss_nil)))))))))) (pss_one (ps_ret (pe_cmpR (op_eqD hr.units) (pe_lc (own := [("_law_x", 13)]) (g := gName 13) (tt := tAnd (tNot (tB (tOp (rIxL K) (tVar 6) (tVar 13)))) (tTest (tOp rNe (tOp (rIxL K) (tVar 0) (tVar 13)) (tOp (rIxL K) (tVar 1) (tVar 13))))) rfl scKept.nd (pi_range1 (by rfl) B.range (pa_cons (pv 5) pa_nil)) (blkOk_by (own := [("_law_x", 13)]) (N := nKept) (sc := defScope sKept) (by decide +kernel)) (fun _ _ _ _ _ => pg_name (i := 13) scKept.nd rfl (Or.inl rfl)) (fun _ _ _ _ _ => pts_one (PW.pt (pw_and (pt_not (pt_val (pe_ix ix_list (pv 6) (pv 13) (fun _ _ => rfl)))) (pw_and1 (pt_cmpR op_ne (pe_ix ix_list (pv 0) (pv 13) (fun _ _ => rfl)) (pe_ix ix_list (pv 1) (pv 13) (fun _ _ => rfl)) (nomark _)))))) (fun _ _ _ _ _ => pv 13)) (pe_lst pa_nil) (nomark _)))))), ?_⟩
    refine ⟨_, rfl, b, _, rfl, .inl (SqL.of hb), ?_⟩
    refine ⟨(by show 1 ≤ sizeLine; decide), fun l0 n0 => ?_⟩
    have s0 := same_upd (o := .lst [V.bl false]) n0
    refine ⟨_, rfl, l0, _, _, rfl, rfl, upd_same, by rw [vL_length]; omega, by rw [vL_length]; omega, ?_, fun ins nins => ?_⟩
    · rw [vL_length, Int.toNat_natCast]
      show 1 * _ ≤ _
      exact Nat.le_of_lt (small1000 (by omega))
    have eRep : (List.replicate (((vL Lb).length : Nat) : Int).toNat [V.bl false]).flatten = (List.replicate Lb.length false).map V.bl := by
      rw [vL_length, Int.toNat_natCast, List.flatten_replicate_singleton, List.map_replicate]
    rw [eRep]
    have nins0 : H ins = none := s0.free nins
    have s1 : Same H (upd (upd H l0 (.lst [V.bl false])) ins (.lst ((List.replicate Lb.length false).map V.bl))) := s0.put nins0
    have eI0 : (upd (upd H l0 (.lst [V.bl false])) ins (.lst ((List.replicate Lb.length false).map V.bl))) ins = some (.lst ((List.replicate Lb.length false).map V.bl)) := upd_same
    generalize upd (upd H l0 (.lst [V.bl false])) ins (.lst ((List.replicate Lb.length false).map V.bl)) = H1 at s1 eI0
    refine ⟨_, rfl, wr, rfl, ⟨_, SqL.of (s1 _ _ hw)⟩, for_list (xs := was.map V.ref) (fun i σ H' => ∃ (Lin : List Bool) (v7 v8 v9 v10 v11 v12 : Option V), σ = [some (.ref t), some (.ref b), some (.ref a), some (.ref m), some (.ref wr), some (.int ((vL Lb).length : Nat)), some (.ref ins), v7, v8, v9, v10, v11, v12, none] ∧ Same H H' ∧
        H' ins = some (.lst (Lin.map V.bl)) ∧ Lin.length = Lb.length ∧ ∀ (j : Nat) (p : List Nat) (x : Nat), j < i → ps[j]? = some p → x ∈ p → Lin[x]? = some true)
      ⟨_, none, none, none, none, none, none, rfl, s1, eI0, List.length_replicate, fun j p x h => absurd h (Nat.not_lt_zero j)⟩ (fun i σ H' _ ⟨_, _, _, _, _, _, _, _, s2, _⟩ => SqL.of (s2 _ _ hw)) ?_ ?_⟩
    · rintro i x σ H2 hx ⟨Lin, v7, v8, v9, v10, v11, v12, rfl, s2, eI, lI, hI⟩
      obtain ⟨pa, hpa, rfl⟩ := refs_get hx
      obtain ⟨part, hpt, hpl⟩ := hll.2 i pa hpa
      have hpm := List.mem_of_getElem? hpt
      obtain ⟨hp64, hplt⟩ := hps part hpm
      obtain ⟨hk1, hk2, hk3⟩ := hK part hpm
      -- for record in part: inside[record] = True
      refine ⟨_, rfl, pa, rfl, ⟨_, SqL.of (s2 _ _ hpl)⟩, for_list (xs := vL part) (fun j σ H' => ∃ (Lin' : List Bool) (v8 : Option V), σ = [some (.ref t), some (.ref b), some (.ref a), some (.ref m), some (.ref wr), some (.int ((vL Lb).length : Nat)), some (.ref ins), some (.ref pa), v8, v9, v10, v11, v12, none] ∧ Same H H' ∧
          H' ins = some (.lst (Lin'.map V.bl)) ∧ Lin'.length = Lb.length ∧ (∀ x : Nat, Lin[x]? = some true → Lin'[x]? = some true) ∧ ∀ (j' x : Nat), j' < j → part[j']? = some x → Lin'[x]? = some true)
        ⟨Lin, _, rfl, s2, eI, lI, fun _ h => h, fun j' x h => absurd h (Nat.not_lt_zero j')⟩ (fun j σ H' _ ⟨_, _, _, s3, _⟩ => SqL.of (s3 _ _ hpl)) ?_ ?_⟩
      · rintro j x σ H3 hx ⟨Lin', v8', rfl, s3, eI', lI', hI1, hI2⟩
        obtain ⟨z, hz, rfl⟩ := vL_of hx
        have hzl := hplt z (List.mem_of_getElem? hz)
        refine ⟨_, rfl, _, rfl, ins, _, _, z, rfl, rfl, eI', by rw [List.length_map]; exact ixN_nat' (by omega), ?_⟩
        refine ⟨Lin'.set z true, _, rfl, s3.put nins0, ?_, by rw [List.length_set]; exact lI', fun x hx => ?_, fun j' x hj hx2 => ?_⟩
        · rw [upd_same, List.map_set]
        · by_cases e : x = z
          · rw [e, List.getElem?_set_self (by omega)]
          · rw [List.getElem?_set_ne (Ne.symm e)]
            exact hI1 x hx
        · by_cases e : x = z
          · rw [e, List.getElem?_set_self (by omega)]
          · rw [List.getElem?_set_ne (Ne.symm e)]
            rcases Nat.lt_succ_iff_lt_or_eq.mp hj with hj | hj
            · exact hI2 j' x hj hx2
            · subst hj
              rw [hz] at hx2
              exact absurd (Option.some.inj hx2).symm e
      rintro σ H3 ⟨Lin', v8', rfl, s3, eI', lI', hI1, hI2⟩
      rw [vL_length] at hI2
      refine ⟨_, rfl, pa, _, rfl, .inl (SqL.of (s3 _ _ hpl)), ?_⟩
      rw [vL_length part]
      have eI := eI'
      refine ⟨_, rfl, pa, rfl, ⟨_, SqL.of (s3 _ _ hpl)⟩, fun Da nDa => lc_list (xs := vL part) (CPv H3 Da part (fun x => decide (fnm st x = fnm Lb x)) vI) (cpv_start nDa) (fun i H' _ c => SqL.of (c.1 _ _ (s3 _ _ hpl))) ?_ ?_⟩
      · rintro j x H2 hx c
        obtain ⟨z, hz, rfl⟩ := vL_of hx
        have hzl := hplt z (List.mem_of_getElem? hz)
        have s2 := s3.trans c.1
        refine ⟨rfl, ?_⟩
        refine ⟨_, rfl, _, rfl, t, _, _, _, rfl, rfl, SqL.of (s2 _ _ ht), at_vL (get_fnm (by omega)), _, rfl, _, rfl, b, _, _, _, rfl, rfl, SqL.of (s2 _ _ hb), at_vL (get_fnm (by omega)), rfl, _, rfl, ?_⟩
        rw [dec_vI]
        refine ite2 (fun c2 => ?_) (fun c2 => ?_)
        · exact ⟨_, rfl, cpv_yes nDa (by omega) c hz c2 rfl⟩
        · exact cpv_no c hz (by simpa using c2)
      rintro HDa cDa
      obtain ⟨sDa, eDa⟩ := cpv_end (by rw [← vL_length]; exact cDa)
      clear cDa
      refine ⟨Da, _, rfl, .inl (SqL.of eDa), ?_⟩
      rw [show (((part.filter fun x => decide (fnm st x = fnm Lb x)).map vI).length) = doneN (fnm st) (fnm Lb) part from by rw [List.length_map]; rfl]
      have tDa := s3.trans sDa
      have eIDa := sDa _ _ eI
      refine ⟨_, rfl, pa, rfl, ⟨_, SqL.of (tDa _ _ hpl)⟩, fun Db nDb => lc_list (xs := vL part) (CPv HDa Db part (fun x => decide (fnm st x = fnm La x)) vI) (cpv_start nDb) (fun i H' _ c => SqL.of (c.1 _ _ (tDa _ _ hpl))) ?_ ?_⟩
      · rintro j x H2 hx c
        obtain ⟨z, hz, rfl⟩ := vL_of hx
        have hzl := hplt z (List.mem_of_getElem? hz)
        have s2 := tDa.trans c.1
        refine ⟨rfl, ?_⟩
        refine ⟨_, rfl, _, rfl, t, _, _, _, rfl, rfl, SqL.of (s2 _ _ ht), at_vL (get_fnm (by omega)), _, rfl, _, rfl, a, _, _, _, rfl, rfl, SqL.of (s2 _ _ ha), at_vL (get_fnm (by omega)), rfl, _, rfl, ?_⟩
        rw [dec_vI]
        refine ite2 (fun c2 => ?_) (fun c2 => ?_)
        · exact ⟨_, rfl, cpv_yes nDb (by omega) c hz c2 rfl⟩
        · exact cpv_no c hz (by simpa using c2)
      rintro HDb cDb
      obtain ⟨sDb, eDb⟩ := cpv_end (by rw [← vL_length]; exact cDb)
      clear cDb
      refine ⟨Db, _, rfl, .inl (SqL.of eDb), ?_⟩
      rw [show (((part.filter fun x => decide (fnm st x = fnm La x)).map vI).length) = doneN (fnm st) (fnm La) part from by rw [List.length_map]; rfl]
      have tDb := tDa.trans sDb
      have eIDb := sDb _ _ eIDa
      refine ⟨_, rfl, pa, rfl, ⟨_, SqL.of (tDb _ _ hpl)⟩, fun Dc nDc => lc_list (xs := vL part) (CPv HDb Dc part (fun x => decide (fnm im x = fnm La x)) vI) (cpv_start nDc) (fun i H' _ c => SqL.of (c.1 _ _ (tDb _ _ hpl))) ?_ ?_⟩
      · rintro j x H2 hx c
        obtain ⟨z, hz, rfl⟩ := vL_of hx
        have hzl := hplt z (List.mem_of_getElem? hz)
        have s2 := tDb.trans c.1
        refine ⟨rfl, ?_⟩
        refine ⟨_, rfl, _, rfl, m, _, _, _, rfl, rfl, SqL.of (s2 _ _ hm), at_vL (get_fnm (by omega)), _, rfl, _, rfl, a, _, _, _, rfl, rfl, SqL.of (s2 _ _ ha), at_vL (get_fnm (by omega)), rfl, _, rfl, ?_⟩
        rw [dec_vI]
        refine ite2 (fun c2 => ?_) (fun c2 => ?_)
        · exact ⟨_, rfl, cpv_yes nDc (by omega) c hz c2 rfl⟩
        · exact cpv_no c hz (by simpa using c2)
      rintro HDc cDc
      obtain ⟨sDc, eDc⟩ := cpv_end (by rw [← vL_length]; exact cDc)
      clear cDc
      refine ⟨Dc, _, rfl, .inl (SqL.of eDc), ?_⟩
      rw [show (((part.filter fun x => decide (fnm im x = fnm La x)).map vI).length) = doneN (fnm im) (fnm La) part from by rw [List.length_map]; rfl]
      have tDc := tDb.trans sDc
      have eIDc := sDc _ _ eIDb
      have fin : ∃ (Lin : List Bool) (v7 v8 v9 v10 v11 v12 : Option V), ([some (.ref t), some (.ref b), some (.ref a), some (.ref m), some (.ref wr), some (.int ((vL Lb).length : Nat)), some (.ref ins), some (.ref pa), v8', some (.int (part.length : Nat)), some (.int (doneN (fnm st) (fnm Lb) part : Nat)), some (.int (doneN (fnm st) (fnm La) part : Nat)), some (.int (doneN (fnm im) (fnm La) part : Nat)), none] : L2.St) =
          [some (.ref t), some (.ref b), some (.ref a), some (.ref m), some (.ref wr), some (.int ((vL Lb).length : Nat)), some (.ref ins), v7, v8, v9, v10, v11, v12, none] ∧ Same H HDc ∧
          HDc ins = some (.lst (Lin.map V.bl)) ∧ Lin.length = Lb.length ∧ ∀ (j : Nat) (p : List Nat) (x : Nat), j < i + 1 → ps[j]? = some p → x ∈ p → Lin[x]? = some true := by
        refine ⟨Lin', _, _, _, _, _, _, rfl, tDc, eIDc, lI', fun j p x hj hp hx => ?_⟩
        rcases Nat.lt_succ_iff_lt_or_eq.mp hj with hj | hj
        · exact hI1 x (hI j p x hj hp hx)
        · subst hj
          rw [hpt] at hp
          cases hp
          obtain ⟨j', hj'⟩ := List.mem_iff_getElem?.mp hx
          exact hI2 j' x (List.getElem?_eq_some_iff.mp hj').1 hj'
      -- olds != many and news != many
      refine ⟨_, rfl, _, rfl, rfl, _, rfl, ite2 (fun c1 => ⟨_, rfl, _, rfl, rfl, _, rfl, ite2 (fun c2 => ?_) (fun c2 => ?_)⟩) (fun c1 => iteF ?_)⟩
      · exact absurd hk1 (fun z => z.elim (ne_dec c1) (ne_dec c2))
      all_goals
        refine ⟨_, rfl, rfl, _, rfl, ite2 (fun c3 => ⟨_, rfl, _, rfl, rfl, _, rfl, ite2 (fun c4 => ?_) (fun c4 => ?_)⟩) (fun c3 => iteF ?_)⟩
        · exact absurd (hk2 (eq_dec (b := 0) c3)) (ne_dec c4)
        all_goals
          refine ⟨_, rfl, _, rfl, rfl, _, rfl, ite2 (fun c5 => ⟨_, rfl, _, rfl, rfl, _, rfl, ite2 (fun c6 => ?_) (fun c6 => ?_)⟩) (fun c5 => iteF ?_)⟩
          · exact absurd (hk3 (eq_dec c5)) (ne_dec c6)
          all_goals exact fin
    · rintro σ H2 ⟨Lin, v7, v8, v9, v10, v11, v12, rfl, s2, eI, lI, hI⟩
      rw [List.length_map, hll.1] at hI
      refine ⟨_, rfl, _, rfl, by rw [vL_length]; omega, by rw [vL_length]; omega, fun D nD => lc_range (fun j H' => Same H2 H' ∧ H' D = some (.lst [])) ⟨same_upd nD, upd_same⟩ ?_ ?_⟩
      · rintro j H3 hj ⟨s3, hD⟩
        rw [vL_length, Int.toNat_natCast] at hj
        have ej : (0 : Int) + ((j : Nat) : Int) = ((j : Nat) : Int) := Int.zero_add _
        have s23 := s2.trans s3
        have hjl : j < Lin.length := by omega
        refine ⟨rfl, ?_⟩
        refine ⟨_, rfl, _, rfl, ins, _, _, _, rfl, rfl, SqL.of (s3 _ _ eI), at_of ej (by rw [List.getElem?_map, List.getElem?_eq_getElem hjl]; rfl), _, rfl, ite2 (fun c1 => ?_) (fun c1 => iteF ⟨s3, hD⟩)⟩
        have heq : fnm st j = fnm Lb j := hout j hj fun p hp hx => by
          obtain ⟨j', hj'⟩ := List.mem_iff_getElem?.mp hp
          have h1 := hI j' p j (List.getElem?_eq_some_iff.mp hj').1 hj' hx
          rw [List.getElem?_eq_getElem hjl] at h1
          rw [Option.some.inj h1] at c1
          cases c1
        refine ⟨_, rfl, _, rfl, t, _, _, _, rfl, rfl, SqL.of (s23 _ _ ht), at_of ej (vL_get (get_fnm (by omega))), _, rfl, _, rfl, b, _, _, _, rfl, rfl, SqL.of (s23 _ _ hb), at_of ej (vL_get (get_fnm hj)), rfl, _, rfl, ?_⟩
        rw [heq, decide_eq_true rfl]
        exact iteF ⟨s3, hD⟩
      · rintro H3 ⟨s3, hD⟩
        refine ⟨(by show 0 ≤ sizeLine; decide), fun E2 nE => ?_⟩
        refine ⟨_, _, nil_dp (same_upd nE _ _ hD), nil_dp upd_same, nil_shaped, nil_shaped, ?_⟩
        rw [nil_eq]
        exact k _ ((s2.trans s3).put ((s2.trans s3).free nE))
end
end KW
end

section
/-! KLawM: what the world says of the image, in the words of the defs' promises. -/
set_option linter.all false
namespace KW
open KM
section
variable {n : Nat} {Lb La im st : List Nat} {bs : List Blk}
theorem img_lt (W : World n bs (fnm Lb) (fnm La) (fnm im)) {x : Nat} (h : x < n) : fnm im x < n := by
  obtain ⟨b, hb, hx⟩ := W.ok.at h
  obtain ⟨i, rfl⟩ := W.ok.e_of hb hx
  rw [im_e W.ok W.im hb i]
  exact W.ok.lt hb (W.ok.e_mem hb _)
theorem good_im (hl : im.length = n) (h64 : n ≤ 64) (W : World n bs (fnm Lb) (fnm La) (fnm im)) : GoodIm im where
  img := fun x hx => by
    obtain ⟨i, hi, e⟩ := List.mem_iff_getElem.mp hx
    have h1 : fnm im i = x := by
      have := get_fnm hi
      rw [List.getElem?_eq_getElem hi, e] at this
      exact (Option.some.inj this).symm
    rw [← h1, hl]
    exact img_lt W (by omega)
  len := by omega
  form := fun gs G g hg => by
    rw [hl] at G
    refine ⟨?_, W.piece G hg⟩
    obtain ⟨b, hb, c, e, hc⟩ := W.loc G hg
    have h1 : g.length ≤ b.p.length := nd_sub (G.gnd hg) fun x hx => by
      rw [e] at hx
      obtain ⟨i, _, rfl⟩ := List.mem_map.mp hx
      exact W.ok.e_mem hb i
    rw [W.ok.len b hb] at h1
    have : b.w.len ≤ 4 := by cases b.w <;> decide
    omega
theorem torn_eq (im after : Nat → Nat) (bs : List Blk) : (bs.filter (partB im after)).length = tornN im after (chg bs) := by
  unfold tornN chg
  induction bs with
  | nil => rfl
  | cons b bs ih =>
    rw [List.filter_cons, List.filter_cons (p := fun b : Blk => b.w.isChange), partB_eq]
    cases hc : b.w.isChange with
    | false => simpa using ih
    | true =>
      simp only [Bool.true_and, if_true]
      rw [List.map_cons, List.filter_cons]
      unfold doneN at ih ⊢
      split
      · rw [List.length_cons, List.length_cons, ih]
      · exact ih
theorem doneN_all {f g : Nat → Nat} {p : List Nat} (h : ∀ x ∈ p, f x = g x) : doneN f g p = p.length := by
  unfold doneN
  rw [List.filter_eq_self.mpr fun x hx => decide_eq_true (h x hx)]
theorem chg_mem {p : List Nat} (h : p ∈ chg bs) : ∃ b ∈ bs, b.w.isChange = true ∧ p = b.p := by
  unfold chg at h
  obtain ⟨b, hb, rfl⟩ := List.mem_map.mp h
  obtain ⟨h1, h2⟩ := List.mem_filter.mp hb
  exact ⟨b, h1, h2, rfl⟩
theorem chg_lt (W : World n bs (fnm Lb) (fnm La) (fnm im)) {p : List Nat} (h : p ∈ chg bs) : 0 < p.length ∧ p.length ≤ 64 ∧ ∀ x ∈ p, x < n := by
  obtain ⟨b, hb, _, rfl⟩ := chg_mem h
  have h1 := W.ok.len b hb
  have h2 := b.w.len_pos
  have h3 : b.w.len ≤ 4 := by cases b.w <;> decide
  exact ⟨by omega, by omega, fun x hx => W.ok.lt hb hx⟩
theorem kept_in (W : World n bs (fnm Lb) (fnm La) (fnm im)) (T : ToldOf n (fnm im) (fnm st)) {p : List Nat} (h : p ∈ chg bs) :
    (doneN (fnm st) (fnm Lb) p = p.length ∨ doneN (fnm st) (fnm La) p = p.length) ∧ (doneN (fnm im) (fnm La) p = 0 → doneN (fnm st) (fnm Lb) p = p.length) ∧ (doneN (fnm im) (fnm La) p = p.length → doneN (fnm st) (fnm La) p = p.length) := by
  obtain ⟨b, hb, hc, rfl⟩ := chg_mem h
  obtain ⟨h1, h2, h3⟩ := W.whole T hb
  refine ⟨h1.elim (fun z => .inl (doneN_all z)) (fun z => .inr (doneN_all z)), fun e => doneN_all (h2 ?_), fun e => doneN_all (h3 ?_)⟩
  · rw [bits_any]
    unfold doneN at e
    rw [e]
    rfl
  · rw [bits_all]
    unfold doneN at e
    exact decide_eq_true e
theorem kept_out (W : World n bs (fnm Lb) (fnm La) (fnm im)) (T : ToldOf n (fnm im) (fnm st)) {x : Nat} (hx : x < n) (h : ∀ p ∈ chg bs, x ∉ p) : fnm st x = fnm Lb x := by
  obtain ⟨b, hb, hxb⟩ := W.ok.at hx
  have hc : b.w.isChange = false := by
    cases e : b.w.isChange with
    | false => rfl
    | true => exact absurd hxb (h b.p (List.mem_map_of_mem (List.mem_filter.mpr ⟨hb, e⟩)))
  rcases (W.whole T hb).1 with z | z
  · exact z x hxb
  · rw [z x hxb]
    exact (W.still hb hc x hxb).symm
end
end KW
end

section
set_option Elab.async false
set_option linter.all false
set_option maxRecDepth 100000
set_option maxHeartbeats 8000000
namespace KW
open PySem PySem.Spec PyProof.Rows L2 KR KM ClX
abbrev sLaw : Stmt := top 44
abbrev nLaw : List Str := ["_law_script", "_law_start", "_law_size_here", "_law_numbers", "_law_before", "_law_after", "_law_writers", "_law_image", "_law_k", "_law_record", "_law_mine", "_law_torn_here", "_law_told", "_law_number"]
theorem scLaw : FnScope nLaw ["_law_script"] (defScope sLaw) := ⟨rfl, rfl, rfl, by decide +kernel, rfl, by decide +kernel, by decide +kernel⟩
def spLaw (K : PySem.W.Frag) : Sp := fun vs H Q _ => ∃ (a : Addr) (ns : List Int), vs = [.ref a] ∧ SqL K H a (ns.map V.int) ∧ ns.length ≤ 63 ∧ ∀ H', Q (.bl true) H'
/-- how repair is called -/
structure RepC (P : Program) (w : World) (K : PySem.W.Frag) (mg : Str → Option Value) (base : Heap) (C : Addr) : Prop where
  ex : ∃ (f : Addr) (fd : FuncData), FnOk P w K mg base CX0 9 f fd ["image", "rules"] (spRepaired K C) ∧ mg "repair" = some (.ref f) ∧ PySem.W.keepIn K (.ref f) = true ∧ (∃ ds, Vals [V.non] ds ∧ Binds K fd ["image", "rules"] ds) ∧ Binds K fd ["image", "rules"] []
/-- how Rules.numbered is called -/
structure NumC (P : Program) (w : World) (K : PySem.W.Frag) (mg : Str → Option Value) (base : Heap) (C : Addr) : Prop where
  ex : ∃ (mc : Value) (p g : Addr), CRead K C mc ∧ CMet K C mc "numbered" p g ∧ FnR P w K mg base CX0 6 g (spNumbered C)
theorem SameBut.new {p : Addr} {H H' H2 : Hp} (s : Same H H') (n : H' p = none) (b : SameBut p H' H2) : Same H H2 := (s.but.trans b).same (s.free n)
theorem int_dp {K : PySem.W.Frag} {H : Hp} : ∀ l : List Nat, DpAll K H (vL l) ((l.map fun n => ((n : Nat) : Int)).map PyData.int)
  | [] => .nil
  | x :: l => .cons (.int _) (int_dp l)
theorem ints_eqv (l : List Nat) : PyData.eqv (.list ((l.map fun n => ((n : Nat) : Int)).map PyData.int)) (.list ((l.map fun n => ((n : Nat) : Int)).map PyData.int)) = true :=
  SeqAt.eqv_refl _ (SeqAt.canLay_of_shaped (PySem.W.ke_shaped_ints _))
section
variable {P : Program} {w : World} {K : PySem.W.Frag} {mg : Str → Option Value} {base : Heap}
theorem ok_law {f C : Addr} {fd : FuncData} (F : Fun K "law" "law" sLaw f fd) (B : Bn mg) (hC : mg "Rules" = some (.ref C)) (C1 : Cal P w K mg base 2 "_law_stream" ["_law_script", "_law_k"] (spStream K)) (C2 : Cal P w K mg base 2 "_law_size" ["_law_stream_here"] spSize)
    (C3 : Cal P w K mg base 1 "_law_draw" ["_law_stream_here", "_law_size_here"] spDraw) (C4 : Cal P w K mg base 3 "_law_world" ["_law_stream_here", "_law_size_here"] spWorld) (C5 : Cal P w K mg base 2 "_law_written" ["_law_stream_here", "_law_part"] (spWritten K))
    (C6 : Cal P w K mg base 4 "is_repairable" ["image"] (spIsRep K)) (C7 : Cal P w K mg base 4 "torn_pieces" ["image"] (spTornP K)) (C8 : Cal P w K mg base 1 "_law_torn" ["_law_after", "_law_image", "_law_writers"] (spLTorn K)) (C9 : RepC P w K mg base C)
    (C10 : Cal P w K mg base 2 "_law_row" ["_law_told", "_law_size_here"] spRow) (C11 : Cal P w K mg base 1 "_law_kept" ["_law_told", "_law_before", "_law_after", "_law_image", "_law_writers"] (spKept K)) (N : NumC P w K mg base C) : FnOk P w K mg base CX0 10 f fd ["_law_script"] (spLaw K) := by
  obtain ⟨f1, fd1, G1, hm1, kp1, b1⟩ := C1
  obtain ⟨f2, fd2, G2, hm2, kp2, b2⟩ := C2
  obtain ⟨f3, fd3, G3, hm3, kp3, b3⟩ := C3
  obtain ⟨f4, fd4, G4, hm4, kp4, b4⟩ := C4
  obtain ⟨f5, fd5, G5, hm5, kp5, b5⟩ := C5
  obtain ⟨f6, fd6, G6, hm6, kp6, b6⟩ := C6
  obtain ⟨f7, fd7, G7, hm7, kp7, b7⟩ := C7
  obtain ⟨f8, fd8, G8, hm8, kp8, b8⟩ := C8
  obtain ⟨f9, fd9, G9, hm9, kp9, ⟨ds9, v9, b9⟩, b9'⟩ := C9.ex
  obtain ⟨f10, fd10, G10, hm10, kp10, b10⟩ := C10
  obtain ⟨f11, fd11, G11, hm11, kp11, b11⟩ := C11
  obtain ⟨mc, pN, gN, rdC, cmN, FN⟩ := N.ex
  refine F.ok scLaw (fun vs H Q E h => ?_) (fun cdv A outer s H vs Q E hr h => ?_)
  · obtain ⟨a, ns, rfl, _⟩ := h
    rfl
  · obtain ⟨a, ns, rfl, hS, hn63, k⟩ := h
    have h1 : Room 1 _ := hr.mono (by decide)
    have h2 : Room 2 _ := hr.mono (by decide)
    have h3 : Room 3 _ := hr.mono (by decide)
    have h4 : Room 4 _ := hr.mono (by decide)
    have h6 : Room 6 _ := hr.mono (by decide)
    refine ⟨_, pss_cons (ps_set (i := 1) scLaw.nd rfl (.inl rfl) (pe_call G1 h2 rfl hm1 kp1 b1 .nil pass0 (pa_cons (pv 0) (pa_cons (pe_int) pa_nil)))) (pss_cons (ps_set (i := 2) scLaw.nd rfl (.inl rfl) (pe_call G2 h2 rfl hm2 kp2 b2 .nil pass0 (pa_cons (pv 1) pa_nil))) (pss_cons (ps_set (i := 3) scLaw.nd rfl (.inl rfl) (pe_lst (pa_cons (pe_call G3 h1 rfl hm3 kp3 b3 .nil pass0 (pa_cons (pv 1) (pa_cons (pe_int) pa_nil))) (pa_cons (pe_call G3 h1 rfl hm3 kp3 b3 .nil pass0 (pa_cons (pv 1) (pa_cons (pe_int) pa_nil))) pa_nil)))) (pss_cons (ps_asg (pe_call G4 h3 rfl hm4 kp4 b4 .nil pass0 (pa_cons (pe_call G1 h2 rfl hm1 kp1 b1 .nil pass0 (pa_cons (pv 0) (pa_cons (pe_int) pa_nil))) (pa_cons (pv 2) pa_nil))) (pg_lst rfl (pgs_cons (pg_name (i := 4) scLaw.nd rfl (.inl rfl)) (pgs_cons (pg_name (i := 5) scLaw.nd rfl (.inl rfl)) (pgs_cons (pg_name (i := 6) scLaw.nd rfl (.inl rfl)) pgs_nil))))) (pss_cons (ps_set (i := 7) scLaw.nd rfl (.inl rfl) (pe_callTy call_list_of (by rfl) B.list (by decide +kernel) (pa_cons (pv 4) pa_nil))) (pss_cons (ps_for PassesOwn.never rfl (pi_range1 (by rfl) B.range (pa_cons (pe_callB call_len_seq (by rfl) B.len PySem.boot_len (pa_cons (pv 6) pa_nil)) pa_nil)) (pg_name (i := 8) scLaw.nd rfl (.inl rfl)) (pss_one (ps_for PassesOwn.never rfl (pi_list (pe_call G5 h2 rfl hm5 kp5 b5 .nil pass0 (pa_cons (pe_call G1 h2 rfl hm1 kp1 b1 .nil pass0 (pa_cons (pv 0) (pa_cons (pe_op op_add pe_int (pv 8)) pa_nil))) (pa_cons (pe_ix ix_list (pv 6) (pv 8) (fun _ _ => rfl)) pa_nil)))) (pg_name (i := 9) scLaw.nd rfl (.inl rfl)) (pss_one (ps_asg (pe_ix ix_list (pv 5) (pv 9) (fun _ _ => rfl)) (pg_sub (pv 7) (pv 9) set_list)))))) (pss_cons (ps_set (i := 10) scLaw.nd rfl (.inl rfl) (pe_callTy call_list_of (by rfl) B.list (by decide +kernel) (pa_cons (pv 7) pa_nil))) (pss_cons (ps_if (pt_cmpR op_isnot_bl (pe_call G6 h4 rfl hm6 kp6 b6 .nil pass0 (pa_cons (pv 10) pa_nil)) pe_bl (nomark _)) (pss_never) (pss_nil)) (pss_cons (ps_set (i := 11) scLaw.nd rfl (.inl rfl) (pe_call G7 h4 rfl hm7 kp7 b7 .nil pass0 (pa_cons (pv 10) pa_nil))) (pss_cons (ps_if (PW.pt (pw_or (pt_not (pt_val (pe_callB call_isi (by rfl) B.isinstance boot_isinstance (pa_cons (pv 11) (pa_cons (pe_bltn (v := .ty "list") (by rfl) B.list boot_list rfl) pa_nil))))) (pw_or1 (pt_cmpR op_ne (pe_callB call_len_seq (by rfl) B.len PySem.boot_len (pa_cons (pv 11) pa_nil)) (pe_call G8 h1 rfl hm8 kp8 b8 .nil pass0 (pa_cons (pv 5) (pa_cons (pv 7) (pa_cons (pv 6) pa_nil)))) (nomark _))))) (pss_never) (pss_nil)) (pss_cons (ps_if (pt_cmpR op_le (pv 2) (pe_int) (nomark _)) (pss_one (ps_set (i := 3) scLaw.nd rfl (.inl rfl) (pe_listRg rfl (by rfl) B.list (prg_1 (by rfl) B.range pe_int)))) (pss_nil)) (pss_cons (ps_set (i := 12) scLaw.nd rfl (.inl rfl) (pe_call G9 hr rfl hm9 kp9 b9 v9 pass0 (pa_cons (pv 10) pa_nil))) (pss_cons (ps_if (PW.pt (pw_or (pt_not (pt_val (pe_call G10 h2 rfl hm10 kp10 b10 .nil pass0 (pa_cons (pv 12) (pa_cons (pv 2) pa_nil))))) (pw_or1 (pt_not (pt_val (pe_call G11 h1 rfl hm11 kp11 b11 .nil pass0 (pa_cons (pv 12) (pa_cons (pv 4) (pa_cons (pv 5) (pa_cons (pv 7) (pa_cons (pv 6) pa_nil))))))))))) (pss_never) (pss_nil)) (pss_cons (ps_for PassesOwn.never rfl (pi_list (pv 3)) (pg_name (i := 13) scLaw.nd rfl (.inl rfl)) (pss_cons (ps_set (i := 12) scLaw.nd rfl (.inl rfl) (pe_call G9 hr rfl hm9 kp9 b9' .nil pass0 (pa_cons (pv 10) (pa_cons (pe_cmeth (pe_glob (v := .ref C) (by rfl) hC rfl) rdC cmN FN h6 pass0 (pa_cons (pv 13) pa_nil)) pa_nil)))) (pss_one (ps_if (PW.pt (pw_or (pt_not (pt_val (pe_call G10 h2 rfl hm10 kp10 b10 .nil pass0 (pa_cons (pv 12) (pa_cons (pv 2) pa_nil))))) (pw_or1 (pt_not (pt_val (pe_call G11 h1 rfl hm11 kp11 b11 .nil pass0 (pa_cons (pv 12) (pa_cons (pv 4) (pa_cons (pv 5) (pa_cons (pv 7) (pa_cons (pv 6) pa_nil))))))))))) (pss_never) (pss_nil))))) (pss_one (ps_ret (pe_cmpR (op_eqD hr.units) (pv 10) (pv 7) (nomark _))))))))))))))))), ?_⟩
    -- start, size, numbers
    refine ⟨_, rfl, a, ns, 0, rfl, hS, fun p1 H1 s1 np1 hp1 => ?_⟩
    refine ⟨_, rfl, p1, rfl, hp1, fun n H2 hn hp2 s2 => ?_⟩
    refine ⟨_, rfl, p1, _, rfl, hp2, by decide, by decide, fun d1 H3 hd1 hp3 s3 => ?_⟩
    refine ⟨_, rfl, p1, _, rfl, hp3, by decide, by decide, fun d2 H4 hd2 hp4 s4 => ?_⟩
    refine ⟨(by show 2 ≤ sizeLine; decide), fun nl nnl => ?_⟩
    have t4 : Same H H4 := (s1.but.trans ((s2.trans s3).trans s4)).same np1
    have hnl : (upd H4 nl (.lst [V.int (d1 : Nat), V.int (d2 : Nat)])) nl = some (.lst [V.int (d1 : Nat), V.int (d2 : Nat)]) := upd_same
    have t5 : Same H (upd H4 nl (.lst [V.int (d1 : Nat), V.int (d2 : Nat)])) := t4.put (t4.free nnl)
    generalize upd H4 nl (.lst [V.int (d1 : Nat), V.int (d2 : Nat)]) = H5 at hnl t5
    -- before, after, writers
    refine ⟨_, rfl, a, ns, 1, rfl, t5.seq hS, fun p2 H6 s6 np2 hp2' => ⟨_, rfl, p2, n, rfl, hp2', hn, fun r b a' wr was Lb La bs H7 s7 hp7 hr7 hb ha hw hll lb la lw WO => ?_⟩⟩
    have t7 : Same H5 H7 := (s6.but.trans s7).same np2
    refine ⟨r, _, rfl, SqL.of hr7, rfl, _, _, rfl, _, _, rfl, _, _, rfl, rfl, ?_⟩
    -- image
    refine ⟨_, rfl, b, _, rfl, .inl (SqL.of hb), fun im0 nim => ?_⟩
    have s8 := same_upd (o := .lst (vL Lb)) nim
    have him0 : (upd H7 im0 (.lst (vL Lb))) im0 = some (.lst (vL Lb)) := upd_same
    have nb0 : b ≠ im0 := ne_of_none hb nim
    have na0 : a' ≠ im0 := ne_of_none ha nim
    have nw0 : wr ≠ im0 := ne_of_none hw nim
    have nn0 : nl ≠ im0 := ne_of_none (t7 _ _ hnl) nim
    have nS0 : ∀ o, H7 im0 = some o → False := fun o e => by rw [nim] at e; cases e
    have nl0 : ∀ x ∈ was, x ≠ im0 := fun x hx => by
      obtain ⟨j, hj⟩ := List.mem_iff_getElem?.mp hx
      obtain ⟨g, _, hg⟩ := hll.2 j x hj
      exact ne_of_none hg nim
    have t8 : Same H (upd H7 im0 (.lst (vL Lb))) := (t5.trans t7).trans s8
    have nim0 : H im0 = none := (t5.trans t7).free nim
    have hb8 := s8 _ _ hb
    have ha8 := s8 _ _ ha
    have hw8 := s8 _ _ hw
    have hnl8 := s8 _ _ (t7 _ _ hnl)
    have hll8 := hll.same s8
    generalize upd H7 im0 (.lst (vL Lb)) = H8 at him0 t8 hb8 ha8 hw8 hnl8 hll8
    have W0 : World n bs (fnm Lb) (fnm La) (fnm Lb) := ⟨WO, fun x _ => .inl rfl⟩
    refine ⟨_, rfl, wr, _, rfl, .inl (SqL.of hw8), _, rfl, (by rw [List.length_map]; omega), (by rw [List.length_map]; omega), for_range (fun i σ H' => ∃ (im : List Nat) (v8 v9 : Option V), σ = [some (.ref a), some (.ref p1), some (.int (n : Nat)), some (.ref nl), some (.ref b), some (.ref a'), some (.ref wr), some (.ref im0), v8, v9, none, none, none, none] ∧
        SameBut im0 H8 H' ∧ H' im0 = some (.lst (vL im)) ∧ im.length = n ∧ ∀ x, x < n → fnm im x = fnm Lb x ∨ fnm im x = fnm La x)
      ⟨Lb, none, none, rfl, (Same.refl _).but, him0, lb, fun x _ => .inl rfl⟩ ?_ ?_⟩
    · rintro i σ H9 hi ⟨im, v8, v9, rfl, s9, him9, lim, hbi⟩
      rw [List.length_map, Int.toNat_natCast] at hi
      obtain ⟨pa, hpa⟩ : ∃ pa, was[i]? = some pa := ⟨_, List.getElem?_eq_getElem hi⟩
      obtain ⟨part, hpt, hpl⟩ := hll8.2 i pa hpa
      have hpn := nl0 pa (List.mem_of_getElem? hpa)
      obtain ⟨hpos, hp64, hplt⟩ := chg_lt W0 (List.mem_of_getElem? hpt)
      have ei : (0 : Int) + ((i : Nat) : Int) = ((i : Nat) : Int) := Int.zero_add _
      have t9 : Same H H9 := (t8.but.trans s9).same nim0
      refine ⟨_, rfl, _, rfl, _, _, rfl, rfl, a, ns, 2 + i, ?_, t9.seq hS, fun p3 H10 s10 np3 hp3' => ?_⟩
      · show [V.ref a, V.int (2 + (0 + ((i : Nat) : Int)))] = [V.ref a, V.int ((2 + i : Nat) : Int)]
        rw [Int.zero_add]
        rfl
      have hpl9 := s9 _ _ hpn hpl
      have hw9 := s9 _ _ nw0 hw8
      refine ⟨_, rfl, _, rfl, wr, _, _, _, rfl, rfl, SqL.of (s10 _ _ hw9), at_of ei (by rw [List.getElem?_map, hpa]; rfl), p3, pa, part, rfl, hp3', s10 _ _ hpl9, ne_of_none hpl9 np3, hpos, hp64, fun q dn H11 s11 nq hq hdn => ?_⟩
      have t11 : Same H9 H11 := (s10.but.trans s11).same np3
      have nqi : q ≠ im0 := (ne_of_none (s10 _ _ him9) nq).symm
      refine ⟨q, rfl, ⟨_, SqL.of hq⟩, for_list (xs := vL dn) (fun j σ H' => ∃ (im' : List Nat) (v9 : Option V), σ = [some (.ref a), some (.ref p1), some (.int (n : Nat)), some (.ref nl), some (.ref b), some (.ref a'), some (.ref wr), some (.ref im0), some (.int (0 + (i : Nat))), v9, none, none, none, none] ∧
          SameBut im0 H11 H' ∧ H' im0 = some (.lst (vL im')) ∧ im'.length = n ∧ ∀ x, x < n → fnm im' x = fnm Lb x ∨ fnm im' x = fnm La x)
        ⟨im, _, rfl, (Same.refl _).but, t11 _ _ him9, lim, hbi⟩ (fun j σ H' _ ⟨_, _, _, s12, _⟩ => SqL.of (s12 _ _ nqi hq)) ?_ ?_⟩
      · rintro j x σ H12 hx ⟨im', v9', rfl, s12, him12, lim', hbi'⟩
        obtain ⟨z, hz, rfl⟩ := vL_of hx
        have hzl := hplt z (hdn z (List.mem_of_getElem? hz))
        have ha12 := s12 _ _ na0 (t11 _ _ (s9 _ _ na0 ha8))
        refine ⟨_, rfl, _, rfl, a', _, _, _, rfl, rfl, SqL.of ha12, at_vL (get_fnm (by omega)), _, rfl, _, rfl, im0, _, _, z, rfl, rfl, him12, by rw [vL_length]; exact ixN_nat' (by omega), ?_⟩
        rw [vL_set]
        refine ⟨im'.set z (fnm La z), _, rfl, s12.upd, upd_same, by rw [List.length_set]; exact lim', fun x hx => ?_⟩
        rw [fnm_set (by omega)]
        by_cases e : x = z
        · rw [if_pos e, e]
          exact .inr rfl
        · rw [if_neg e]
          exact hbi' x hx
      · rintro σ H12 ⟨im', v9', rfl, s12, him12, lim', hbi'⟩
        exact ⟨im', _, _, rfl, (s9.trans t11.but).trans s12, him12, lim', hbi'⟩
    rintro σ H9 ⟨im, v8, v9, rfl, s9, him9, lim, hbi⟩
    -- mine
    refine ⟨_, rfl, im0, _, rfl, .inl (SqL.of him9), fun mi nmi => ?_⟩
    have sm := same_upd (o := .lst (vL im)) nmi
    have fmi : (upd H9 mi (.lst (vL im))) mi = some (.lst (vL im)) := upd_same
    have fb := sm _ _ (s9 _ _ nb0 hb8)
    have fa := sm _ _ (s9 _ _ na0 ha8)
    have fw := sm _ _ (s9 _ _ nw0 hw8)
    have fn := sm _ _ (s9 _ _ nn0 hnl8)
    have fim := sm _ _ him9
    have fll : LL (upd H9 mi (.lst (vL im))) was (chg bs) := ⟨hll8.1, fun j x e => by
      obtain ⟨g, g1, g2⟩ := hll8.2 j x e
      exact ⟨g, g1, sm _ _ (s9 _ _ (nl0 x (List.mem_of_getElem? e)) g2)⟩⟩
    generalize upd H9 mi (.lst (vL im)) = Hm at fmi fb fa fw fn fim fll
    have W : World n bs (fnm Lb) (fnm La) (fnm im) := ⟨WO, hbi⟩
    have GI := good_im lim hn W
    have hps : ∀ p ∈ chg bs, p.length ≤ 64 ∧ ∀ x ∈ p, x < n := fun p hp => (chg_lt W hp).2
    -- is_repairable
    refine ⟨_, rfl, mi, im, rfl, SqL.of fmi, GI, fun Ha sa => ⟨_, _, rfl, rfl, _, rfl, iteNS rfl ?_⟩⟩
    -- torn_pieces
    refine ⟨_, rfl, mi, im, rfl, SqL.of (sa _ _ fmi), GI, fun gs acc tp Hb GO sb htp hacc => ?_⟩
    have tb := sa.trans sb
    refine ⟨_, rfl, _, _, _, _, true, rfl, ClsV.ty _, .base (.lst htp), kit_ty (by decide +kernel), true, rfl, iteF ?_⟩
    refine ⟨_, rfl, tp, _, rfl, .inl (SqL.of htp), _, rfl, _, rfl, _, rfl, a', im0, wr, La, im, was, chg bs, rfl, tb _ _ fa, tb _ _ fim, tb _ _ fw, fll.same tb, by omega, by omega, fun p hp => ⟨(hps p hp).1, fun x hx => by rw [lim]; exact (hps p hp).2 x hx⟩, fun Hc sc => ?_⟩
    have eT : acc.length = tornN (fnm im) (fnm La) (chg bs) := by
      rw [lim] at GO
      rw [hacc, W.torn GO, torn_eq]
    refine ⟨rfl, _, rfl, ?_⟩
    rw [eT]
    refine iteNS rfl ?_
    have tc := tb.trans sc
    -- size <= 6
    refine ⟨_, rfl, _, _, rfl, rfl, _, rfl, ite2 (fun _ => ⟨_, rfl, RgOk.of_le (by omega) (by omega) (by omega) (by omega), fun nl2 nnl2 => ?_⟩) (fun _ => ?_)⟩
    · obtain ⟨ns2, en2, hz⟩ : ∃ ns2 : List Int, rgV 0 32 = ns2.map V.int ∧ ∀ z ∈ ns2, 0 ≤ z ∧ z < 32 := by
        refine ⟨(List.range 32).map fun i => 0 + ((i : Nat) : Int), ?_, fun z hz => ?_⟩
        · unfold rgV
          rw [List.map_map]
          rfl
        · obtain ⟨i, hi, rfl⟩ := List.mem_map.mp hz
          have := List.mem_range.mp hi
          omega
      have sd := same_upd (o := .lst (rgV 0 32)) nnl2
      have hnl2 : (upd Hc nl2 (.lst (rgV 0 32))) nl2 = some (.lst (ns2.map V.int)) := by rw [upd_same, en2]
      have td := tc.trans sd
      generalize upd Hc nl2 (.lst (rgV 0 32)) = Hd at sd hnl2 td
      -- told = repair(mine)
      refine ⟨_, rfl, mi, .non, im, rfl, SqL.of (td _ _ fmi), GI, .inl rfl, fun He tl st se ntl htl lst T => ?_⟩
      have te := td.trans se
      rw [lim] at lst T
      refine ⟨_, rfl, _, rfl, tl, st, by rw [lst]; rfl, htl, by omega, fun Hf sf => ⟨true, rfl, iteF ?_⟩⟩
      have tf := te.trans sf
      refine ⟨_, rfl, _, rfl, _, rfl, _, rfl, _, rfl, tl, b, a', im0, wr, st, Lb, La, im, was, chg bs, rfl, sf _ _ htl, tf _ _ fb, tf _ _ fa, tf _ _ fim, tf _ _ fw, fll.same tf, by omega, by omega, by omega, by omega, fun p hp => ⟨(hps p hp).1, fun x hx => by rw [lb]; exact (hps p hp).2 x hx⟩, fun p hp => kept_in W T hp, fun x hx h => kept_out W T (by rw [← lb]; exact hx) h, fun Hg sg => ⟨true, rfl, iteF ?_⟩⟩
      have tg := tf.trans sg
      have hnl3 := ((se.trans sf).trans sg) _ _ hnl2
      refine ⟨_, rfl, nl2, rfl, ⟨_, SqL.of hnl3⟩, for_list (xs := ns2.map V.int) (fun i σ H' => ∃ v12 v13, σ = [some (.ref a), some (.ref p1), some (.int (n : Nat)), some (.ref nl2), some (.ref b), some (.ref a'), some (.ref wr), some (.ref im0), v8, v9, some (.ref mi), some (.ref tp), v12, v13] ∧ Same Hg H')
        ⟨_, none, rfl, Same.refl _⟩ (fun i σ H' _ ⟨_, _, _, s⟩ => SqL.of (s _ _ hnl3)) ?_ ?_⟩
      · rintro i x σ Hh hx ⟨v12, v13, rfl, sh⟩
        obtain ⟨z, hz', rfl⟩ : ∃ z, ns2[i]? = some z ∧ x = V.int z := by
          rw [List.getElem?_map] at hx
          cases e : ns2[i]? with
          | none => rw [e] at hx; cases hx
          | some z => rw [e] at hx; exact ⟨z, rfl, (Option.some.inj hx).symm⟩
        obtain ⟨z0, z32⟩ := hz z (List.mem_of_getElem? hz')
        have th := tg.trans sh
        refine ⟨_, rfl, rfl, _, rfl, z, rfl, z0, z32, fun rp Hi si hR => ?_⟩
        have ti := th.trans si
        refine ⟨mi, .ref rp, im, rfl, SqL.of (ti _ _ fmi), GI, .inr ⟨rp, rfl, hR⟩, fun Hj tl' st' sj ntl' htl' lst' T' => ?_⟩
        have tj := ti.trans sj
        rw [lim] at lst' T'
        refine ⟨_, rfl, _, rfl, tl', st', by rw [lst']; rfl, htl', by omega, fun Hk sk => ⟨true, rfl, iteF ?_⟩⟩
        have tk := tj.trans sk
        refine ⟨_, rfl, _, rfl, _, rfl, _, rfl, _, rfl, tl', b, a', im0, wr, st', Lb, La, im, was, chg bs, rfl, sk _ _ htl', tk _ _ fb, tk _ _ fa, tk _ _ fim, tk _ _ fw, fll.same tk, by omega, by omega, by omega, by omega, fun p hp => ⟨(hps p hp).1, fun x hx => by rw [lb]; exact (hps p hp).2 x hx⟩, fun p hp => kept_in W T' hp, fun x hx h => kept_out W T' (by rw [← lb]; exact hx) h, fun Hl sl => ⟨true, rfl, iteF ?_⟩⟩
        exact ⟨_, _, rfl, (((sh.trans si).trans sj).trans sk).trans sl⟩
      · rintro σ Hh ⟨v12, v13, rfl, sh⟩
        have th := tg.trans sh
        refine ⟨_, rfl, _, rfl, _, _, .lst (SqL.of (th _ _ fmi)) (int_dp im), .lst (SqL.of (th _ _ fim)) (int_dp im), PySem.W.ke_shaped_ints _, PySem.W.ke_shaped_ints _, ?_⟩
        rw [ints_eqv]
        exact k _
    · obtain ⟨nl2, enl2⟩ : ∃ x, x = nl := ⟨_, rfl⟩
      obtain ⟨ns2, en2, hz⟩ : ∃ ns2 : List Int, [V.int (d1 : Nat), V.int (d2 : Nat)] = ns2.map V.int ∧ ∀ z ∈ ns2, 0 ≤ z ∧ z < 32 := ⟨[(d1 : Nat), (d2 : Nat)], rfl, fun z hz => by
        simp at hz
        omega⟩
      have hnl2 : Hc nl2 = some (.lst (ns2.map V.int)) := by rw [enl2, ← en2]; exact tc _ _ fn
      have td := tc
      rw [← enl2]
      -- told = repair(mine)
      refine ⟨_, rfl, mi, .non, im, rfl, SqL.of (td _ _ fmi), GI, .inl rfl, fun He tl st se ntl htl lst T => ?_⟩
      have te := td.trans se
      rw [lim] at lst T
      refine ⟨_, rfl, _, rfl, tl, st, by rw [lst]; rfl, htl, by omega, fun Hf sf => ⟨true, rfl, iteF ?_⟩⟩
      have tf := te.trans sf
      refine ⟨_, rfl, _, rfl, _, rfl, _, rfl, _, rfl, tl, b, a', im0, wr, st, Lb, La, im, was, chg bs, rfl, sf _ _ htl, tf _ _ fb, tf _ _ fa, tf _ _ fim, tf _ _ fw, fll.same tf, by omega, by omega, by omega, by omega, fun p hp => ⟨(hps p hp).1, fun x hx => by rw [lb]; exact (hps p hp).2 x hx⟩, fun p hp => kept_in W T hp, fun x hx h => kept_out W T (by rw [← lb]; exact hx) h, fun Hg sg => ⟨true, rfl, iteF ?_⟩⟩
      have tg := tf.trans sg
      have hnl3 := ((se.trans sf).trans sg) _ _ hnl2
      refine ⟨_, rfl, nl2, rfl, ⟨_, SqL.of hnl3⟩, for_list (xs := ns2.map V.int) (fun i σ H' => ∃ v12 v13, σ = [some (.ref a), some (.ref p1), some (.int (n : Nat)), some (.ref nl2), some (.ref b), some (.ref a'), some (.ref wr), some (.ref im0), v8, v9, some (.ref mi), some (.ref tp), v12, v13] ∧ Same Hg H')
        ⟨_, none, rfl, Same.refl _⟩ (fun i σ H' _ ⟨_, _, _, s⟩ => SqL.of (s _ _ hnl3)) ?_ ?_⟩
      · rintro i x σ Hh hx ⟨v12, v13, rfl, sh⟩
        obtain ⟨z, hz', rfl⟩ : ∃ z, ns2[i]? = some z ∧ x = V.int z := by
          rw [List.getElem?_map] at hx
          cases e : ns2[i]? with
          | none => rw [e] at hx; cases hx
          | some z => rw [e] at hx; exact ⟨z, rfl, (Option.some.inj hx).symm⟩
        obtain ⟨z0, z32⟩ := hz z (List.mem_of_getElem? hz')
        have th := tg.trans sh
        refine ⟨_, rfl, rfl, _, rfl, z, rfl, z0, z32, fun rp Hi si hR => ?_⟩
        have ti := th.trans si
        refine ⟨mi, .ref rp, im, rfl, SqL.of (ti _ _ fmi), GI, .inr ⟨rp, rfl, hR⟩, fun Hj tl' st' sj ntl' htl' lst' T' => ?_⟩
        have tj := ti.trans sj
        rw [lim] at lst' T'
        refine ⟨_, rfl, _, rfl, tl', st', by rw [lst']; rfl, htl', by omega, fun Hk sk => ⟨true, rfl, iteF ?_⟩⟩
        have tk := tj.trans sk
        refine ⟨_, rfl, _, rfl, _, rfl, _, rfl, _, rfl, tl', b, a', im0, wr, st', Lb, La, im, was, chg bs, rfl, sk _ _ htl', tk _ _ fb, tk _ _ fa, tk _ _ fim, tk _ _ fw, fll.same tk, by omega, by omega, by omega, by omega, fun p hp => ⟨(hps p hp).1, fun x hx => by rw [lb]; exact (hps p hp).2 x hx⟩, fun p hp => kept_in W T' hp, fun x hx h => kept_out W T' (by rw [← lb]; exact hx) h, fun Hl sl => ⟨true, rfl, iteF ?_⟩⟩
        exact ⟨_, _, rfl, (((sh.trans si).trans sj).trans sk).trans sl⟩
      · rintro σ Hh ⟨v12, v13, rfl, sh⟩
        have th := tg.trans sh
        refine ⟨_, rfl, _, rfl, _, _, .lst (SqL.of (th _ _ fmi)) (int_dp im), .lst (SqL.of (th _ _ fim)) (int_dp im), PySem.W.ke_shaped_ints _, PySem.W.ke_shaped_ints _, ?_⟩
        rw [ints_eqv]
        exact k _
end
end KW
end

section
set_option Elab.async false
set_option linter.all false
set_option maxRecDepth 100000
set_option maxHeartbeats 4000000
/-! KEnd: what the top has written, as the walks ask for it. -/
namespace KW
open PySem PySem.Spec PyProof.Rows L2 KM
theorem ktup_mk {K : PySem.W.Frag} {a : Addr} {od : Option Addr} {sl : Array (Option Value)} {its : Array Value} {n : Nat} {xs : List V} (l : K.lookup a = some ⟨.type "tuple", od, .seq its n, sl⟩) (hs : its.size ≤ sizeLine) (v : Vals xs its.toList) : KTup K a xs := ⟨_, its, n, l, rfl, rfl, hs, v⟩
theorem kdct_mk {K : PySem.W.Frag} {w : World} {a : Addr} {x : Str} {v : V} {es : Array DictEntry} {n : Nat} {u : Value} (l : K.lookup a = some ⟨.type "dict", none, .dict es n, #[]⟩) (k : PySem.W.KeysLit w.params es.toList) (e : PySem.W.nsIn K a x = some (some u)) (r : RelV v u) : KDct K w a x v := ⟨es, n, u, l, k, e, r⟩
theorem klit1 {P : Params} {x : Str} {t : Tok} {u : Value} {l : List DictEntry} (h : PySem.W.KeysLit P l) : PySem.W.KeysLit P (⟨PyData.keyHash P x, .str x t, u⟩ :: l) := ⟨⟨x, t, rfl, rfl⟩, h⟩
theorem fund_mk {K : PySem.W.Frag} {x qual : Str} {st : Stmt} {dvs : List V} {kws : List (Str × V)} {f : Addr} {oc : Value} {od an : Option Addr} {osl : Array (Option Value)} {dV kV doc pm cdv ct : Value}
    (l : K.lookup f = some ⟨oc, od, .func (PySem.W.fnOf x qual (defArgs st) (defBody st) (defScope st) dV kV doc pm an cdv ct), osl⟩) (c : PySem.W.codeIn K cdv qual = true) (k : PySem.W.keepIn K (.ref f) = true) (d : DflV K dV dvs) (q : KwdV K kV kws) :
    FunD K x qual (defArgs st) (defBody st) (defScope st) dvs kws f (PySem.W.fnOf x qual (defArgs st) (defBody st) (defScope st) dV kV doc pm an cdv ct) := ⟨⟨oc, od, dV, kV, doc, pm, an, cdv, ct, osl, rfl, l, c, d, q⟩, k⟩
theorem cal_mk {P : Program} {w : World} {K : PySem.W.Frag} {mg : Str → Option Value} {base h : Heap} {k : Nat} {x : Str} {ps : List Str} {sp : Sp} {st : Stmt} {f : Addr} {fd : FuncData} (X : K.In h) (G : h.Ns mainGlobals mg) (a : PySem.W.nsIn K mainGlobals x = some (some (.ref f)))
    (F : Fun K x x st f fd) (o : FnOk P w K mg base CX0 k f fd ps sp) (b : Binds K fd ps []) : Cal P w K mg base k x ps sp := ⟨f, fd, o, PySem.W.mg_of X G a, F.kp, b⟩
theorem setr_mk {P : Program} {w : World} {K : PySem.W.Frag} {mg : Str → Option Value} {base : Heap} {C p g : Addr} {w8 : W8} {fl : Str} {fd : FuncData} {a : Value} {rest : List Value} (tk : PySem.W.takerIn K C (w8s w8) = some (some (.ref p))) (ty : PySem.W.typeIn K (.ref p) = some (.type "property"))
    (rc : PySem.W.recIn K p "property" = some (a :: .ref g :: rest)) (o : FnOk P w K mg base CX0 1 g fd ["self", "value"] (spSet C w8 fl)) (b : Binds K fd ["self", "value"] []) : Setr P w K mg base C w8 fl := ⟨p, g, fd, ⟨tk, ty, a, rest, rc⟩, o, b⟩

theorem bn_mk {K : PySem.W.Frag} {h : Heap} {mg : Str → Option Value} (X : K.In h) (G : h.Ns mainGlobals mg)
    (z_len : PySem.W.nsIn K mainGlobals "len" = some none)
    (z_range : PySem.W.nsIn K mainGlobals "range" = some none)
    (z_list : PySem.W.nsIn K mainGlobals "list" = some none)
    (z_enumerate : PySem.W.nsIn K mainGlobals "enumerate" = some none)
    (z_min : PySem.W.nsIn K mainGlobals "min" = some none)
    (z_max : PySem.W.nsIn K mainGlobals "max" = some none)
    (z_tuple : PySem.W.nsIn K mainGlobals "tuple" = some none)
    (z_zip : PySem.W.nsIn K mainGlobals "zip" = some none)
    (z_sorted : PySem.W.nsIn K mainGlobals "sorted" = some none)
    (z_isinstance : PySem.W.nsIn K mainGlobals "isinstance" = some none)
    (z_int : PySem.W.nsIn K mainGlobals "int" = some none)
    (z_bool : PySem.W.nsIn K mainGlobals "bool" = some none)
    (z_divmod : PySem.W.nsIn K mainGlobals "divmod" = some none)
    : Bn mg := ⟨PySem.W.mg_none_of X G z_len, PySem.W.mg_none_of X G z_range, PySem.W.mg_none_of X G z_list, PySem.W.mg_none_of X G z_enumerate, PySem.W.mg_none_of X G z_min, PySem.W.mg_none_of X G z_max, PySem.W.mg_none_of X G z_tuple, PySem.W.mg_none_of X G z_zip, PySem.W.mg_none_of X G z_sorted, PySem.W.mg_none_of X G z_isinstance, PySem.W.mg_none_of X G z_int, PySem.W.mg_none_of X G z_bool, PySem.W.mg_none_of X G z_divmod⟩
theorem shh_free : reduceHash (Builtin.Tuple.tupleHashOf [hashInt 0]) = -8753497827991233192 := by decide +kernel
theorem shk_free {P : Program} {w : World} {b : Addr} {u : Value} : (⟨-8753497827991233192, .ref b, u⟩ : DictEntry) = entryOfKey (tupleKind (mixKind P w)) (([Sum.inl (0 : Int)] : List Key), b, u) := by
  have e : (tupleKind (mixKind P w)).hash ([Sum.inl (0 : Int)] : List Key) = -8753497827991233192 := by
    show tupleKeyHash (mixKind P w) ([Sum.inl (0 : Int)] : List Key) = _
    unfold tupleKeyHash
    exact shh_free
  unfold entryOfKey
  rw [e]
theorem shh_pair : reduceHash (Builtin.Tuple.tupleHashOf [hashInt 1, hashInt 0]) = -5164621852614943976 := by decide +kernel
theorem shk_pair {P : Program} {w : World} {b : Addr} {u : Value} : (⟨-5164621852614943976, .ref b, u⟩ : DictEntry) = entryOfKey (tupleKind (mixKind P w)) (([Sum.inl (1 : Int), Sum.inl (0 : Int)] : List Key), b, u) := by
  have e : (tupleKind (mixKind P w)).hash ([Sum.inl (1 : Int), Sum.inl (0 : Int)] : List Key) = -5164621852614943976 := by
    show tupleKeyHash (mixKind P w) ([Sum.inl (1 : Int), Sum.inl (0 : Int)] : List Key) = _
    unfold tupleKeyHash
    exact shh_pair
  unfold entryOfKey
  rw [e]
theorem shh_claim : reduceHash (Builtin.Tuple.tupleHashOf [hashInt 1, hashInt 1]) = 8389048192121911274 := by decide +kernel
theorem shk_claim {P : Program} {w : World} {b : Addr} {u : Value} : (⟨8389048192121911274, .ref b, u⟩ : DictEntry) = entryOfKey (tupleKind (mixKind P w)) (([Sum.inl (1 : Int), Sum.inl (1 : Int)] : List Key), b, u) := by
  have e : (tupleKind (mixKind P w)).hash ([Sum.inl (1 : Int), Sum.inl (1 : Int)] : List Key) = 8389048192121911274 := by
    show tupleKeyHash (mixKind P w) ([Sum.inl (1 : Int), Sum.inl (1 : Int)] : List Key) = _
    unfold tupleKeyHash
    exact shh_claim
  unfold entryOfKey
  rw [e]
theorem shh_hook : reduceHash (Builtin.Tuple.tupleHashOf [hashInt 1, hashInt 2, hashInt 1]) = 3313134723150563520 := by decide +kernel
theorem shk_hook {P : Program} {w : World} {b : Addr} {u : Value} : (⟨3313134723150563520, .ref b, u⟩ : DictEntry) = entryOfKey (tupleKind (mixKind P w)) (([Sum.inl (1 : Int), Sum.inl (2 : Int), Sum.inl (1 : Int)] : List Key), b, u) := by
  have e : (tupleKind (mixKind P w)).hash ([Sum.inl (1 : Int), Sum.inl (2 : Int), Sum.inl (1 : Int)] : List Key) = 3313134723150563520 := by
    show tupleKeyHash (mixKind P w) ([Sum.inl (1 : Int), Sum.inl (2 : Int), Sum.inl (1 : Int)] : List Key) = _
    unfold tupleKeyHash
    exact shh_hook
  unfold entryOfKey
  rw [e]
theorem shh_relay : reduceHash (Builtin.Tuple.tupleHashOf [hashInt 1, hashInt 2, hashInt 2]) = -1579939305822132846 := by decide +kernel
theorem shk_relay {P : Program} {w : World} {b : Addr} {u : Value} : (⟨-1579939305822132846, .ref b, u⟩ : DictEntry) = entryOfKey (tupleKind (mixKind P w)) (([Sum.inl (1 : Int), Sum.inl (2 : Int), Sum.inl (2 : Int)] : List Key), b, u) := by
  have e : (tupleKind (mixKind P w)).hash ([Sum.inl (1 : Int), Sum.inl (2 : Int), Sum.inl (2 : Int)] : List Key) = -1579939305822132846 := by
    show tupleKeyHash (mixKind P w) ([Sum.inl (1 : Int), Sum.inl (2 : Int), Sum.inl (2 : Int)] : List Key) = _
    unfold tupleKeyHash
    exact shh_relay
  unfold entryOfKey
  rw [e]
theorem shh_clamp : reduceHash (Builtin.Tuple.tupleHashOf [hashInt 1, hashInt 2, hashInt 1, hashInt 2]) = 8677768113715720416 := by decide +kernel
theorem shk_clamp {P : Program} {w : World} {b : Addr} {u : Value} : (⟨8677768113715720416, .ref b, u⟩ : DictEntry) = entryOfKey (tupleKind (mixKind P w)) (([Sum.inl (1 : Int), Sum.inl (2 : Int), Sum.inl (1 : Int), Sum.inl (2 : Int)] : List Key), b, u) := by
  have e : (tupleKind (mixKind P w)).hash ([Sum.inl (1 : Int), Sum.inl (2 : Int), Sum.inl (1 : Int), Sum.inl (2 : Int)] : List Key) = 8677768113715720416 := by
    show tupleKeyHash (mixKind P w) ([Sum.inl (1 : Int), Sum.inl (2 : Int), Sum.inl (1 : Int), Sum.inl (2 : Int)] : List Key) = _
    unfold tupleKeyHash
    exact shh_clamp
  unfold entryOfKey
  rw [e]
theorem shh_trail : reduceHash (Builtin.Tuple.tupleHashOf [hashInt 1, hashInt 2, hashInt 3, hashInt 2]) = 3374690043038133861 := by decide +kernel
theorem shk_trail {P : Program} {w : World} {b : Addr} {u : Value} : (⟨3374690043038133861, .ref b, u⟩ : DictEntry) = entryOfKey (tupleKind (mixKind P w)) (([Sum.inl (1 : Int), Sum.inl (2 : Int), Sum.inl (3 : Int), Sum.inl (2 : Int)] : List Key), b, u) := by
  have e : (tupleKind (mixKind P w)).hash ([Sum.inl (1 : Int), Sum.inl (2 : Int), Sum.inl (3 : Int), Sum.inl (2 : Int)] : List Key) = 3374690043038133861 := by
    show tupleKeyHash (mixKind P w) ([Sum.inl (1 : Int), Sum.inl (2 : Int), Sum.inl (3 : Int), Sum.inl (2 : Int)] : List Key) = _
    unfold tupleKeyHash
    exact shh_trail
  unfold entryOfKey
  rw [e]
theorem shh_wheel : reduceHash (Builtin.Tuple.tupleHashOf [hashInt 1, hashInt 2, hashInt 3, hashInt 0]) = 1760123315908831802 := by decide +kernel
theorem shk_wheel {P : Program} {w : World} {b : Addr} {u : Value} : (⟨1760123315908831802, .ref b, u⟩ : DictEntry) = entryOfKey (tupleKind (mixKind P w)) (([Sum.inl (1 : Int), Sum.inl (2 : Int), Sum.inl (3 : Int), Sum.inl (0 : Int)] : List Key), b, u) := by
  have e : (tupleKind (mixKind P w)).hash ([Sum.inl (1 : Int), Sum.inl (2 : Int), Sum.inl (3 : Int), Sum.inl (0 : Int)] : List Key) = 1760123315908831802 := by
    show tupleKeyHash (mixKind P w) ([Sum.inl (1 : Int), Sum.inl (2 : Int), Sum.inl (3 : Int), Sum.inl (0 : Int)] : List Key) = _
    unfold tupleKeyHash
    exact shh_wheel
  unfold entryOfKey
  rw [e]
theorem shp_mk {P : Program} {w : World} {K : PySem.W.Frag} {h : Heap} {mg : Str → Option Value} (X : K.In h) (G : h.Ns mainGlobals mg) {sa : Addr} {n : Nat} {b0 b1 b2 b3 b4 b5 b6 b7 : Addr} {t0 t1 t2 t3 t4 t5 t6 t7 : Tok}
    {od0 od1 od2 od3 od4 od5 od6 od7 : Option Addr} {sl0 sl1 sl2 sl3 sl4 sl5 sl6 sl7 : Array (Option Value)} {n0 n1 n2 n3 n4 n5 n6 n7 : Nat} {k0_0 k1_0 k1_1 k2_0 k2_1 k3_0 k3_1 k3_2 k4_0 k4_1 k4_2 k5_0 k5_1 k5_2 k5_3 k6_0 k6_1 k6_2 k6_3 k7_0 k7_1 k7_2 k7_3 : Tok}
    (as : PySem.W.nsIn K mainGlobals "SHAPES" = some (some (.ref sa)))
    (ls : K.lookup sa = some ⟨.type "dict", none, .dict #[⟨-8753497827991233192, .ref b0, .str "free" t0⟩, ⟨-5164621852614943976, .ref b1, .str "pair" t1⟩, ⟨8389048192121911274, .ref b2, .str "claim" t2⟩, ⟨3313134723150563520, .ref b3, .str "hook" t3⟩, ⟨-1579939305822132846, .ref b4, .str "relay" t4⟩, ⟨8677768113715720416, .ref b5, .str "clamp" t5⟩, ⟨3374690043038133861, .ref b6, .str "trail" t6⟩, ⟨1760123315908831802, .ref b7, .str "wheel" t7⟩] n, #[]⟩)
    (l0 : K.lookup b0 = some ⟨.type "tuple", od0, .seq #[.int 0 k0_0] n0, sl0⟩)
    (l1 : K.lookup b1 = some ⟨.type "tuple", od1, .seq #[.int 1 k1_0, .int 0 k1_1] n1, sl1⟩)
    (l2 : K.lookup b2 = some ⟨.type "tuple", od2, .seq #[.int 1 k2_0, .int 1 k2_1] n2, sl2⟩)
    (l3 : K.lookup b3 = some ⟨.type "tuple", od3, .seq #[.int 1 k3_0, .int 2 k3_1, .int 1 k3_2] n3, sl3⟩)
    (l4 : K.lookup b4 = some ⟨.type "tuple", od4, .seq #[.int 1 k4_0, .int 2 k4_1, .int 2 k4_2] n4, sl4⟩)
    (l5 : K.lookup b5 = some ⟨.type "tuple", od5, .seq #[.int 1 k5_0, .int 2 k5_1, .int 1 k5_2, .int 2 k5_3] n5, sl5⟩)
    (l6 : K.lookup b6 = some ⟨.type "tuple", od6, .seq #[.int 1 k6_0, .int 2 k6_1, .int 3 k6_2, .int 2 k6_3] n6, sl6⟩)
    (l7 : K.lookup b7 = some ⟨.type "tuple", od7, .seq #[.int 1 k7_0, .int 2 k7_1, .int 3 k7_2, .int 0 k7_3] n7, sl7⟩)
    (hsa : (sa == sysModules) = false) : Shp K P w mg := by
  refine ⟨sa, [(([Sum.inl (0 : Int)] : List Key), b0, Value.str "free" t0), (([Sum.inl (1 : Int), Sum.inl (0 : Int)] : List Key), b1, Value.str "pair" t1), (([Sum.inl (1 : Int), Sum.inl (1 : Int)] : List Key), b2, Value.str "claim" t2), (([Sum.inl (1 : Int), Sum.inl (2 : Int), Sum.inl (1 : Int)] : List Key), b3, Value.str "hook" t3), (([Sum.inl (1 : Int), Sum.inl (2 : Int), Sum.inl (2 : Int)] : List Key), b4, Value.str "relay" t4), (([Sum.inl (1 : Int), Sum.inl (2 : Int), Sum.inl (1 : Int), Sum.inl (2 : Int)] : List Key), b5, Value.str "clamp" t5), (([Sum.inl (1 : Int), Sum.inl (2 : Int), Sum.inl (3 : Int), Sum.inl (2 : Int)] : List Key), b6, Value.str "trail" t6), (([Sum.inl (1 : Int), Sum.inl (2 : Int), Sum.inl (3 : Int), Sum.inl (0 : Int)] : List Key), b7, Value.str "wheel" t7)], PySem.W.mg_of X G as, ⟨hsa, ⟨_, n, ls, ?_⟩, ?_, ?_⟩, ?_⟩
  · show [_, _, _, _, _, _, _, _] = [_, _, _, _, _, _, _, _]
    rw [shk_free (P := P) (w := w), shk_pair (P := P) (w := w), shk_claim (P := P) (w := w), shk_hook (P := P) (w := w), shk_relay (P := P) (w := w), shk_clamp (P := P) (w := w), shk_trail (P := P) (w := w), shk_wheel (P := P) (w := w)]
  · show List.Nodup [([Sum.inl (0 : Int)] : List Key), ([Sum.inl (1 : Int), Sum.inl (0 : Int)] : List Key), ([Sum.inl (1 : Int), Sum.inl (1 : Int)] : List Key), ([Sum.inl (1 : Int), Sum.inl (2 : Int), Sum.inl (1 : Int)] : List Key), ([Sum.inl (1 : Int), Sum.inl (2 : Int), Sum.inl (2 : Int)] : List Key), ([Sum.inl (1 : Int), Sum.inl (2 : Int), Sum.inl (1 : Int), Sum.inl (2 : Int)] : List Key), ([Sum.inl (1 : Int), Sum.inl (2 : Int), Sum.inl (3 : Int), Sum.inl (2 : Int)] : List Key), ([Sum.inl (1 : Int), Sum.inl (2 : Int), Sum.inl (3 : Int), Sum.inl (0 : Int)] : List Key)]
    decide +kernel
  · intro x hx
    simp only [List.mem_cons, List.mem_nil_iff, or_false] at hx
    rcases hx with rfl | rfl | rfl | rfl | rfl | rfl | rfl | rfl
    · exact ⟨_, _, _, l0, rfl, rfl, .cons ⟨_, rfl⟩ .nil⟩
    · exact ⟨_, _, _, l1, rfl, rfl, .cons ⟨_, rfl⟩ (.cons ⟨_, rfl⟩ .nil)⟩
    · exact ⟨_, _, _, l2, rfl, rfl, .cons ⟨_, rfl⟩ (.cons ⟨_, rfl⟩ .nil)⟩
    · exact ⟨_, _, _, l3, rfl, rfl, .cons ⟨_, rfl⟩ (.cons ⟨_, rfl⟩ (.cons ⟨_, rfl⟩ .nil))⟩
    · exact ⟨_, _, _, l4, rfl, rfl, .cons ⟨_, rfl⟩ (.cons ⟨_, rfl⟩ (.cons ⟨_, rfl⟩ .nil))⟩
    · exact ⟨_, _, _, l5, rfl, rfl, .cons ⟨_, rfl⟩ (.cons ⟨_, rfl⟩ (.cons ⟨_, rfl⟩ (.cons ⟨_, rfl⟩ .nil)))⟩
    · exact ⟨_, _, _, l6, rfl, rfl, .cons ⟨_, rfl⟩ (.cons ⟨_, rfl⟩ (.cons ⟨_, rfl⟩ (.cons ⟨_, rfl⟩ .nil)))⟩
    · exact ⟨_, _, _, l7, rfl, rfl, .cons ⟨_, rfl⟩ (.cons ⟨_, rfl⟩ (.cons ⟨_, rfl⟩ (.cons ⟨_, rfl⟩ .nil)))⟩
  · intro sh w8 e
    unfold wordOf at e
    split at e
    · cases e; exact ⟨t0, rfl⟩
    · cases e; exact ⟨t1, rfl⟩
    · cases e; exact ⟨t2, rfl⟩
    · cases e; exact ⟨t3, rfl⟩
    · cases e; exact ⟨t4, rfl⟩
    · cases e; exact ⟨t5, rfl⟩
    · cases e; exact ⟨t6, rfl⟩
    · cases e; exact ⟨t7, rfl⟩
    · cases e
theorem chs_mk {w : World} {K : PySem.W.Frag} {h : Heap} {mg : Str → Option Value} (X : K.In h) (G : h.Ns mainGlobals mg) {ch : Addr} {n : Nat} {b0 b1 b2 b3 b4 : Addr} {t0 u0 v0 t1 u1 v1 t2 u2 v2 t3 u3 v3 t4 u4 v4 : Tok} {od0 od1 od2 od3 od4 : Option Addr} {sl0 sl1 sl2 sl3 sl4 : Array (Option Value)} {n0 n1 n2 n3 n4 : Nat}
    (as : PySem.W.nsIn K mainGlobals "CHOICES" = some (some (.ref ch)))
    (ls : K.lookup ch = some ⟨.type "dict", none, .dict #[⟨PyData.keyHash w.params "hook", .str "hook" t0, .ref b0⟩, ⟨PyData.keyHash w.params "relay", .str "relay" t1, .ref b1⟩, ⟨PyData.keyHash w.params "clamp", .str "clamp" t2, .ref b2⟩, ⟨PyData.keyHash w.params "trail", .str "trail" t3, .ref b3⟩, ⟨PyData.keyHash w.params "wheel", .str "wheel" t4, .ref b4⟩] n, #[]⟩)
    (e0 : PySem.W.nsIn K ch "hook" = some (some (.ref b0)))
    (l0 : K.lookup b0 = some ⟨.type "tuple", od0, .seq #[.str "back" u0, .str "forward" v0] n0, sl0⟩)
    (e1 : PySem.W.nsIn K ch "relay" = some (some (.ref b1)))
    (l1 : K.lookup b1 = some ⟨.type "tuple", od1, .seq #[.str "near" u1, .str "far" v1] n1, sl1⟩)
    (e2 : PySem.W.nsIn K ch "clamp" = some (some (.ref b2)))
    (l2 : K.lookup b2 = some ⟨.type "tuple", od2, .seq #[.str "inner" u2, .str "outer" v2] n2, sl2⟩)
    (e3 : PySem.W.nsIn K ch "trail" = some (some (.ref b3)))
    (l3 : K.lookup b3 = some ⟨.type "tuple", od3, .seq #[.str "near" u3, .str "far" v3] n3, sl3⟩)
    (e4 : PySem.W.nsIn K ch "wheel" = some (some (.ref b4)))
    (l4 : K.lookup b4 = some ⟨.type "tuple", od4, .seq #[.str "even" u4, .str "odd" v4] n4, sl4⟩)
    : Chs K w mg := by
  have kl : PySem.W.KeysLit w.params (#[⟨PyData.keyHash w.params "hook", .str "hook" t0, .ref b0⟩, ⟨PyData.keyHash w.params "relay", .str "relay" t1, .ref b1⟩, ⟨PyData.keyHash w.params "clamp", .str "clamp" t2, .ref b2⟩, ⟨PyData.keyHash w.params "trail", .str "trail" t3, .ref b3⟩, ⟨PyData.keyHash w.params "wheel", .str "wheel" t4, .ref b4⟩] : Array DictEntry).toList := klit1 (klit1 (klit1 (klit1 (klit1 trivial))))
  refine ⟨ch, PySem.W.mg_of X G as, fun w8 h2 => ?_⟩
  cases w8
  · cases h2
  · cases h2
  · cases h2
  · exact ⟨b0, kdct_mk ls kl e0 rfl, ktup_mk l0 (by show 2 ≤ sizeLine; decide) (.cons ⟨_, rfl⟩ (.cons ⟨_, rfl⟩ .nil))⟩
  · exact ⟨b1, kdct_mk ls kl e1 rfl, ktup_mk l1 (by show 2 ≤ sizeLine; decide) (.cons ⟨_, rfl⟩ (.cons ⟨_, rfl⟩ .nil))⟩
  · exact ⟨b2, kdct_mk ls kl e2 rfl, ktup_mk l2 (by show 2 ≤ sizeLine; decide) (.cons ⟨_, rfl⟩ (.cons ⟨_, rfl⟩ .nil))⟩
  · exact ⟨b3, kdct_mk ls kl e3 rfl, ktup_mk l3 (by show 2 ≤ sizeLine; decide) (.cons ⟨_, rfl⟩ (.cons ⟨_, rfl⟩ .nil))⟩
  · exact ⟨b4, kdct_mk ls kl e4 rfl, ktup_mk l4 (by show 2 ≤ sizeLine; decide) (.cons ⟨_, rfl⟩ (.cons ⟨_, rfl⟩ .nil))⟩
theorem outs_mk {w : World} {K : PySem.W.Frag} {h : Heap} {mg : Str → Option Value} (X : K.In h) (G : h.Ns mainGlobals mg) {oa : Addr} {n : Nat} {b0 b1 b2 b3 b4 b5 b6 b7 a0_0 a1_0 a2_0 a3_0 a3_1 a4_0 a4_1 a5_0 a5_1 a6_0 a6_1 a7_0 a7_1 : Addr} {t0 t1 t2 t3 t4 t5 t6 t7 k0_0_0 k1_0_0 k1_0_1 k2_0_0 k2_0_1 k3_0_0 k3_0_1 k3_0_2 k3_1_0 k3_1_1 k3_1_2 k4_0_0 k4_0_1 k4_0_2 k4_1_0 k4_1_1 k4_1_2 k5_0_0 k5_0_1 k5_0_2 k5_0_3 k5_1_0 k5_1_1 k5_1_2 k5_1_3 k6_0_0 k6_0_1 k6_0_2 k6_0_3 k6_1_0 k6_1_1 k6_1_2 k6_1_3 k7_0_0 k7_0_1 k7_0_2 k7_0_3 k7_1_0 k7_1_1 k7_1_2 k7_1_3 : Tok}
    {od0 od1 od2 od3 od4 od5 od6 od7 od0_0 od1_0 od2_0 od3_0 od3_1 od4_0 od4_1 od5_0 od5_1 od6_0 od6_1 od7_0 od7_1 : Option Addr} {sl0 sl1 sl2 sl3 sl4 sl5 sl6 sl7 sl0_0 sl1_0 sl2_0 sl3_0 sl3_1 sl4_0 sl4_1 sl5_0 sl5_1 sl6_0 sl6_1 sl7_0 sl7_1 : Array (Option Value)} {n0 n1 n2 n3 n4 n5 n6 n7 n0_0 n1_0 n2_0 n3_0 n3_1 n4_0 n4_1 n5_0 n5_1 n6_0 n6_1 n7_0 n7_1 : Nat}
    (as : PySem.W.nsIn K mainGlobals "OUTCOMES" = some (some (.ref oa)))
    (ls : K.lookup oa = some ⟨.type "dict", none, .dict #[⟨PyData.keyHash w.params "free", .str "free" t0, .ref b0⟩, ⟨PyData.keyHash w.params "pair", .str "pair" t1, .ref b1⟩, ⟨PyData.keyHash w.params "claim", .str "claim" t2, .ref b2⟩, ⟨PyData.keyHash w.params "hook", .str "hook" t3, .ref b3⟩, ⟨PyData.keyHash w.params "relay", .str "relay" t4, .ref b4⟩, ⟨PyData.keyHash w.params "clamp", .str "clamp" t5, .ref b5⟩, ⟨PyData.keyHash w.params "trail", .str "trail" t6, .ref b6⟩, ⟨PyData.keyHash w.params "wheel", .str "wheel" t7, .ref b7⟩] n, #[]⟩)
    (e0 : PySem.W.nsIn K oa "free" = some (some (.ref b0)))
    (l0 : K.lookup b0 = some ⟨.type "tuple", od0, .seq #[.ref a0_0] n0, sl0⟩)
    (l0_0 : K.lookup a0_0 = some ⟨.type "tuple", od0_0, .seq #[.int 0 k0_0_0] n0_0, sl0_0⟩)
    (e1 : PySem.W.nsIn K oa "pair" = some (some (.ref b1)))
    (l1 : K.lookup b1 = some ⟨.type "tuple", od1, .seq #[.ref a1_0] n1, sl1⟩)
    (l1_0 : K.lookup a1_0 = some ⟨.type "tuple", od1_0, .seq #[.int 1 k1_0_0, .int 0 k1_0_1] n1_0, sl1_0⟩)
    (e2 : PySem.W.nsIn K oa "claim" = some (some (.ref b2)))
    (l2 : K.lookup b2 = some ⟨.type "tuple", od2, .seq #[.ref a2_0] n2, sl2⟩)
    (l2_0 : K.lookup a2_0 = some ⟨.type "tuple", od2_0, .seq #[.int 1 k2_0_0, .int 0 k2_0_1] n2_0, sl2_0⟩)
    (e3 : PySem.W.nsIn K oa "hook" = some (some (.ref b3)))
    (l3 : K.lookup b3 = some ⟨.type "tuple", od3, .seq #[.ref a3_0, .ref a3_1] n3, sl3⟩)
    (l3_0 : K.lookup a3_0 = some ⟨.type "tuple", od3_0, .seq #[.int 0 k3_0_0, .int 2 k3_0_1, .int 1 k3_0_2] n3_0, sl3_0⟩)
    (l3_1 : K.lookup a3_1 = some ⟨.type "tuple", od3_1, .seq #[.int 1 k3_1_0, .int 0 k3_1_1, .int 2 k3_1_2] n3_1, sl3_1⟩)
    (e4 : PySem.W.nsIn K oa "relay" = some (some (.ref b4)))
    (l4 : K.lookup b4 = some ⟨.type "tuple", od4, .seq #[.ref a4_0, .ref a4_1] n4, sl4⟩)
    (l4_0 : K.lookup a4_0 = some ⟨.type "tuple", od4_0, .seq #[.int 1 k4_0_0, .int 0 k4_0_1, .int 2 k4_0_2] n4_0, sl4_0⟩)
    (l4_1 : K.lookup a4_1 = some ⟨.type "tuple", od4_1, .seq #[.int 0 k4_1_0, .int 2 k4_1_1, .int 1 k4_1_2] n4_1, sl4_1⟩)
    (e5 : PySem.W.nsIn K oa "clamp" = some (some (.ref b5)))
    (l5 : K.lookup b5 = some ⟨.type "tuple", od5, .seq #[.ref a5_0, .ref a5_1] n5, sl5⟩)
    (l5_0 : K.lookup a5_0 = some ⟨.type "tuple", od5_0, .seq #[.int 1 k5_0_0, .int 0 k5_0_1, .int 3 k5_0_2, .int 2 k5_0_3] n5_0, sl5_0⟩)
    (l5_1 : K.lookup a5_1 = some ⟨.type "tuple", od5_1, .seq #[.int 3 k5_1_0, .int 2 k5_1_1, .int 1 k5_1_2, .int 0 k5_1_3] n5_1, sl5_1⟩)
    (e6 : PySem.W.nsIn K oa "trail" = some (some (.ref b6)))
    (l6 : K.lookup b6 = some ⟨.type "tuple", od6, .seq #[.ref a6_0, .ref a6_1] n6, sl6⟩)
    (l6_0 : K.lookup a6_0 = some ⟨.type "tuple", od6_0, .seq #[.int 1 k6_0_0, .int 0 k6_0_1, .int 3 k6_0_2, .int 2 k6_0_3] n6_0, sl6_0⟩)
    (l6_1 : K.lookup a6_1 = some ⟨.type "tuple", od6_1, .seq #[.int 3 k6_1_0, .int 2 k6_1_1, .int 1 k6_1_2, .int 0 k6_1_3] n6_1, sl6_1⟩)
    (e7 : PySem.W.nsIn K oa "wheel" = some (some (.ref b7)))
    (l7 : K.lookup b7 = some ⟨.type "tuple", od7, .seq #[.ref a7_0, .ref a7_1] n7, sl7⟩)
    (l7_0 : K.lookup a7_0 = some ⟨.type "tuple", od7_0, .seq #[.int 1 k7_0_0, .int 0 k7_0_1, .int 3 k7_0_2, .int 2 k7_0_3] n7_0, sl7_0⟩)
    (l7_1 : K.lookup a7_1 = some ⟨.type "tuple", od7_1, .seq #[.int 3 k7_1_0, .int 2 k7_1_1, .int 1 k7_1_2, .int 0 k7_1_3] n7_1, sl7_1⟩)
    : Outs K w mg := by
  have kl : PySem.W.KeysLit w.params (#[⟨PyData.keyHash w.params "free", .str "free" t0, .ref b0⟩, ⟨PyData.keyHash w.params "pair", .str "pair" t1, .ref b1⟩, ⟨PyData.keyHash w.params "claim", .str "claim" t2, .ref b2⟩, ⟨PyData.keyHash w.params "hook", .str "hook" t3, .ref b3⟩, ⟨PyData.keyHash w.params "relay", .str "relay" t4, .ref b4⟩, ⟨PyData.keyHash w.params "clamp", .str "clamp" t5, .ref b5⟩, ⟨PyData.keyHash w.params "trail", .str "trail" t6, .ref b6⟩, ⟨PyData.keyHash w.params "wheel", .str "wheel" t7, .ref b7⟩] : Array DictEntry).toList := (klit1 (klit1 (klit1 (klit1 (klit1 (klit1 (klit1 (klit1 trivial))))))))
  refine ⟨oa, PySem.W.mg_of X G as, fun w8 => ?_⟩
  cases w8
  · refine ⟨b0, [a0_0], kdct_mk ls kl e0 rfl, ktup_mk l0 (by show 1 ≤ sizeLine; decide) (.cons rfl .nil), rfl, fun j a hj => ?_⟩
    match j, hj with
    | 0, hj =>
      cases hj
      exact ⟨_, rfl, ktup_mk l0_0 (by show 1 ≤ sizeLine; decide) (.cons ⟨_, rfl⟩ .nil)⟩
    | j + 1, hj => cases hj
  · refine ⟨b1, [a1_0], kdct_mk ls kl e1 rfl, ktup_mk l1 (by show 1 ≤ sizeLine; decide) (.cons rfl .nil), rfl, fun j a hj => ?_⟩
    match j, hj with
    | 0, hj =>
      cases hj
      exact ⟨_, rfl, ktup_mk l1_0 (by show 2 ≤ sizeLine; decide) (.cons ⟨_, rfl⟩ (.cons ⟨_, rfl⟩ .nil))⟩
    | j + 1, hj => cases hj
  · refine ⟨b2, [a2_0], kdct_mk ls kl e2 rfl, ktup_mk l2 (by show 1 ≤ sizeLine; decide) (.cons rfl .nil), rfl, fun j a hj => ?_⟩
    match j, hj with
    | 0, hj =>
      cases hj
      exact ⟨_, rfl, ktup_mk l2_0 (by show 2 ≤ sizeLine; decide) (.cons ⟨_, rfl⟩ (.cons ⟨_, rfl⟩ .nil))⟩
    | j + 1, hj => cases hj
  · refine ⟨b3, [a3_0, a3_1], kdct_mk ls kl e3 rfl, ktup_mk l3 (by show 2 ≤ sizeLine; decide) (.cons rfl (.cons rfl .nil)), rfl, fun j a hj => ?_⟩
    match j, hj with
    | 0, hj =>
      cases hj
      exact ⟨_, rfl, ktup_mk l3_0 (by show 3 ≤ sizeLine; decide) (.cons ⟨_, rfl⟩ (.cons ⟨_, rfl⟩ (.cons ⟨_, rfl⟩ .nil)))⟩
    | 1, hj =>
      cases hj
      exact ⟨_, rfl, ktup_mk l3_1 (by show 3 ≤ sizeLine; decide) (.cons ⟨_, rfl⟩ (.cons ⟨_, rfl⟩ (.cons ⟨_, rfl⟩ .nil)))⟩
    | j + 2, hj => cases hj
  · refine ⟨b4, [a4_0, a4_1], kdct_mk ls kl e4 rfl, ktup_mk l4 (by show 2 ≤ sizeLine; decide) (.cons rfl (.cons rfl .nil)), rfl, fun j a hj => ?_⟩
    match j, hj with
    | 0, hj =>
      cases hj
      exact ⟨_, rfl, ktup_mk l4_0 (by show 3 ≤ sizeLine; decide) (.cons ⟨_, rfl⟩ (.cons ⟨_, rfl⟩ (.cons ⟨_, rfl⟩ .nil)))⟩
    | 1, hj =>
      cases hj
      exact ⟨_, rfl, ktup_mk l4_1 (by show 3 ≤ sizeLine; decide) (.cons ⟨_, rfl⟩ (.cons ⟨_, rfl⟩ (.cons ⟨_, rfl⟩ .nil)))⟩
    | j + 2, hj => cases hj
  · refine ⟨b5, [a5_0, a5_1], kdct_mk ls kl e5 rfl, ktup_mk l5 (by show 2 ≤ sizeLine; decide) (.cons rfl (.cons rfl .nil)), rfl, fun j a hj => ?_⟩
    match j, hj with
    | 0, hj =>
      cases hj
      exact ⟨_, rfl, ktup_mk l5_0 (by show 4 ≤ sizeLine; decide) (.cons ⟨_, rfl⟩ (.cons ⟨_, rfl⟩ (.cons ⟨_, rfl⟩ (.cons ⟨_, rfl⟩ .nil))))⟩
    | 1, hj =>
      cases hj
      exact ⟨_, rfl, ktup_mk l5_1 (by show 4 ≤ sizeLine; decide) (.cons ⟨_, rfl⟩ (.cons ⟨_, rfl⟩ (.cons ⟨_, rfl⟩ (.cons ⟨_, rfl⟩ .nil))))⟩
    | j + 2, hj => cases hj
  · refine ⟨b6, [a6_0, a6_1], kdct_mk ls kl e6 rfl, ktup_mk l6 (by show 2 ≤ sizeLine; decide) (.cons rfl (.cons rfl .nil)), rfl, fun j a hj => ?_⟩
    match j, hj with
    | 0, hj =>
      cases hj
      exact ⟨_, rfl, ktup_mk l6_0 (by show 4 ≤ sizeLine; decide) (.cons ⟨_, rfl⟩ (.cons ⟨_, rfl⟩ (.cons ⟨_, rfl⟩ (.cons ⟨_, rfl⟩ .nil))))⟩
    | 1, hj =>
      cases hj
      exact ⟨_, rfl, ktup_mk l6_1 (by show 4 ≤ sizeLine; decide) (.cons ⟨_, rfl⟩ (.cons ⟨_, rfl⟩ (.cons ⟨_, rfl⟩ (.cons ⟨_, rfl⟩ .nil))))⟩
    | j + 2, hj => cases hj
  · refine ⟨b7, [a7_0, a7_1], kdct_mk ls kl e7 rfl, ktup_mk l7 (by show 2 ≤ sizeLine; decide) (.cons rfl (.cons rfl .nil)), rfl, fun j a hj => ?_⟩
    match j, hj with
    | 0, hj =>
      cases hj
      exact ⟨_, rfl, ktup_mk l7_0 (by show 4 ≤ sizeLine; decide) (.cons ⟨_, rfl⟩ (.cons ⟨_, rfl⟩ (.cons ⟨_, rfl⟩ (.cons ⟨_, rfl⟩ .nil))))⟩
    | 1, hj =>
      cases hj
      exact ⟨_, rfl, ktup_mk l7_1 (by show 4 ≤ sizeLine; decide) (.cons ⟨_, rfl⟩ (.cons ⟨_, rfl⟩ (.cons ⟨_, rfl⟩ (.cons ⟨_, rfl⟩ .nil))))⟩
    | j + 2, hj => cases hj
set_option maxHeartbeats 0 in
theorem all_mk {P : Program} {w : World} {K : PySem.W.Frag} {h : Heap} {mg : Str → Option Value} (X : K.In h) (G : h.Ns mainGlobals mg) (B : Bn mg) (S : Shp K P w mg) (CS : Chs K w mg) (O : Outs K w mg)
    {fa C D T pN gN fi fch na wa : Addr} {f_check_image f_groups f__walk f_form_of f_first_bad f_is_repairable f_pieces f_torn_pieces f_standard f_piece_sides f_mended_piece f_repaired f__law_integer f__law_cell f__law_stream f__law_draw f__law_size f__law_order f__law_length f__law_sides f__law_world f__law_written f__law_row f__law_kept f__law_torn f_repair f_law : Addr} {p_hook g_hook p_relay g_relay p_clamp g_clamp p_trail g_trail p_wheel g_wheel : Addr}
    {tL tC : Tok} {nt0 dt0 nt1 dt1 nt2 dt2 nt3 dt3 nt4 dt4 wt0 wt1 : Tok} {odT odW odN : Option Addr} {slT slW slN : Array (Option Value)} {nT nW nN : Nat} {ocT : Value}
    {ra_hook ra_relay ra_clamp ra_trail ra_wheel : Value} {rr_hook rr_relay rr_clamp rr_trail rr_wheel rrN : List Value}
    {od_check_image an_check_image : Option Addr} {sl_check_image : Array (Option Value)} {oc_check_image kV_check_image dc_check_image pm_check_image cd_check_image ct_check_image : Value}
    {od_groups an_groups : Option Addr} {sl_groups : Array (Option Value)} {oc_groups kV_groups dc_groups pm_groups cd_groups ct_groups : Value}
    {od__walk an__walk : Option Addr} {sl__walk : Array (Option Value)} {oc__walk kV__walk dc__walk pm__walk cd__walk ct__walk : Value}
    {od_form_of an_form_of : Option Addr} {sl_form_of : Array (Option Value)} {oc_form_of kV_form_of dc_form_of pm_form_of cd_form_of ct_form_of : Value}
    {od_first_bad an_first_bad : Option Addr} {sl_first_bad : Array (Option Value)} {oc_first_bad kV_first_bad dc_first_bad pm_first_bad cd_first_bad ct_first_bad : Value}
    {od_is_repairable an_is_repairable : Option Addr} {sl_is_repairable : Array (Option Value)} {oc_is_repairable kV_is_repairable dc_is_repairable pm_is_repairable cd_is_repairable ct_is_repairable : Value}
    {od_pieces an_pieces : Option Addr} {sl_pieces : Array (Option Value)} {oc_pieces kV_pieces dc_pieces pm_pieces cd_pieces ct_pieces : Value}
    {od_torn_pieces an_torn_pieces : Option Addr} {sl_torn_pieces : Array (Option Value)} {oc_torn_pieces kV_torn_pieces dc_torn_pieces pm_torn_pieces cd_torn_pieces ct_torn_pieces : Value}
    {od_standard an_standard : Option Addr} {sl_standard : Array (Option Value)} {oc_standard kV_standard dc_standard pm_standard cd_standard ct_standard : Value}
    {od_piece_sides an_piece_sides : Option Addr} {sl_piece_sides : Array (Option Value)} {oc_piece_sides kV_piece_sides dc_piece_sides pm_piece_sides cd_piece_sides ct_piece_sides : Value}
    {od_mended_piece an_mended_piece : Option Addr} {sl_mended_piece : Array (Option Value)} {oc_mended_piece kV_mended_piece dc_mended_piece pm_mended_piece cd_mended_piece ct_mended_piece : Value}
    {od_repaired an_repaired : Option Addr} {sl_repaired : Array (Option Value)} {oc_repaired kV_repaired dc_repaired pm_repaired cd_repaired ct_repaired : Value}
    {od__law_integer an__law_integer : Option Addr} {sl__law_integer : Array (Option Value)} {oc__law_integer kV__law_integer dc__law_integer pm__law_integer cd__law_integer ct__law_integer : Value}
    {od__law_cell an__law_cell : Option Addr} {sl__law_cell : Array (Option Value)} {oc__law_cell kV__law_cell dc__law_cell pm__law_cell cd__law_cell ct__law_cell : Value}
    {od__law_stream an__law_stream : Option Addr} {sl__law_stream : Array (Option Value)} {oc__law_stream kV__law_stream dc__law_stream pm__law_stream cd__law_stream ct__law_stream : Value}
    {od__law_draw an__law_draw : Option Addr} {sl__law_draw : Array (Option Value)} {oc__law_draw kV__law_draw dc__law_draw pm__law_draw cd__law_draw ct__law_draw : Value}
    {od__law_size an__law_size : Option Addr} {sl__law_size : Array (Option Value)} {oc__law_size kV__law_size dc__law_size pm__law_size cd__law_size ct__law_size : Value}
    {od__law_order an__law_order : Option Addr} {sl__law_order : Array (Option Value)} {oc__law_order kV__law_order dc__law_order pm__law_order cd__law_order ct__law_order : Value}
    {od__law_length an__law_length : Option Addr} {sl__law_length : Array (Option Value)} {oc__law_length kV__law_length dc__law_length pm__law_length cd__law_length ct__law_length : Value}
    {od__law_sides an__law_sides : Option Addr} {sl__law_sides : Array (Option Value)} {oc__law_sides kV__law_sides dc__law_sides pm__law_sides cd__law_sides ct__law_sides : Value}
    {od__law_world an__law_world : Option Addr} {sl__law_world : Array (Option Value)} {oc__law_world kV__law_world dc__law_world pm__law_world cd__law_world ct__law_world : Value}
    {od__law_written an__law_written : Option Addr} {sl__law_written : Array (Option Value)} {oc__law_written kV__law_written dc__law_written pm__law_written cd__law_written ct__law_written : Value}
    {od__law_row an__law_row : Option Addr} {sl__law_row : Array (Option Value)} {oc__law_row kV__law_row dc__law_row pm__law_row cd__law_row ct__law_row : Value}
    {od__law_kept an__law_kept : Option Addr} {sl__law_kept : Array (Option Value)} {oc__law_kept kV__law_kept dc__law_kept pm__law_kept cd__law_kept ct__law_kept : Value}
    {od__law_torn an__law_torn : Option Addr} {sl__law_torn : Array (Option Value)} {oc__law_torn kV__law_torn dc__law_torn pm__law_torn cd__law_torn ct__law_torn : Value}
    {od_repair an_repair : Option Addr} {sl_repair : Array (Option Value)} {oc_repair kV_repair dc_repair pm_repair cd_repair ct_repair : Value}
    {od_law an_law : Option Addr} {sl_law : Array (Option Value)} {oc_law kV_law dc_law pm_law cd_law ct_law : Value}
    {od_set_hook an_set_hook : Option Addr} {sl_set_hook : Array (Option Value)} {oc_set_hook kV_set_hook dc_set_hook pm_set_hook cd_set_hook ct_set_hook : Value}
    {od_set_relay an_set_relay : Option Addr} {sl_set_relay : Array (Option Value)} {oc_set_relay kV_set_relay dc_set_relay pm_set_relay cd_set_relay ct_set_relay : Value}
    {od_set_clamp an_set_clamp : Option Addr} {sl_set_clamp : Array (Option Value)} {oc_set_clamp kV_set_clamp dc_set_clamp pm_set_clamp cd_set_clamp ct_set_clamp : Value}
    {od_set_trail an_set_trail : Option Addr} {sl_set_trail : Array (Option Value)} {oc_set_trail kV_set_trail dc_set_trail pm_set_trail cd_set_trail ct_set_trail : Value}
    {od_set_wheel an_set_wheel : Option Addr} {sl_set_wheel : Array (Option Value)} {oc_set_wheel kV_set_wheel dc_set_wheel pm_set_wheel cd_set_wheel ct_set_wheel : Value}
    {od_init an_init : Option Addr} {sl_init : Array (Option Value)} {oc_init dc_init pm_init cd_init ct_init : Value}
    {od_choice an_choice : Option Addr} {sl_choice : Array (Option Value)} {oc_choice kV_choice dc_choice pm_choice cd_choice ct_choice : Value}
    {od_numbered an_numbered : Option Addr} {sl_numbered : Array (Option Value)} {oc_numbered kV_numbered dc_numbered pm_numbered cd_numbered ct_numbered : Value}
    (hfa : mg "law" = some (.ref fa))
    (aC : PySem.W.nsIn K mainGlobals "Rules" = some (some (.ref C)))
    (aL : PySem.W.nsIn K mainGlobals "LARGEST" = some (some (.int 4 tL)))
    (aW : PySem.W.nsIn K mainGlobals "WHOLE_WORDS" = some (some (.ref wa)))
    (lW : K.lookup wa = some ⟨.type "tuple", odW, .seq #[.str "free" wt0, .str "pair" wt1] nW, slW⟩)
    (a_check_image : PySem.W.nsIn K mainGlobals "check_image" = some (some (.ref f_check_image)))
    (l_check_image : K.lookup f_check_image = some ⟨oc_check_image, od_check_image, .func (PySem.W.fnOf "check_image" "check_image" (defArgs sCheck) (defBody sCheck) (defScope sCheck) .none kV_check_image dc_check_image pm_check_image an_check_image cd_check_image ct_check_image), sl_check_image⟩)
    (c_check_image : PySem.W.codeIn K cd_check_image "check_image" = true)
    (k_check_image : PySem.W.keepIn K (.ref f_check_image) = true)
    (a_groups : PySem.W.nsIn K mainGlobals "groups" = some (some (.ref f_groups)))
    (l_groups : K.lookup f_groups = some ⟨oc_groups, od_groups, .func (PySem.W.fnOf "groups" "groups" (defArgs sGroups) (defBody sGroups) (defScope sGroups) .none kV_groups dc_groups pm_groups an_groups cd_groups ct_groups), sl_groups⟩)
    (c_groups : PySem.W.codeIn K cd_groups "groups" = true)
    (k_groups : PySem.W.keepIn K (.ref f_groups) = true)
    (a__walk : PySem.W.nsIn K mainGlobals "_walk" = some (some (.ref f__walk)))
    (l__walk : K.lookup f__walk = some ⟨oc__walk, od__walk, .func (PySem.W.fnOf "_walk" "_walk" (defArgs sWalk) (defBody sWalk) (defScope sWalk) .none kV__walk dc__walk pm__walk an__walk cd__walk ct__walk), sl__walk⟩)
    (c__walk : PySem.W.codeIn K cd__walk "_walk" = true)
    (k__walk : PySem.W.keepIn K (.ref f__walk) = true)
    (a_form_of : PySem.W.nsIn K mainGlobals "form_of" = some (some (.ref f_form_of)))
    (l_form_of : K.lookup f_form_of = some ⟨oc_form_of, od_form_of, .func (PySem.W.fnOf "form_of" "form_of" (defArgs sForm) (defBody sForm) (defScope sForm) .none kV_form_of dc_form_of pm_form_of an_form_of cd_form_of ct_form_of), sl_form_of⟩)
    (c_form_of : PySem.W.codeIn K cd_form_of "form_of" = true)
    (k_form_of : PySem.W.keepIn K (.ref f_form_of) = true)
    (a_first_bad : PySem.W.nsIn K mainGlobals "first_bad" = some (some (.ref f_first_bad)))
    (l_first_bad : K.lookup f_first_bad = some ⟨oc_first_bad, od_first_bad, .func (PySem.W.fnOf "first_bad" "first_bad" (defArgs sFirst) (defBody sFirst) (defScope sFirst) .none kV_first_bad dc_first_bad pm_first_bad an_first_bad cd_first_bad ct_first_bad), sl_first_bad⟩)
    (c_first_bad : PySem.W.codeIn K cd_first_bad "first_bad" = true)
    (k_first_bad : PySem.W.keepIn K (.ref f_first_bad) = true)
    (a_is_repairable : PySem.W.nsIn K mainGlobals "is_repairable" = some (some (.ref f_is_repairable)))
    (l_is_repairable : K.lookup f_is_repairable = some ⟨oc_is_repairable, od_is_repairable, .func (PySem.W.fnOf "is_repairable" "is_repairable" (defArgs sIsRep) (defBody sIsRep) (defScope sIsRep) .none kV_is_repairable dc_is_repairable pm_is_repairable an_is_repairable cd_is_repairable ct_is_repairable), sl_is_repairable⟩)
    (c_is_repairable : PySem.W.codeIn K cd_is_repairable "is_repairable" = true)
    (k_is_repairable : PySem.W.keepIn K (.ref f_is_repairable) = true)
    (a_pieces : PySem.W.nsIn K mainGlobals "pieces" = some (some (.ref f_pieces)))
    (l_pieces : K.lookup f_pieces = some ⟨oc_pieces, od_pieces, .func (PySem.W.fnOf "pieces" "pieces" (defArgs sPieces) (defBody sPieces) (defScope sPieces) .none kV_pieces dc_pieces pm_pieces an_pieces cd_pieces ct_pieces), sl_pieces⟩)
    (c_pieces : PySem.W.codeIn K cd_pieces "pieces" = true)
    (k_pieces : PySem.W.keepIn K (.ref f_pieces) = true)
    (a_torn_pieces : PySem.W.nsIn K mainGlobals "torn_pieces" = some (some (.ref f_torn_pieces)))
    (l_torn_pieces : K.lookup f_torn_pieces = some ⟨oc_torn_pieces, od_torn_pieces, .func (PySem.W.fnOf "torn_pieces" "torn_pieces" (defArgs sTornP) (defBody sTornP) (defScope sTornP) .none kV_torn_pieces dc_torn_pieces pm_torn_pieces an_torn_pieces cd_torn_pieces ct_torn_pieces), sl_torn_pieces⟩)
    (c_torn_pieces : PySem.W.codeIn K cd_torn_pieces "torn_pieces" = true)
    (k_torn_pieces : PySem.W.keepIn K (.ref f_torn_pieces) = true)
    (a_standard : PySem.W.nsIn K mainGlobals "standard" = some (some (.ref f_standard)))
    (l_standard : K.lookup f_standard = some ⟨oc_standard, od_standard, .func (PySem.W.fnOf "standard" "standard" (defArgs sStandard) (defBody sStandard) (defScope sStandard) .none kV_standard dc_standard pm_standard an_standard cd_standard ct_standard), sl_standard⟩)
    (c_standard : PySem.W.codeIn K cd_standard "standard" = true)
    (k_standard : PySem.W.keepIn K (.ref f_standard) = true)
    (a_piece_sides : PySem.W.nsIn K mainGlobals "piece_sides" = some (some (.ref f_piece_sides)))
    (l_piece_sides : K.lookup f_piece_sides = some ⟨oc_piece_sides, od_piece_sides, .func (PySem.W.fnOf "piece_sides" "piece_sides" (defArgs sSides) (defBody sSides) (defScope sSides) .none kV_piece_sides dc_piece_sides pm_piece_sides an_piece_sides cd_piece_sides ct_piece_sides), sl_piece_sides⟩)
    (c_piece_sides : PySem.W.codeIn K cd_piece_sides "piece_sides" = true)
    (k_piece_sides : PySem.W.keepIn K (.ref f_piece_sides) = true)
    (a_mended_piece : PySem.W.nsIn K mainGlobals "mended_piece" = some (some (.ref f_mended_piece)))
    (l_mended_piece : K.lookup f_mended_piece = some ⟨oc_mended_piece, od_mended_piece, .func (PySem.W.fnOf "mended_piece" "mended_piece" (defArgs sMended) (defBody sMended) (defScope sMended) .none kV_mended_piece dc_mended_piece pm_mended_piece an_mended_piece cd_mended_piece ct_mended_piece), sl_mended_piece⟩)
    (c_mended_piece : PySem.W.codeIn K cd_mended_piece "mended_piece" = true)
    (k_mended_piece : PySem.W.keepIn K (.ref f_mended_piece) = true)
    (a_repaired : PySem.W.nsIn K mainGlobals "repaired" = some (some (.ref f_repaired)))
    (l_repaired : K.lookup f_repaired = some ⟨oc_repaired, od_repaired, .func (PySem.W.fnOf "repaired" "repaired" (defArgs sRepaired) (defBody sRepaired) (defScope sRepaired) .none kV_repaired dc_repaired pm_repaired an_repaired cd_repaired ct_repaired), sl_repaired⟩)
    (c_repaired : PySem.W.codeIn K cd_repaired "repaired" = true)
    (k_repaired : PySem.W.keepIn K (.ref f_repaired) = true)
    (a__law_integer : PySem.W.nsIn K mainGlobals "_law_integer" = some (some (.ref f__law_integer)))
    (l__law_integer : K.lookup f__law_integer = some ⟨oc__law_integer, od__law_integer, .func (PySem.W.fnOf "_law_integer" "_law_integer" (defArgs sInteger) (defBody sInteger) (defScope sInteger) .none kV__law_integer dc__law_integer pm__law_integer an__law_integer cd__law_integer ct__law_integer), sl__law_integer⟩)
    (c__law_integer : PySem.W.codeIn K cd__law_integer "_law_integer" = true)
    (k__law_integer : PySem.W.keepIn K (.ref f__law_integer) = true)
    (a__law_cell : PySem.W.nsIn K mainGlobals "_law_cell" = some (some (.ref f__law_cell)))
    (l__law_cell : K.lookup f__law_cell = some ⟨oc__law_cell, od__law_cell, .func (PySem.W.fnOf "_law_cell" "_law_cell" (defArgs sCell) (defBody sCell) (defScope sCell) .none kV__law_cell dc__law_cell pm__law_cell an__law_cell cd__law_cell ct__law_cell), sl__law_cell⟩)
    (c__law_cell : PySem.W.codeIn K cd__law_cell "_law_cell" = true)
    (k__law_cell : PySem.W.keepIn K (.ref f__law_cell) = true)
    (a__law_stream : PySem.W.nsIn K mainGlobals "_law_stream" = some (some (.ref f__law_stream)))
    (l__law_stream : K.lookup f__law_stream = some ⟨oc__law_stream, od__law_stream, .func (PySem.W.fnOf "_law_stream" "_law_stream" (defArgs sStream) (defBody sStream) (defScope sStream) .none kV__law_stream dc__law_stream pm__law_stream an__law_stream cd__law_stream ct__law_stream), sl__law_stream⟩)
    (c__law_stream : PySem.W.codeIn K cd__law_stream "_law_stream" = true)
    (k__law_stream : PySem.W.keepIn K (.ref f__law_stream) = true)
    (a__law_draw : PySem.W.nsIn K mainGlobals "_law_draw" = some (some (.ref f__law_draw)))
    (l__law_draw : K.lookup f__law_draw = some ⟨oc__law_draw, od__law_draw, .func (PySem.W.fnOf "_law_draw" "_law_draw" (defArgs sDraw) (defBody sDraw) (defScope sDraw) .none kV__law_draw dc__law_draw pm__law_draw an__law_draw cd__law_draw ct__law_draw), sl__law_draw⟩)
    (c__law_draw : PySem.W.codeIn K cd__law_draw "_law_draw" = true)
    (k__law_draw : PySem.W.keepIn K (.ref f__law_draw) = true)
    (a__law_size : PySem.W.nsIn K mainGlobals "_law_size" = some (some (.ref f__law_size)))
    (l__law_size : K.lookup f__law_size = some ⟨oc__law_size, od__law_size, .func (PySem.W.fnOf "_law_size" "_law_size" (defArgs sSize) (defBody sSize) (defScope sSize) .none kV__law_size dc__law_size pm__law_size an__law_size cd__law_size ct__law_size), sl__law_size⟩)
    (c__law_size : PySem.W.codeIn K cd__law_size "_law_size" = true)
    (k__law_size : PySem.W.keepIn K (.ref f__law_size) = true)
    (a__law_order : PySem.W.nsIn K mainGlobals "_law_order" = some (some (.ref f__law_order)))
    (l__law_order : K.lookup f__law_order = some ⟨oc__law_order, od__law_order, .func (PySem.W.fnOf "_law_order" "_law_order" (defArgs sOrder) (defBody sOrder) (defScope sOrder) .none kV__law_order dc__law_order pm__law_order an__law_order cd__law_order ct__law_order), sl__law_order⟩)
    (c__law_order : PySem.W.codeIn K cd__law_order "_law_order" = true)
    (k__law_order : PySem.W.keepIn K (.ref f__law_order) = true)
    (a__law_length : PySem.W.nsIn K mainGlobals "_law_length" = some (some (.ref f__law_length)))
    (l__law_length : K.lookup f__law_length = some ⟨oc__law_length, od__law_length, .func (PySem.W.fnOf "_law_length" "_law_length" (defArgs sLength) (defBody sLength) (defScope sLength) .none kV__law_length dc__law_length pm__law_length an__law_length cd__law_length ct__law_length), sl__law_length⟩)
    (c__law_length : PySem.W.codeIn K cd__law_length "_law_length" = true)
    (k__law_length : PySem.W.keepIn K (.ref f__law_length) = true)
    (a__law_sides : PySem.W.nsIn K mainGlobals "_law_sides" = some (some (.ref f__law_sides)))
    (l__law_sides : K.lookup f__law_sides = some ⟨oc__law_sides, od__law_sides, .func (PySem.W.fnOf "_law_sides" "_law_sides" (defArgs sLSides) (defBody sLSides) (defScope sLSides) .none kV__law_sides dc__law_sides pm__law_sides an__law_sides cd__law_sides ct__law_sides), sl__law_sides⟩)
    (c__law_sides : PySem.W.codeIn K cd__law_sides "_law_sides" = true)
    (k__law_sides : PySem.W.keepIn K (.ref f__law_sides) = true)
    (a__law_world : PySem.W.nsIn K mainGlobals "_law_world" = some (some (.ref f__law_world)))
    (l__law_world : K.lookup f__law_world = some ⟨oc__law_world, od__law_world, .func (PySem.W.fnOf "_law_world" "_law_world" (defArgs sWorld) (defBody sWorld) (defScope sWorld) .none kV__law_world dc__law_world pm__law_world an__law_world cd__law_world ct__law_world), sl__law_world⟩)
    (c__law_world : PySem.W.codeIn K cd__law_world "_law_world" = true)
    (k__law_world : PySem.W.keepIn K (.ref f__law_world) = true)
    (a__law_written : PySem.W.nsIn K mainGlobals "_law_written" = some (some (.ref f__law_written)))
    (l__law_written : K.lookup f__law_written = some ⟨oc__law_written, od__law_written, .func (PySem.W.fnOf "_law_written" "_law_written" (defArgs sWritten) (defBody sWritten) (defScope sWritten) .none kV__law_written dc__law_written pm__law_written an__law_written cd__law_written ct__law_written), sl__law_written⟩)
    (c__law_written : PySem.W.codeIn K cd__law_written "_law_written" = true)
    (k__law_written : PySem.W.keepIn K (.ref f__law_written) = true)
    (a__law_row : PySem.W.nsIn K mainGlobals "_law_row" = some (some (.ref f__law_row)))
    (l__law_row : K.lookup f__law_row = some ⟨oc__law_row, od__law_row, .func (PySem.W.fnOf "_law_row" "_law_row" (defArgs sRow) (defBody sRow) (defScope sRow) .none kV__law_row dc__law_row pm__law_row an__law_row cd__law_row ct__law_row), sl__law_row⟩)
    (c__law_row : PySem.W.codeIn K cd__law_row "_law_row" = true)
    (k__law_row : PySem.W.keepIn K (.ref f__law_row) = true)
    (a__law_kept : PySem.W.nsIn K mainGlobals "_law_kept" = some (some (.ref f__law_kept)))
    (l__law_kept : K.lookup f__law_kept = some ⟨oc__law_kept, od__law_kept, .func (PySem.W.fnOf "_law_kept" "_law_kept" (defArgs sKept) (defBody sKept) (defScope sKept) .none kV__law_kept dc__law_kept pm__law_kept an__law_kept cd__law_kept ct__law_kept), sl__law_kept⟩)
    (c__law_kept : PySem.W.codeIn K cd__law_kept "_law_kept" = true)
    (k__law_kept : PySem.W.keepIn K (.ref f__law_kept) = true)
    (a__law_torn : PySem.W.nsIn K mainGlobals "_law_torn" = some (some (.ref f__law_torn)))
    (l__law_torn : K.lookup f__law_torn = some ⟨oc__law_torn, od__law_torn, .func (PySem.W.fnOf "_law_torn" "_law_torn" (defArgs sLTorn) (defBody sLTorn) (defScope sLTorn) .none kV__law_torn dc__law_torn pm__law_torn an__law_torn cd__law_torn ct__law_torn), sl__law_torn⟩)
    (c__law_torn : PySem.W.codeIn K cd__law_torn "_law_torn" = true)
    (k__law_torn : PySem.W.keepIn K (.ref f__law_torn) = true)
    (a_repair : PySem.W.nsIn K mainGlobals "repair" = some (some (.ref f_repair)))
    (l_repair : K.lookup f_repair = some ⟨oc_repair, od_repair, .func (PySem.W.fnOf "repair" "repair" (defArgs sRepair) (defBody sRepair) (defScope sRepair) (.ref T) kV_repair dc_repair pm_repair an_repair cd_repair ct_repair), sl_repair⟩)
    (c_repair : PySem.W.codeIn K cd_repair "repair" = true)
    (k_repair : PySem.W.keepIn K (.ref f_repair) = true)
    (lT : K.lookup T = some ⟨ocT, odT, .seq #[.none] nT, slT⟩)
    (a_law : PySem.W.nsIn K mainGlobals "law" = some (some (.ref f_law)))
    (l_law : K.lookup f_law = some ⟨oc_law, od_law, .func (PySem.W.fnOf "law" "law" (defArgs sLaw) (defBody sLaw) (defScope sLaw) .none kV_law dc_law pm_law an_law cd_law ct_law), sl_law⟩)
    (c_law : PySem.W.codeIn K cd_law "law" = true)
    (k_law : PySem.W.keepIn K (.ref f_law) = true)
    (pg : PySem.W.plainGet K C Str.empty = true)
    (hd : PySem.W.hasDictIn K C = true)
    (po : PySem.W.plainOver K C = true)
    (sa : PySem.W.findIn K (.ref C) "__setattr__" = some (some (.builtin "object.__setattr__")))
    (no_hook : PySem.W.findIn K (.ref C) "_hook" = some none)
    (no_relay : PySem.W.findIn K (.ref C) "_relay" = some none)
    (no_clamp : PySem.W.findIn K (.ref C) "_clamp" = some none)
    (no_trail : PySem.W.findIn K (.ref C) "_trail" = some none)
    (no_wheel : PySem.W.findIn K (.ref C) "_wheel" = some none)
    (tk_hook : PySem.W.takerIn K C "hook" = some (some (.ref p_hook)))
    (ty_hook : PySem.W.typeIn K (.ref p_hook) = some (.type "property"))
    (rc_hook : PySem.W.recIn K p_hook "property" = some (ra_hook :: .ref g_hook :: rr_hook))
    (l_set_hook : K.lookup g_hook = some ⟨oc_set_hook, od_set_hook, .func (PySem.W.fnOf "hook" "Rules.hook" (defArgs sSetHook) (defBody sSetHook) (defScope sSetHook) .none kV_set_hook dc_set_hook pm_set_hook an_set_hook cd_set_hook ct_set_hook), sl_set_hook⟩)
    (c_set_hook : PySem.W.codeIn K cd_set_hook "Rules.hook" = true)
    (k_set_hook : PySem.W.keepIn K (.ref g_hook) = true)
    (tk_relay : PySem.W.takerIn K C "relay" = some (some (.ref p_relay)))
    (ty_relay : PySem.W.typeIn K (.ref p_relay) = some (.type "property"))
    (rc_relay : PySem.W.recIn K p_relay "property" = some (ra_relay :: .ref g_relay :: rr_relay))
    (l_set_relay : K.lookup g_relay = some ⟨oc_set_relay, od_set_relay, .func (PySem.W.fnOf "relay" "Rules.relay" (defArgs sSetRelay) (defBody sSetRelay) (defScope sSetRelay) .none kV_set_relay dc_set_relay pm_set_relay an_set_relay cd_set_relay ct_set_relay), sl_set_relay⟩)
    (c_set_relay : PySem.W.codeIn K cd_set_relay "Rules.relay" = true)
    (k_set_relay : PySem.W.keepIn K (.ref g_relay) = true)
    (tk_clamp : PySem.W.takerIn K C "clamp" = some (some (.ref p_clamp)))
    (ty_clamp : PySem.W.typeIn K (.ref p_clamp) = some (.type "property"))
    (rc_clamp : PySem.W.recIn K p_clamp "property" = some (ra_clamp :: .ref g_clamp :: rr_clamp))
    (l_set_clamp : K.lookup g_clamp = some ⟨oc_set_clamp, od_set_clamp, .func (PySem.W.fnOf "clamp" "Rules.clamp" (defArgs sSetClamp) (defBody sSetClamp) (defScope sSetClamp) .none kV_set_clamp dc_set_clamp pm_set_clamp an_set_clamp cd_set_clamp ct_set_clamp), sl_set_clamp⟩)
    (c_set_clamp : PySem.W.codeIn K cd_set_clamp "Rules.clamp" = true)
    (k_set_clamp : PySem.W.keepIn K (.ref g_clamp) = true)
    (tk_trail : PySem.W.takerIn K C "trail" = some (some (.ref p_trail)))
    (ty_trail : PySem.W.typeIn K (.ref p_trail) = some (.type "property"))
    (rc_trail : PySem.W.recIn K p_trail "property" = some (ra_trail :: .ref g_trail :: rr_trail))
    (l_set_trail : K.lookup g_trail = some ⟨oc_set_trail, od_set_trail, .func (PySem.W.fnOf "trail" "Rules.trail" (defArgs sSetTrail) (defBody sSetTrail) (defScope sSetTrail) .none kV_set_trail dc_set_trail pm_set_trail an_set_trail cd_set_trail ct_set_trail), sl_set_trail⟩)
    (c_set_trail : PySem.W.codeIn K cd_set_trail "Rules.trail" = true)
    (k_set_trail : PySem.W.keepIn K (.ref g_trail) = true)
    (tk_wheel : PySem.W.takerIn K C "wheel" = some (some (.ref p_wheel)))
    (ty_wheel : PySem.W.typeIn K (.ref p_wheel) = some (.type "property"))
    (rc_wheel : PySem.W.recIn K p_wheel "property" = some (ra_wheel :: .ref g_wheel :: rr_wheel))
    (l_set_wheel : K.lookup g_wheel = some ⟨oc_set_wheel, od_set_wheel, .func (PySem.W.fnOf "wheel" "Rules.wheel" (defArgs sSetWheel) (defBody sSetWheel) (defScope sSetWheel) .none kV_set_wheel dc_set_wheel pm_set_wheel an_set_wheel cd_set_wheel ct_set_wheel), sl_set_wheel⟩)
    (c_set_wheel : PySem.W.codeIn K cd_set_wheel "Rules.wheel" = true)
    (k_set_wheel : PySem.W.keepIn K (.ref g_wheel) = true)
    (mk : PySem.W.makesIn K C = true)
    (ai : PySem.W.findIn K (.ref C) "__init__" = some (some (.ref fi)))
    (ii : PySem.W.isFn K (.ref fi) = true)
    (kC : PySem.W.keepIn K (.ref C) = true)
    (l_init : K.lookup fi = some ⟨oc_init, od_init, .func (PySem.W.fnOf "__init__" "Rules.__init__" (defArgs sInit) (defBody sInit) (defScope sInit) .none (.ref D) dc_init pm_init an_init cd_init ct_init), sl_init⟩)
    (c_init : PySem.W.codeIn K cd_init "Rules.__init__" = true)
    (k_init : PySem.W.keepIn K (.ref fi) = true)
    (d_hook : PySem.W.nsIn K D "hook" = some (some (.str "back" dt0)))
    (d_relay : PySem.W.nsIn K D "relay" = some (some (.str "near" dt1)))
    (d_clamp : PySem.W.nsIn K D "clamp" = some (some (.str "inner" dt2)))
    (d_trail : PySem.W.nsIn K D "trail" = some (some (.str "near" dt3)))
    (d_wheel : PySem.W.nsIn K D "wheel" = some (some (.str "even" dt4)))
    (ac : PySem.W.findIn K (.ref C) "choice" = some (some (.ref fch)))
    (ic : PySem.W.isFn K (.ref fch) = true)
    (l_choice : K.lookup fch = some ⟨oc_choice, od_choice, .func (PySem.W.fnOf "choice" "Rules.choice" (defArgs sChoice) (defBody sChoice) (defScope sChoice) .none kV_choice dc_choice pm_choice an_choice cd_choice ct_choice), sl_choice⟩)
    (c_choice : PySem.W.codeIn K cd_choice "Rules.choice" = true)
    (k_choice : PySem.W.keepIn K (.ref fch) = true)
    (rd : PySem.W.readsIn K C (.type "type") = true)
    (ga : PySem.W.specialIn K (.ref C) "__getattribute__" = some (some (.builtin "type.__getattribute__")))
    (aCo : PySem.W.findCls K (.ref C) (.type "type") "COUNT" = some (.val (.int 32 tC)))
    (aNa : PySem.W.findCls K (.ref C) (.type "type") "NAMES" = some (.val (.ref na)))
    (lNa : K.lookup na = some ⟨.type "tuple", odN, .seq #[.str "hook" nt0, .str "relay" nt1, .str "clamp" nt2, .str "trail" nt3, .str "wheel" nt4] nN, slN⟩)
    (aN : PySem.W.findCls K (.ref C) (.type "type") "numbered" = some (.get (.builtin "classmethod.__get__") (.ref pN) .none (.ref C)))
    (rN : PySem.W.recIn K pN "classmethod" = some (.ref gN :: rrN))
    (fN : PySem.W.fnIn K gN = true)
    (l_numbered : K.lookup gN = some ⟨oc_numbered, od_numbered, .func (PySem.W.fnOf "numbered" "Rules.numbered" (defArgs sNumbered) (defBody sNumbered) (defScope sNumbered) .none kV_numbered dc_numbered pm_numbered an_numbered cd_numbered ct_numbered), sl_numbered⟩)
    (c_numbered : PySem.W.codeIn K cd_numbered "Rules.numbered" = true)
    (k_numbered : PySem.W.keepIn K (.ref gN) = true)
    : ∃ fd : FuncData, (∀ (s : Shared) (v : Value), BindsTo s fd ⟨[v], []⟩ [("_law_script", v)]) ∧ ∀ base : Heap, K.In base → base.Ns mainGlobals mg → FnOk P w K mg base CX0 10 fa fd ["_law_script"] (spLaw K) := by
  have e := hfa.symm.trans (PySem.W.mg_of X G a_law)
  cases e
  have hC : mg "Rules" = some (.ref C) := PySem.W.mg_of X G aC
  have T : RTxt K C := ⟨⟨pg, hd, po, sa⟩, no_hook, no_relay, no_clamp, no_trail, no_wheel⟩
  have F_check_image := fun_mk (st := sCheck) l_check_image c_check_image k_check_image
  have F_groups := fun_mk (st := sGroups) l_groups c_groups k_groups
  have F__walk := fun_mk (st := sWalk) l__walk c__walk k__walk
  have F_form_of := fun_mk (st := sForm) l_form_of c_form_of k_form_of
  have F_first_bad := fun_mk (st := sFirst) l_first_bad c_first_bad k_first_bad
  have F_is_repairable := fun_mk (st := sIsRep) l_is_repairable c_is_repairable k_is_repairable
  have F_pieces := fun_mk (st := sPieces) l_pieces c_pieces k_pieces
  have F_torn_pieces := fun_mk (st := sTornP) l_torn_pieces c_torn_pieces k_torn_pieces
  have F_standard := fun_mk (st := sStandard) l_standard c_standard k_standard
  have F_piece_sides := fun_mk (st := sSides) l_piece_sides c_piece_sides k_piece_sides
  have F_mended_piece := fun_mk (st := sMended) l_mended_piece c_mended_piece k_mended_piece
  have F_repaired := fun_mk (st := sRepaired) l_repaired c_repaired k_repaired
  have F__law_integer := fun_mk (st := sInteger) l__law_integer c__law_integer k__law_integer
  have F__law_cell := fun_mk (st := sCell) l__law_cell c__law_cell k__law_cell
  have F__law_stream := fun_mk (st := sStream) l__law_stream c__law_stream k__law_stream
  have F__law_draw := fun_mk (st := sDraw) l__law_draw c__law_draw k__law_draw
  have F__law_size := fun_mk (st := sSize) l__law_size c__law_size k__law_size
  have F__law_order := fun_mk (st := sOrder) l__law_order c__law_order k__law_order
  have F__law_length := fun_mk (st := sLength) l__law_length c__law_length k__law_length
  have F__law_sides := fun_mk (st := sLSides) l__law_sides c__law_sides k__law_sides
  have F__law_world := fun_mk (st := sWorld) l__law_world c__law_world k__law_world
  have F__law_written := fun_mk (st := sWritten) l__law_written c__law_written k__law_written
  have F__law_row := fun_mk (st := sRow) l__law_row c__law_row k__law_row
  have F__law_kept := fun_mk (st := sKept) l__law_kept c__law_kept k__law_kept
  have F__law_torn := fun_mk (st := sLTorn) l__law_torn c__law_torn k__law_torn
  have F_set_hook := fun_mk (st := sSetHook) l_set_hook c_set_hook k_set_hook
  have F_set_relay := fun_mk (st := sSetRelay) l_set_relay c_set_relay k_set_relay
  have F_set_clamp := fun_mk (st := sSetClamp) l_set_clamp c_set_clamp k_set_clamp
  have F_set_trail := fun_mk (st := sSetTrail) l_set_trail c_set_trail k_set_trail
  have F_set_wheel := fun_mk (st := sSetWheel) l_set_wheel c_set_wheel k_set_wheel
  have F_choice := fun_mk (st := sChoice) l_choice c_choice k_choice
  have F_numbered := fun_mk (st := sNumbered) l_numbered c_numbered k_numbered
  have F_law := fun_mk (st := sLaw) l_law c_law k_law
  have F_repair := fund_mk (st := sRepair) (dvs := [.non]) (kws := []) l_repair c_repair k_repair (.inr ⟨by simp, _, _, [.none], nT, rfl, lT, rfl, .cons rfl .nil⟩) (.inl rfl)
  have F_init := fund_mk (st := sInit) (dvs := []) (kws := [("hook", V.str "back"), ("relay", .str "near"), ("clamp", .str "inner"), ("trail", .str "near"), ("wheel", .str "even")]) l_init c_init k_init (.inl ⟨rfl, rfl⟩) (.inr ⟨D, rfl, fun q hq => by
    simp only [List.mem_cons, List.mem_nil_iff, or_false] at hq
    rcases hq with rfl | rfl | rfl | rfl | rfl
    · exact ⟨_, d_hook, _, rfl⟩
    · exact ⟨_, d_relay, _, rfl⟩
    · exact ⟨_, d_clamp, _, rfl⟩
    · exact ⟨_, d_trail, _, rfl⟩
    · exact ⟨_, d_wheel, _, rfl⟩
    ⟩)
  have b_check_image := F_check_image.binds (ps := ["image"]) fun _ _ _ _ _ _ us hl => match us, hl with | [_], _ => rfl
  have b_groups := F_groups.binds (ps := ["image"]) fun _ _ _ _ _ _ us hl => match us, hl with | [_], _ => rfl
  have b__walk := F__walk.binds (ps := ["image", "start"]) fun _ _ _ _ _ _ us hl => match us, hl with | [_, _], _ => rfl
  have b_form_of := F_form_of.binds (ps := ["image", "group"]) fun _ _ _ _ _ _ us hl => match us, hl with | [_, _], _ => rfl
  have b_first_bad := F_first_bad.binds (ps := ["image"]) fun _ _ _ _ _ _ us hl => match us, hl with | [_], _ => rfl
  have b_is_repairable := F_is_repairable.binds (ps := ["image"]) fun _ _ _ _ _ _ us hl => match us, hl with | [_], _ => rfl
  have b_pieces := F_pieces.binds (ps := ["image"]) fun _ _ _ _ _ _ us hl => match us, hl with | [_], _ => rfl
  have b_torn_pieces := F_torn_pieces.binds (ps := ["image"]) fun _ _ _ _ _ _ us hl => match us, hl with | [_], _ => rfl
  have b_standard := F_standard.binds (ps := ["rules"]) fun _ _ _ _ _ _ us hl => match us, hl with | [_], _ => rfl
  have b_piece_sides := F_piece_sides.binds (ps := ["word", "records"]) fun _ _ _ _ _ _ us hl => match us, hl with | [_, _], _ => rfl
  have b_mended_piece := F_mended_piece.binds (ps := ["word", "records", "rules"]) fun _ _ _ _ _ _ us hl => match us, hl with | [_, _, _], _ => rfl
  have b_repaired := F_repaired.binds (ps := ["image", "rules"]) fun _ _ _ _ _ _ us hl => match us, hl with | [_, _], _ => rfl
  have b__law_integer := F__law_integer.binds (ps := ["_law_value"]) fun _ _ _ _ _ _ us hl => match us, hl with | [_], _ => rfl
  have b__law_cell := F__law_cell.binds (ps := ["_law_script", "_law_k"]) fun _ _ _ _ _ _ us hl => match us, hl with | [_, _], _ => rfl
  have b__law_stream := F__law_stream.binds (ps := ["_law_script", "_law_k"]) fun _ _ _ _ _ _ us hl => match us, hl with | [_, _], _ => rfl
  have b__law_draw := F__law_draw.binds (ps := ["_law_stream_here", "_law_size_here"]) fun _ _ _ _ _ _ us hl => match us, hl with | [_, _], _ => rfl
  have b__law_size := F__law_size.binds (ps := ["_law_stream_here"]) fun _ _ _ _ _ _ us hl => match us, hl with | [_], _ => rfl
  have b__law_order := F__law_order.binds (ps := ["_law_stream_here", "_law_size_here"]) fun _ _ _ _ _ _ us hl => match us, hl with | [_, _], _ => rfl
  have b__law_length := F__law_length.binds (ps := ["_law_word"]) fun _ _ _ _ _ _ us hl => match us, hl with | [_], _ => rfl
  have b__law_sides := F__law_sides.binds (ps := ["_law_word", "_law_p"]) fun _ _ _ _ _ _ us hl => match us, hl with | [_, _], _ => rfl
  have b__law_world := F__law_world.binds (ps := ["_law_stream_here", "_law_size_here"]) fun _ _ _ _ _ _ us hl => match us, hl with | [_, _], _ => rfl
  have b__law_written := F__law_written.binds (ps := ["_law_stream_here", "_law_part"]) fun _ _ _ _ _ _ us hl => match us, hl with | [_, _], _ => rfl
  have b__law_row := F__law_row.binds (ps := ["_law_told", "_law_size_here"]) fun _ _ _ _ _ _ us hl => match us, hl with | [_, _], _ => rfl
  have b__law_kept := F__law_kept.binds (ps := ["_law_told", "_law_before", "_law_after", "_law_image", "_law_writers"]) fun _ _ _ _ _ _ us hl => match us, hl with | [_, _, _, _, _], _ => rfl
  have b__law_torn := F__law_torn.binds (ps := ["_law_after", "_law_image", "_law_writers"]) fun _ _ _ _ _ _ us hl => match us, hl with | [_, _, _], _ => rfl
  have b_set_hook := F_set_hook.binds (ps := ["self", "value"]) fun _ _ _ _ _ _ us hl => match us, hl with | [_, _], _ => rfl
  have b_set_relay := F_set_relay.binds (ps := ["self", "value"]) fun _ _ _ _ _ _ us hl => match us, hl with | [_, _], _ => rfl
  have b_set_clamp := F_set_clamp.binds (ps := ["self", "value"]) fun _ _ _ _ _ _ us hl => match us, hl with | [_, _], _ => rfl
  have b_set_trail := F_set_trail.binds (ps := ["self", "value"]) fun _ _ _ _ _ _ us hl => match us, hl with | [_, _], _ => rfl
  have b_set_wheel := F_set_wheel.binds (ps := ["self", "value"]) fun _ _ _ _ _ _ us hl => match us, hl with | [_, _], _ => rfl
  have b_choice := F_choice.binds (ps := ["self", "name"]) fun _ _ _ _ _ _ us hl => match us, hl with | [_, _], _ => rfl
  have b_numbered := F_numbered.binds (ps := ["cls", "number"]) fun _ _ _ _ _ _ us hl => match us, hl with | [_, _], _ => rfl
  have b_repair1 := F_repair.binds1 (ps := ["image", "rules"]) 1 0 (by simp) rfl fun _ _ _ _ _ _ _ us its h1 h2 => match us, its, h1, h2 with | [_], [_], _, _ => ⟨_, rfl, rfl⟩
  have b_repair2 := F_repair.binds1 (ps := ["image", "rules"]) 2 1 (by simp) rfl fun _ _ _ _ _ _ _ us its h1 h2 => match us, its, h1, h2 with | [_, _], [_], _, _ => ⟨_, rfl, rfl⟩
  have b_init0 := F_init.binds0 (ps := nRules) 1 (by simp) rfl fun _ _ _ _ _ _ us ks h1 h2 => match us, ks, h1, h2 with | [_], [_, _, _, _, _], _, _ => ⟨_, _, _, _, _, _, rfl, rfl, _, _, _, _, _, _, rfl, rfl, _, _, _, _, _, _, rfl, rfl, _, _, _, _, _, _, rfl, rfl, _, _, _, _, _, _, rfl, rfl, rfl⟩
  have k_init0 := F_init.kbinds0 (ps := nRules) 1 (kw5.map (·.1)) [] (fun us _ ws => us ++ ws) (by simp) (by simp) (fun r1 _ r3 => r1.append r3) fun _ _ _ _ _ _ us mv ws h1 h2 h3 => match us, mv, ws, h1, h2, h3 with | [_], [], [_, _, _, _, _], _, _, _ => rfl
  refine ⟨PySem.W.fnOf "law" "law" (defArgs sLaw) (defBody sLaw) (defScope sLaw) .none kV_law dc_law pm_law an_law cd_law ct_law, fun s v => .of_eq rfl, fun base _ _ => ?_⟩
  have S_hook : Setr P w K mg base C .hook "_hook" := setr_mk (w8 := .hook) tk_hook ty_hook rc_hook (ok_SetHook F_set_hook T CS) b_set_hook
  have S_relay : Setr P w K mg base C .relay "_relay" := setr_mk (w8 := .relay) tk_relay ty_relay rc_relay (ok_SetRelay F_set_relay T CS) b_set_relay
  have S_clamp : Setr P w K mg base C .clamp "_clamp" := setr_mk (w8 := .clamp) tk_clamp ty_clamp rc_clamp (ok_SetClamp F_set_clamp T CS) b_set_clamp
  have S_trail : Setr P w K mg base C .trail "_trail" := setr_mk (w8 := .trail) tk_trail ty_trail rc_trail (ok_SetTrail F_set_trail T CS) b_set_trail
  have S_wheel : Setr P w K mg base C .wheel "_wheel" := setr_mk (w8 := .wheel) tk_wheel ty_wheel rc_wheel (ok_SetWheel F_set_wheel T CS) b_set_wheel
  have R : RMk P w K mg base C := ⟨_, _, ⟨mk, ai, ii, kC⟩, ok_init F_init T S_hook S_relay S_clamp S_trail S_wheel, b_init0, k_init0⟩
  have M : ChM P w K mg base C := ⟨_, _, ⟨ac, ic, k_choice⟩, ok_choice F_choice T, b_choice⟩
  have C_check_image : Cal P w K mg base 1 "check_image" ["image"] (spCheck K) := cal_mk X G a_check_image F_check_image (ok_check F_check_image B) b_check_image
  have C_groups : Cal P w K mg base 2 "groups" ["image"] (spGroups K) := cal_mk X G a_groups F_groups (ok_groups F_groups B C_check_image) b_groups
  have C__walk : Cal P w K mg base 1 "_walk" ["image", "start"] (spWalk K) := cal_mk X G a__walk F__walk (ok_walk F__walk) b__walk
  have C_form_of : Cal P w K mg base 2 "form_of" ["image", "group"] (spForm K) := cal_mk X G a_form_of F_form_of (ok_form F_form_of B C__walk S ⟨tL, PySem.W.mg_of X G aL⟩) b_form_of
  have C_first_bad : Cal P w K mg base 3 "first_bad" ["image"] (spFirst K) := cal_mk X G a_first_bad F_first_bad (ok_first F_first_bad C_groups C_form_of) b_first_bad
  have C_is_repairable : Cal P w K mg base 4 "is_repairable" ["image"] (spIsRep K) := cal_mk X G a_is_repairable F_is_repairable (ok_isrep F_is_repairable C_first_bad) b_is_repairable
  have C_pieces : Cal P w K mg base 3 "pieces" ["image"] (spPieces K) := cal_mk X G a_pieces F_pieces (ok_pieces F_pieces C_groups C_form_of) b_pieces
  have C_torn_pieces : Cal P w K mg base 4 "torn_pieces" ["image"] (spTornP K) := cal_mk X G a_torn_pieces F_torn_pieces (ok_tornp F_torn_pieces C_pieces (PySem.W.mg_of X G aW) (ktup_mk lW (by show 2 ≤ sizeLine; decide) (.cons ⟨_, rfl⟩ (.cons ⟨_, rfl⟩ .nil)))) b_torn_pieces
  have C_standard : Cal P w K mg base 6 "standard" ["rules"] (spStandard C) := cal_mk X G a_standard F_standard (ok_standard F_standard R hC) b_standard
  have C_piece_sides : Cal P w K mg base 1 "piece_sides" ["word", "records"] spSides := cal_mk X G a_piece_sides F_piece_sides (ok_sides F_piece_sides B O) b_piece_sides
  have C_mended_piece : Cal P w K mg base 7 "mended_piece" ["word", "records", "rules"] (spMended C) := cal_mk X G a_mended_piece F_mended_piece (ok_mended F_mended_piece B C_piece_sides C_standard T M CS) b_mended_piece
  have C_repaired : Cal P w K mg base 8 "repaired" ["image", "rules"] (spRepaired K C) := cal_mk X G a_repaired F_repaired (ok_repaired F_repaired B C_pieces C_standard C_mended_piece) b_repaired
  have C__law_integer : Cal P w K mg base 1 "_law_integer" ["_law_value"] spInteger := cal_mk X G a__law_integer F__law_integer (ok_integer F__law_integer B) b__law_integer
  have C__law_cell : Cal P w K mg base 1 "_law_cell" ["_law_script", "_law_k"] (spCell K) := cal_mk X G a__law_cell F__law_cell (ok_cell F__law_cell B) b__law_cell
  have C__law_stream : Cal P w K mg base 2 "_law_stream" ["_law_script", "_law_k"] (spStream K) := cal_mk X G a__law_stream F__law_stream (ok_stream F__law_stream B C__law_cell) b__law_stream
  have C__law_draw : Cal P w K mg base 1 "_law_draw" ["_law_stream_here", "_law_size_here"] spDraw := cal_mk X G a__law_draw F__law_draw (ok_draw F__law_draw B) b__law_draw
  have C__law_size : Cal P w K mg base 2 "_law_size" ["_law_stream_here"] spSize := cal_mk X G a__law_size F__law_size (ok_size F__law_size C__law_draw) b__law_size
  have C__law_order : Cal P w K mg base 2 "_law_order" ["_law_stream_here", "_law_size_here"] spOrder := cal_mk X G a__law_order F__law_order (ok_order F__law_order B C__law_draw) b__law_order
  have C__law_length : Cal P w K mg base 1 "_law_length" ["_law_word"] spLength := cal_mk X G a__law_length F__law_length (ok_length F__law_length) b__law_length
  have C__law_sides : Cal P w K mg base 1 "_law_sides" ["_law_word", "_law_p"] (spLSides K) := cal_mk X G a__law_sides F__law_sides (ok_lsides F__law_sides) b__law_sides
  have C__law_world : Cal P w K mg base 3 "_law_world" ["_law_stream_here", "_law_size_here"] spWorld := cal_mk X G a__law_world F__law_world (ok_world F__law_world B C__law_draw C__law_order C__law_length C__law_sides) b__law_world
  have C__law_written : Cal P w K mg base 2 "_law_written" ["_law_stream_here", "_law_part"] (spWritten K) := cal_mk X G a__law_written F__law_written (ok_written F__law_written B C__law_draw) b__law_written
  have C__law_row : Cal P w K mg base 2 "_law_row" ["_law_told", "_law_size_here"] spRow := cal_mk X G a__law_row F__law_row (ok_row F__law_row B C__law_integer) b__law_row
  have C__law_kept : Cal P w K mg base 1 "_law_kept" ["_law_told", "_law_before", "_law_after", "_law_image", "_law_writers"] (spKept K) := cal_mk X G a__law_kept F__law_kept (ok_kept F__law_kept B) b__law_kept
  have C__law_torn : Cal P w K mg base 1 "_law_torn" ["_law_after", "_law_image", "_law_writers"] (spLTorn K) := cal_mk X G a__law_torn F__law_torn (ok_ltorn F__law_torn B) b__law_torn
  have RC : RCls K C := ⟨.type "type", _, _, na, ⟨rd, ga⟩, ⟨aCo, ⟨_, rfl⟩⟩, ⟨aNa, rfl⟩, ktup_mk lNa (by show 5 ≤ sizeLine; decide) (.cons ⟨_, rfl⟩ (.cons ⟨_, rfl⟩ (.cons ⟨_, rfl⟩ (.cons ⟨_, rfl⟩ (.cons ⟨_, rfl⟩ .nil)))))⟩
  have N : NumC P w K mg base C := ⟨.type "type", pN, gN, ⟨rd, ga⟩, ⟨aN, ⟨_, rN⟩, fN⟩, ((ok_numbered F_numbered B R RC CS).raw b_numbered .nil).imp fun vs H Q E h => by rw [List.append_nil]; exact h⟩
  have C9 : RepC P w K mg base C := by
    refine ⟨_, _, ok_repair F_repair C_repaired, PySem.W.mg_of X G a_repair, F_repair.kp, b_repair1, ?_⟩
    obtain ⟨ds, hv, hb⟩ := b_repair2
    cases hv
    exact hb
  exact ok_law F_law B hC C__law_stream C__law_size C__law_draw C__law_world C__law_written C_is_repairable C_torn_pieces C__law_torn C9 C__law_row C__law_kept N
theorem walk {l : PySem.W.OpenLaw} {q : Program} {loose : List Str} {XP : (Str → Option Value) → Heap → Prop} {YP : World → Heap → Prop} {d : DefRec} {K : Params → PySem.W.Frag} (hn : l.most = some 63) (hdf : d.params.defaults = [])
    (hY : ∀ (w : World) (h : Heap), YP w h → (K w.params).In h)
    (F : ∀ (w : World) (mg : Str → Option Value) (fa : Addr) (h : Heap), (K w.params).In h → h.Ns mainGlobals mg → mg d.name = some (.ref fa) →
      ∃ fd : FuncData, (∀ (s : Shared) (u : Value), BindsTo s fd ⟨[u], []⟩ [("_law_script", u)]) ∧ ∀ base : Heap, (K w.params).In base → base.Ns mainGlobals mg → FnOk l.prog w (K w.params) mg base CX0 10 fa fd ["_law_script"] (spLaw (K w.params))) :
    PySem.W.WalkO q loose XP YP l.row.toRowW d [] (fun f vs => PySem.call f vs) :=
  L2.walk_of (n := 63) (k := 10) (x := "_law_script") (CX := fun _ => CX0) (sp := fun w => spLaw (K w.params)) hn (by decide) hdf ⟨rfl, by decide, by decide⟩ hY F (fun _ _ a ns hl _ hS => ⟨a, ns, rfl, hS, hl, fun _ => rfl⟩) fun _ _ _ _ _ z => z
end KW
end
section
open PySem PySem.W PyProof.Rows
set_option maxRecDepth 100000 in
set_option maxHeartbeats 0 in
theorem PySem.Challenge.cw_peermend_k14_whole_hidden_writers_holds : PySem.Challenge.rw_peermend_k14_whole_hidden_writers.Holds := by
  w_on; o_law; k_head; (case hw => w_witness2)
  k_fill
  refine KW.walk (l := PySem.Challenge.rw_peermend_k14_whole_hidden_writers) rfl rfl (fun w h Y => PySem.W.kIn_of Y) ?F
  case F =>
    intro w mg fa h KX G hmg
    refine' KW.all_mk KX G ?PB ?PS ?PC ?PO hmg ?A_aC ?A_aL ?A_aW ?A_lW ?A_a_check_image ?A_l_check_image ?A_c_check_image ?A_k_check_image ?A_a_groups ?A_l_groups ?A_c_groups ?A_k_groups ?A_a__walk ?A_l__walk ?A_c__walk ?A_k__walk ?A_a_form_of ?A_l_form_of ?A_c_form_of ?A_k_form_of ?A_a_first_bad ?A_l_first_bad ?A_c_first_bad ?A_k_first_bad ?A_a_is_repairable ?A_l_is_repairable ?A_c_is_repairable ?A_k_is_repairable ?A_a_pieces ?A_l_pieces ?A_c_pieces ?A_k_pieces ?A_a_torn_pieces ?A_l_torn_pieces ?A_c_torn_pieces ?A_k_torn_pieces ?A_a_standard ?A_l_standard ?A_c_standard ?A_k_standard ?A_a_piece_sides ?A_l_piece_sides ?A_c_piece_sides ?A_k_piece_sides ?A_a_mended_piece ?A_l_mended_piece ?A_c_mended_piece ?A_k_mended_piece ?A_a_repaired ?A_l_repaired ?A_c_repaired ?A_k_repaired ?A_a__law_integer ?A_l__law_integer ?A_c__law_integer ?A_k__law_integer ?A_a__law_cell ?A_l__law_cell ?A_c__law_cell ?A_k__law_cell ?A_a__law_stream ?A_l__law_stream ?A_c__law_stream ?A_k__law_stream ?A_a__law_draw ?A_l__law_draw ?A_c__law_draw ?A_k__law_draw ?A_a__law_size ?A_l__law_size ?A_c__law_size ?A_k__law_size ?A_a__law_order ?A_l__law_order ?A_c__law_order ?A_k__law_order ?A_a__law_length ?A_l__law_length ?A_c__law_length ?A_k__law_length ?A_a__law_sides ?A_l__law_sides ?A_c__law_sides ?A_k__law_sides ?A_a__law_world ?A_l__law_world ?A_c__law_world ?A_k__law_world ?A_a__law_written ?A_l__law_written ?A_c__law_written ?A_k__law_written ?A_a__law_row ?A_l__law_row ?A_c__law_row ?A_k__law_row ?A_a__law_kept ?A_l__law_kept ?A_c__law_kept ?A_k__law_kept ?A_a__law_torn ?A_l__law_torn ?A_c__law_torn ?A_k__law_torn ?A_a_repair ?A_l_repair ?A_c_repair ?A_k_repair ?A_lT ?A_a_law ?A_l_law ?A_c_law ?A_k_law ?A_pg ?A_hd ?A_po ?A_sa ?A_no_hook ?A_no_relay ?A_no_clamp ?A_no_trail ?A_no_wheel ?A_tk_hook ?A_ty_hook ?A_rc_hook ?A_l_set_hook ?A_c_set_hook ?A_k_set_hook ?A_tk_relay ?A_ty_relay ?A_rc_relay ?A_l_set_relay ?A_c_set_relay ?A_k_set_relay ?A_tk_clamp ?A_ty_clamp ?A_rc_clamp ?A_l_set_clamp ?A_c_set_clamp ?A_k_set_clamp ?A_tk_trail ?A_ty_trail ?A_rc_trail ?A_l_set_trail ?A_c_set_trail ?A_k_set_trail ?A_tk_wheel ?A_ty_wheel ?A_rc_wheel ?A_l_set_wheel ?A_c_set_wheel ?A_k_set_wheel ?A_mk ?A_ai ?A_ii ?A_kC ?A_l_init ?A_c_init ?A_k_init ?A_d_hook ?A_d_relay ?A_d_clamp ?A_d_trail ?A_d_wheel ?A_ac ?A_ic ?A_l_choice ?A_c_choice ?A_k_choice ?A_rd ?A_ga ?A_aCo ?A_aNa ?A_lNa ?A_aN ?A_rN ?A_fN ?A_l_numbered ?A_c_numbered ?A_k_numbered
    case PB =>
      refine' KW.bn_mk KX G ?B_z_len ?B_z_range ?B_z_list ?B_z_enumerate ?B_z_min ?B_z_max ?B_z_tuple ?B_z_zip ?B_z_sorted ?B_z_isinstance ?B_z_int ?B_z_bool ?B_z_divmod
      (case B_z_len => k_is)
      (case B_z_range => k_is)
      (case B_z_list => k_is)
      (case B_z_enumerate => k_is)
      (case B_z_min => k_is)
      (case B_z_max => k_is)
      (case B_z_tuple => k_is)
      (case B_z_zip => k_is)
      (case B_z_sorted => k_is)
      (case B_z_isinstance => k_is)
      (case B_z_int => k_is)
      (case B_z_bool => k_is)
      (case B_z_divmod => k_is)
    case PS =>
      refine' KW.shp_mk KX G ?S_as ?S_ls ?S_l0 ?S_l1 ?S_l2 ?S_l3 ?S_l4 ?S_l5 ?S_l6 ?S_l7 ?S_hsa
      (case S_as => k_is)
      (case S_ls => k_is)
      (case S_l0 => k_is)
      (case S_l1 => k_is)
      (case S_l2 => k_is)
      (case S_l3 => k_is)
      (case S_l4 => k_is)
      (case S_l5 => k_is)
      (case S_l6 => k_is)
      (case S_l7 => k_is)
      (case S_hsa => rfl)
    case PC =>
      refine' KW.chs_mk KX G ?CS_as ?CS_ls ?CS_e0 ?CS_l0 ?CS_e1 ?CS_l1 ?CS_e2 ?CS_l2 ?CS_e3 ?CS_l3 ?CS_e4 ?CS_l4
      (case CS_as => k_is)
      (case CS_ls => k_is)
      (case CS_e0 => k_is)
      (case CS_l0 => k_is)
      (case CS_e1 => k_is)
      (case CS_l1 => k_is)
      (case CS_e2 => k_is)
      (case CS_l2 => k_is)
      (case CS_e3 => k_is)
      (case CS_l3 => k_is)
      (case CS_e4 => k_is)
      (case CS_l4 => k_is)
    case PO =>
      refine' KW.outs_mk KX G ?O_as ?O_ls ?O_e0 ?O_l0 ?O_l0_0 ?O_e1 ?O_l1 ?O_l1_0 ?O_e2 ?O_l2 ?O_l2_0 ?O_e3 ?O_l3 ?O_l3_0 ?O_l3_1 ?O_e4 ?O_l4 ?O_l4_0 ?O_l4_1 ?O_e5 ?O_l5 ?O_l5_0 ?O_l5_1 ?O_e6 ?O_l6 ?O_l6_0 ?O_l6_1 ?O_e7 ?O_l7 ?O_l7_0 ?O_l7_1
      (case O_as => k_is)
      (case O_ls => k_is)
      (case O_e0 => k_is)
      (case O_l0 => k_is)
      (case O_l0_0 => k_is)
      (case O_e1 => k_is)
      (case O_l1 => k_is)
      (case O_l1_0 => k_is)
      (case O_e2 => k_is)
      (case O_l2 => k_is)
      (case O_l2_0 => k_is)
      (case O_e3 => k_is)
      (case O_l3 => k_is)
      (case O_l3_0 => k_is)
      (case O_l3_1 => k_is)
      (case O_e4 => k_is)
      (case O_l4 => k_is)
      (case O_l4_0 => k_is)
      (case O_l4_1 => k_is)
      (case O_e5 => k_is)
      (case O_l5 => k_is)
      (case O_l5_0 => k_is)
      (case O_l5_1 => k_is)
      (case O_e6 => k_is)
      (case O_l6 => k_is)
      (case O_l6_0 => k_is)
      (case O_l6_1 => k_is)
      (case O_e7 => k_is)
      (case O_l7 => k_is)
      (case O_l7_0 => k_is)
      (case O_l7_1 => k_is)
    (case A_aC => k_is)
    (case A_aL => k_is)
    (case A_aW => k_is)
    (case A_lW => k_is)
    (case A_a_check_image => k_is)
    (case A_l_check_image => k_is)
    (case A_c_check_image => k_is)
    (case A_k_check_image => k_is)
    (case A_a_groups => k_is)
    (case A_l_groups => k_is)
    (case A_c_groups => k_is)
    (case A_k_groups => k_is)
    (case A_a__walk => k_is)
    (case A_l__walk => k_is)
    (case A_c__walk => k_is)
    (case A_k__walk => k_is)
    (case A_a_form_of => k_is)
    (case A_l_form_of => k_is)
    (case A_c_form_of => k_is)
    (case A_k_form_of => k_is)
    (case A_a_first_bad => k_is)
    (case A_l_first_bad => k_is)
    (case A_c_first_bad => k_is)
    (case A_k_first_bad => k_is)
    (case A_a_is_repairable => k_is)
    (case A_l_is_repairable => k_is)
    (case A_c_is_repairable => k_is)
    (case A_k_is_repairable => k_is)
    (case A_a_pieces => k_is)
    (case A_l_pieces => k_is)
    (case A_c_pieces => k_is)
    (case A_k_pieces => k_is)
    (case A_a_torn_pieces => k_is)
    (case A_l_torn_pieces => k_is)
    (case A_c_torn_pieces => k_is)
    (case A_k_torn_pieces => k_is)
    (case A_a_standard => k_is)
    (case A_l_standard => k_is)
    (case A_c_standard => k_is)
    (case A_k_standard => k_is)
    (case A_a_piece_sides => k_is)
    (case A_l_piece_sides => k_is)
    (case A_c_piece_sides => k_is)
    (case A_k_piece_sides => k_is)
    (case A_a_mended_piece => k_is)
    (case A_l_mended_piece => k_is)
    (case A_c_mended_piece => k_is)
    (case A_k_mended_piece => k_is)
    (case A_a_repaired => k_is)
    (case A_l_repaired => k_is)
    (case A_c_repaired => k_is)
    (case A_k_repaired => k_is)
    (case A_a__law_integer => k_is)
    (case A_l__law_integer => k_is)
    (case A_c__law_integer => k_is)
    (case A_k__law_integer => k_is)
    (case A_a__law_cell => k_is)
    (case A_l__law_cell => k_is)
    (case A_c__law_cell => k_is)
    (case A_k__law_cell => k_is)
    (case A_a__law_stream => k_is)
    (case A_l__law_stream => k_is)
    (case A_c__law_stream => k_is)
    (case A_k__law_stream => k_is)
    (case A_a__law_draw => k_is)
    (case A_l__law_draw => k_is)
    (case A_c__law_draw => k_is)
    (case A_k__law_draw => k_is)
    (case A_a__law_size => k_is)
    (case A_l__law_size => k_is)
    (case A_c__law_size => k_is)
    (case A_k__law_size => k_is)
    (case A_a__law_order => k_is)
    (case A_l__law_order => k_is)
    (case A_c__law_order => k_is)
    (case A_k__law_order => k_is)
    (case A_a__law_length => k_is)
    (case A_l__law_length => k_is)
    (case A_c__law_length => k_is)
    (case A_k__law_length => k_is)
    (case A_a__law_sides => k_is)
    (case A_l__law_sides => k_is)
    (case A_c__law_sides => k_is)
    (case A_k__law_sides => k_is)
    (case A_a__law_world => k_is)
    (case A_l__law_world => k_is)
    (case A_c__law_world => k_is)
    (case A_k__law_world => k_is)
    (case A_a__law_written => k_is)
    (case A_l__law_written => k_is)
    (case A_c__law_written => k_is)
    (case A_k__law_written => k_is)
    (case A_a__law_row => k_is)
    (case A_l__law_row => k_is)
    (case A_c__law_row => k_is)
    (case A_k__law_row => k_is)
    (case A_a__law_kept => k_is)
    (case A_l__law_kept => k_is)
    (case A_c__law_kept => k_is)
    (case A_k__law_kept => k_is)
    (case A_a__law_torn => k_is)
    (case A_l__law_torn => k_is)
    (case A_c__law_torn => k_is)
    (case A_k__law_torn => k_is)
    (case A_a_repair => k_is)
    (case A_l_repair => k_is)
    (case A_c_repair => k_is)
    (case A_k_repair => k_is)
    (case A_lT => k_is)
    (case A_a_law => k_is)
    (case A_l_law => k_is)
    (case A_c_law => k_is)
    (case A_k_law => k_is)
    (case A_pg => k_is)
    (case A_hd => k_is)
    (case A_po => k_is)
    (case A_sa => k_is)
    (case A_no_hook => k_is)
    (case A_no_relay => k_is)
    (case A_no_clamp => k_is)
    (case A_no_trail => k_is)
    (case A_no_wheel => k_is)
    (case A_tk_hook => k_is)
    (case A_ty_hook => k_is)
    (case A_rc_hook => k_is)
    (case A_l_set_hook => k_is)
    (case A_c_set_hook => k_is)
    (case A_k_set_hook => k_is)
    (case A_tk_relay => k_is)
    (case A_ty_relay => k_is)
    (case A_rc_relay => k_is)
    (case A_l_set_relay => k_is)
    (case A_c_set_relay => k_is)
    (case A_k_set_relay => k_is)
    (case A_tk_clamp => k_is)
    (case A_ty_clamp => k_is)
    (case A_rc_clamp => k_is)
    (case A_l_set_clamp => k_is)
    (case A_c_set_clamp => k_is)
    (case A_k_set_clamp => k_is)
    (case A_tk_trail => k_is)
    (case A_ty_trail => k_is)
    (case A_rc_trail => k_is)
    (case A_l_set_trail => k_is)
    (case A_c_set_trail => k_is)
    (case A_k_set_trail => k_is)
    (case A_tk_wheel => k_is)
    (case A_ty_wheel => k_is)
    (case A_rc_wheel => k_is)
    (case A_l_set_wheel => k_is)
    (case A_c_set_wheel => k_is)
    (case A_k_set_wheel => k_is)
    (case A_mk => k_is)
    (case A_ai => k_is)
    (case A_ii => k_is)
    (case A_kC => k_is)
    (case A_l_init => k_is)
    (case A_c_init => k_is)
    (case A_k_init => k_is)
    (case A_d_hook => k_is)
    (case A_d_relay => k_is)
    (case A_d_clamp => k_is)
    (case A_d_trail => k_is)
    (case A_d_wheel => k_is)
    (case A_ac => k_is)
    (case A_ic => k_is)
    (case A_l_choice => k_is)
    (case A_c_choice => k_is)
    (case A_k_choice => k_is)
    (case A_rd => k_is)
    (case A_ga => k_is)
    (case A_aCo => k_is)
    (case A_aNa => k_is)
    (case A_lNa => k_is)
    (case A_aN => k_is)
    (case A_rN => k_is)
    (case A_fN => k_is)
    (case A_l_numbered => k_is)
    (case A_c_numbered => k_is)
    (case A_k_numbered => k_is)
end
